import PyProof.Rows.All
import Wide.All
import OpenK.AllK
import Wide.FinOn
import HandS.HeadHook2
import HandS.HeadHook4
import HandS.ExcOwn
import HandS.ExcInit
import HandS.Head2
import HandS.ForMost
import HandS.IsInst
import HandS.Defaults
import HandS.Deep
import HandS.SortInts
import HandS.Conv
import HandS.Style
import KE.DataEq
import HandS.ExcField
import HandS.Nested
import HandS.FStr
import KE.KExcSuper
import HandS.ExcIs
import KE.KExcIs
import HandS.Zip
import KE.LtSeq
import HandS.CallSlots
import KE.SortData
import KE.DataFind
import HandS.SetFor
import HandS.Strs
import HandS.Text
import PyProof.StrBlock2
import HandS.Flow
import KE.IntTextLaws
import KE.KStateDown
import HandS.More
import HandS.WordsExc
import HandS.Head0
import HandS.Head1
import HandS.HeadEnd
import HandS.HeadHook1
import PySem.Challenge.RW_veilcount_k63_boards_are_read_back
set_option Elab.async false
set_option linter.all false
set_option maxRecDepth 100000
set_option maxRecDepth 100000
set_option maxHeartbeats 4000000
namespace VF
set_option autoImplicit false
open PySem PySem.Spec PyProof.Rows L2
def addZ (m : Nat) : List Addr → Nat × List Addr
  | [] => (m, [])
  | a :: as => match Nat.beq ((m >>> a) % 2) 1 with
    | true => addZ m as
    | false => match addZ (m ||| (1 <<< a)) as with
      | (m2, l) => (m2, a :: l)
def refZ (g : Addr → Option Obj) (as : List Addr) : List Addr := as.flatMap fun a => match g a with
  | some o => He.refsD o
  | none => []
def goZ (g : Addr → Option Obj) : Nat → Nat → List Addr → List Addr
  | 0, _, _ => []
  | n + 1, m, fr => match addZ m (refZ g fr) with
    | (m2, l) => l ++ goZ g n m2 l
def asZ (g : Addr → Option Obj) (n : Nat) : List Addr := [mainGlobals, cStatics] ++ goZ g n ((1 <<< mainGlobals) ||| (1 <<< cStatics)) [mainGlobals, cStatics]
abbrev FnZ : Type := Option (Str × Str × Arguments × FuncBody × Scope × Addr × List Str × Addr)
def iniAt (K : PySem.W.Frag) (x : Str) : Addr := match PySem.W.findIn K (.ref (He.ga K x)) "__init__" with
  | some (some (.ref f)) => f
  | _ => 0
def fnZ (K : PySem.W.Frag) (a : Addr) : FnZ := match K.lookup a with
  | some ⟨_, _, .func fd, _⟩ => some (fd.name, fd.qualname, fd.params, fd.body, fd.scope, fd.globals, fd.closure.map (·.1), fd.builtins)
  | _ => none
structure IniD where
  cls : Str
  qual : Str
  params : Arguments
  body : List Stmt
  scope : Scope
def IniD.val (d : IniD) : FnZ := some ("__init__", d.qual, d.params, .stmts d.body, d.scope, mainGlobals, ["__class__"], builtinsNs)
abbrev AlZ : Type := He.AlD × (Bool × List FnZ)
def obsZ (n : Nat) (fa : List He.Fa) (fn : List He.DefD) (ex : PySem.W.Frag → Bool) (ini : List IniD) (g : Addr → Option Obj) : AlZ :=
  (He.obsD fa fn (He.frG g (asZ g n)), ex (He.frG g (asZ g n)), ini.map fun d => fnZ (He.frG g (asZ g n)) (iniAt (He.frG g (asZ g n)) d.cls))
def valZ (fn : List He.DefD) (ini : List IniD) : AlZ := (He.valD fn, true, ini.map IniD.val)
structure SaysZ (fa : List He.Fa) (fn : List He.DefD) (ex : PySem.W.Frag → Bool) (ini : List IniD) (K : PySem.W.Frag) : Prop where
  d : He.SaysD fa fn K
  more : ex K = true
  ini : (ini.map fun d => fnZ K (iniAt K d.cls)) = ini.map IniD.val
def hookZ (n : Nat) (fa : List He.Fa) (fn : List He.DefD) (ex : PySem.W.Frag → Bool) (ini : List IniD) : PySem.W.Hook where
  α := AlZ
  obs := fun s => obsZ n fa fn ex ini s.heap.get?
  val := fun _ => valZ fn ini
  says := fun _ h => ∃ K : PySem.W.Frag, K.In h ∧ SaysZ fa fn ex ini K
  of := fun _ _ e => ⟨_, He.frG_in, ⟨congrArg (fun z : AlZ => z.1) e, congrArg (fun z : AlZ => z.2.1) e, congrArg (fun z : AlZ => z.2.2) e⟩⟩
  keeps := fun _ _ _ ⟨K, hK, c⟩ k => ⟨K, PySem.W.Frag.In.keeps hK k, c⟩
theorem obsZ_eq {n : Nat} {fa : List He.Fa} {fn : List He.DefD} {ex : PySem.W.Frag → Bool} {ini : List IniD} {g : Addr → Option Obj} {s : Shared} (h : ∀ a, g a = s.heap.get? a) : obsZ n fa fn ex ini g = (hookZ n fa fn ex ini).obs s := by
  have e : g = s.heap.get? := funext h
  rw [e] <;> rfl
theorem SaysZ.at {fa : List He.Fa} {fn : List He.DefD} {ex : PySem.W.Frag → Bool} {ini : List IniD} {K : PySem.W.Frag} (c : SaysZ fa fn ex ini K) (i : Nat) {d : IniD} (h : ini[i]? = some d := by rfl) : fnZ K (iniAt K d.cls) = d.val := by
  have e2 : (ini.map fun d => fnZ K (iniAt K d.cls))[i]? = (ini.map IniD.val)[i]? := by rw [c.ini]
  rw [List.getElem?_map, List.getElem?_map, h] at e2
  exact Option.some.inj e2
theorem ba {a b : Bool} (h : (a && b) = true) : a = true ∧ b = true := Bool.and_eq_true_iff.mp h
def oexB (K : PySem.W.Frag) (C : Addr) : Bool := match K.lookup C with
  | some ⟨.type "type", _, .cls cd, sl⟩ => (match cd.mro, sl.toList with
    | .ref C' :: bm, [_, _, _, _, some (.builtin n), _] => decide (C' = C) && (decide (n = "ValueError.__new__") && (!cd.hasDel && (cd.hasDict && HandSPX.refsVE bm)))
    | _, _ => false)
  | _ => false
def oexB2 (K : PySem.W.Frag) (C : Addr) : Bool := decide (PySem.W.findIn K (.ref C) "__setattr__" = some (some (.builtin "object.__setattr__"))) && (decide (PySem.W.subIn K (.ref C) (.type "BaseException") = some true) && (decide (PySem.W.typeIn K (.ref C) = some (.type "type")) && PySem.W.keepIn K (.ref C)))
def clsB (K : PySem.W.Frag) (C : Addr) : Bool := (PySem.W.clsIn K C).isSome
def cellB (P : Program) (K : PySem.W.Frag) (C f : Addr) (q : Str) : Bool := match K.lookup f with
  | some ⟨_, _, .func fd, _⟩ => (match fd.closure, fd.code, fd.defaults with
    | [(_, cc)], .ref cda, .none => PySem.W.codeIn K (.ref cda) q && ((match K.lookup cda with
      | some ⟨_, _, .fields vs, _⟩ => (match (vs[2]? : Option Value) with
        | some (Value.str file _) => ((P.main.file : Str) == file)
        | _ => false)
      | _ => false) && (match K.lookup cc with
      | some ⟨_, _, .cell (some (.ref D)), _⟩ => decide (D = C)
      | _ => false))
    | _, _, _ => false)
  | _ => false
def iniB (P : Program) (K : PySem.W.Frag) (C f : Addr) (q : Str) : Bool := oexB K C && (oexB2 K C && (cellB P K C f q && (clsB K C && (decide (PySem.W.mroIn K C (.ref C) = some true) && (!(P.main.scope.names.lookup ("super" : Str)).isSome && (decide (PySem.W.nsIn K cStatics "thirdparty.any" = some none) &&
  (decide (PySem.W.ks_superIn K C C "__init__" = some (some (.builtin "ValueError.__init__"))) && (decide (PySem.W.subIn K (.ref C) (.type "ValueError") = some true) && (decide (PySem.W.findIn K (.ref C) "__init__" = some (some (.ref f))) && decide (PySem.W.typeIn K (.ref f) = some (.type "function")))))))))))
def clsFirst : Stmt → Stmt
  | .ClassDef _ _ _ b _ _ _ _ _ _ _ => b.getD 0 (.Pass ⟨0, 0, 0, 0⟩)
  | s => s
theorem runEq_of {r : PySem.W.OpenRow} {q : Program} {H : PySem.W.Hook} {ob : PySem.W.SharedT → H.α} {M : Nat} {loose : List Str} {w : World}
    (h1 : ∀ os : OsState, (HandSHeadRun.endF (HandSHeadRun.stepQ (HandSHeadRun.denQ HandSHeadRun.tabQ) r.prog w) M r.prog w os).map (fun s => HandSHeadRun.looksF r.prog (PySem.W.boot_heap w.params) s.abs) = some true)
    (h2 : ∀ os : OsState, (HandSHeadRun.endF (HandSHeadRun.stepQ (HandSHeadRun.denQ HandSHeadRun.tabQ) r.prog w) M r.prog w os).map (fun s => HandSHeadRun.seenQ q loose (importedModules r.prog.main.body) (fun s => PySem.W.xlAt q [] s && PySem.W.recOk r.toRowW.records s) s.abs) = some (PySem.W.openGood q loose))
    (h3 : ∀ os : OsState, (HandSHeadRun.endF (HandSHeadRun.stepQ (HandSHeadRun.denQ HandSHeadRun.tabQ) r.prog w) M r.prog w os).map ob = some (H.val w)) : HandSHeadRun.RunEq r q H ob M loose w := by
  intro os
  have a1 := h1 os
  have a2 := h2 os
  have a3 := h3 os
  cases z : HandSHeadRun.endF (HandSHeadRun.stepQ (HandSHeadRun.denQ HandSHeadRun.tabQ) r.prog w) M r.prog w os with
  | none => rw [z] at a1; cases a1
  | some s =>
    rw [z] at a1 a2 a3
    rw [Option.map_some] at a1 a2 a3
    rw [Option.map_some, Option.some.inj a1, Option.some.inj a2, Option.some.inj a3]
end VF
set_option maxHeartbeats 0
namespace V
open PySem PySem.Spec PyProof.Rows L2 VF
def top (i : Nat) : Stmt := PySem.Challenge.pw_veilcount_k63_boards_are_read_back.main.body.getD i (.Pass ⟨0, 0, 0, 0⟩)
abbrev s_total : Stmt := top 4
abbrev s_read_number : Stmt := top 7
abbrev s_write_row : Stmt := top 9
abbrev s_write_board : Stmt := top 10
abbrev s_read_prime : Stmt := top 11
abbrev s_read_row : Stmt := top 12
abbrev s_read_board : Stmt := top 13
abbrev s__law_cell : Stmt := top 15
abbrev s__law_row : Stmt := top 16
abbrev s__law_box : Stmt := top 17
abbrev s__law_draw : Stmt := top 18
abbrev s__law_same : Stmt := top 19
abbrev s__law_plain : Stmt := top 20
abbrev s__law_good : Stmt := top 21
abbrev s__law_read : Stmt := top 22
abbrev s_law : Stmt := top 23
abbrev si_LineError : Stmt := clsFirst (top 2)
abbrev Z_LineError : IniD := ⟨"LineError", "LineError.__init__", defArgs si_LineError, defBody si_LineError, defScope si_LineError⟩
def D_total : He.DefD := ⟨("total", none), "total", "total", defArgs s_total, defBody s_total, defScope s_total, [], []⟩
def D_read_number : He.DefD := ⟨("read_number", none), "read_number", "read_number", defArgs s_read_number, defBody s_read_number, defScope s_read_number, [], []⟩
def D_write_row : He.DefD := ⟨("write_row", none), "write_row", "write_row", defArgs s_write_row, defBody s_write_row, defScope s_write_row, [], []⟩
def D_write_board : He.DefD := ⟨("write_board", none), "write_board", "write_board", defArgs s_write_board, defBody s_write_board, defScope s_write_board, [], []⟩
def D_read_prime : He.DefD := ⟨("read_prime", none), "read_prime", "read_prime", defArgs s_read_prime, defBody s_read_prime, defScope s_read_prime, [], []⟩
def D_read_row : He.DefD := ⟨("read_row", none), "read_row", "read_row", defArgs s_read_row, defBody s_read_row, defScope s_read_row, [], []⟩
def D_read_board : He.DefD := ⟨("read_board", none), "read_board", "read_board", defArgs s_read_board, defBody s_read_board, defScope s_read_board, [], []⟩
def D__law_cell : He.DefD := ⟨("_law_cell", none), "_law_cell", "_law_cell", defArgs s__law_cell, defBody s__law_cell, defScope s__law_cell, [], []⟩
def D__law_row : He.DefD := ⟨("_law_row", none), "_law_row", "_law_row", defArgs s__law_row, defBody s__law_row, defScope s__law_row, [], []⟩
def D__law_box : He.DefD := ⟨("_law_box", none), "_law_box", "_law_box", defArgs s__law_box, defBody s__law_box, defScope s__law_box, [], []⟩
def D__law_draw : He.DefD := ⟨("_law_draw", none), "_law_draw", "_law_draw", defArgs s__law_draw, defBody s__law_draw, defScope s__law_draw, [], []⟩
def D__law_same : He.DefD := ⟨("_law_same", none), "_law_same", "_law_same", defArgs s__law_same, defBody s__law_same, defScope s__law_same, [], []⟩
def D__law_plain : He.DefD := ⟨("_law_plain", none), "_law_plain", "_law_plain", defArgs s__law_plain, defBody s__law_plain, defScope s__law_plain, [], []⟩
def D__law_good : He.DefD := ⟨("_law_good", none), "_law_good", "_law_good", defArgs s__law_good, defBody s__law_good, defScope s__law_good, [], []⟩
def D__law_read : He.DefD := ⟨("_law_read", none), "_law_read", "_law_read", defArgs s__law_read, defBody s__law_read, defScope s__law_read, [], []⟩
def D_law : He.DefD := ⟨("law", none), "law", "law", defArgs s_law, defBody s_law, defScope s_law, [], []⟩
def fn : List He.DefD := [D_total, D_read_number, D_write_row, D_write_board, D_read_prime, D_read_row, D_read_board, D__law_cell, D__law_row, D__law_box, D__law_draw, D__law_same, D__law_plain, D__law_good, D__law_read, D_law]
def fa : List He.Fa := [.glo "total", .glo "read_number", .glo "write_row", .glo "write_board", .glo "read_prime", .glo "read_row", .glo "read_board", .glo "_law_cell", .glo "_law_row", .glo "_law_box", .glo "_law_draw", .glo "_law_same", .glo "_law_plain", .glo "_law_good", .glo "_law_read", .glo "law", .free "ValueError", .free "enumerate", .free "int", .free "len", .free "max", .free "range", .free "repr", .free "str", .free "sum", .free "super", .glo "LineError", .exm "LineError" "LineError" true, .str "FIGURES" "0123456789"]
abbrev R : PySem.W.OpenRow := PySem.W.OpenLaw.row PySem.Challenge.rw_veilcount_k63_boards_are_read_back
abbrev PR : Program := PySem.W.OpenLaw.prog PySem.Challenge.rw_veilcount_k63_boards_are_read_back
def ex (K : PySem.W.Frag) : Bool := (iniB PR K (He.ga K "LineError") (iniAt K "LineError") "LineError.__init__" && (xfB K (He.ga K "LineError") && (decide (PySem.W.findIn K (.ref (He.ga K "LineError")) "line" = some none) && true)))
def ini : List IniD := [Z_LineError]
abbrev hk : PySem.W.Hook := hookZ 5 fa fn ex ini
def ob (s : PySem.W.SharedT) : AlZ := obsZ 5 fa fn ex ini (HandSHeadRun.getT s)
def loose : List Str := (["__name__", "VeilError", "LineError", "total", "FIGURES", "read_number", "write_row", "write_board", "read_prime", "read_row", "read_board", "_law_cell", "_law_row", "_law_box", "_law_draw", "_law_same", "_law_plain", "_law_good", "_law_read"] : List Str)
theorem run1 (w : World) : ∀ os : OsState, (HandSHeadRun.endF (HandSHeadRun.stepQ (HandSHeadRun.denQ HandSHeadRun.tabQ) R.prog w) 4000 R.prog w os).map (fun s => HandSHeadRun.looksF R.prog (PySem.W.boot_heap w.params) s.abs) = some true := by
  intro os
  kernel_rfl
theorem run2 (w : World) : ∀ os : OsState, (HandSHeadRun.endF (HandSHeadRun.stepQ (HandSHeadRun.denQ HandSHeadRun.tabQ) R.prog w) 4000 R.prog w os).map (fun s => HandSHeadRun.seenQ (PySem.W.view R.prog [23]) loose (importedModules R.prog.main.body) (fun s => PySem.W.xlAt (PySem.W.view R.prog [23]) [] s && PySem.W.recOk R.toRowW.records s) s.abs) = some (PySem.W.openGood (PySem.W.view R.prog [23]) loose) := by
  intro os
  kernel_rfl
theorem run3 (w : World) : ∀ os : OsState, (HandSHeadRun.endF (HandSHeadRun.stepQ (HandSHeadRun.denQ HandSHeadRun.tabQ) R.prog w) 4000 R.prog w os).map ob = some (hk.val w) := by
  intro os
  kernel_rfl
theorem run (w : World) : HandSHeadRun.RunEq R (PySem.W.view R.prog [23]) hk ob 4000 loose w := VF.runEq_of (run1 w) (run2 w) (run3 w)
end V
set_option maxHeartbeats 4000000
set_option maxRecDepth 100000
set_option maxHeartbeats 4000000
namespace VF
set_option autoImplicit false
open PySem PySem.Spec PyProof.Rows L2
inductive D where
  | non | bl (b : Bool) | int (i : Int) | str (s : Str) | ty (n : String)
  | lst (xs : List D) | tup (xs : List D) | dct (ks : List Key) (xs : List D) | obj (c : Str) (ns : List Str) (xs : List D)
  | scr (ns : List Int)
  | hl
  deriving Inhabited
inductive SV where
  | fz (d : D) | ol (xs : List SV) | oo (c : Str) (ns : List Str) (xs : List SV) | od (ks : List Key) (xs : List SV)
  deriving Inhabited
inductive AT where
  | fz (v : V) (d : D) | ol (p : Addr) (xs : List AT) | oo (p C dx : Addr) (c : Str) (ns : List Str) (xs : List AT) | od (p : Addr) (ks : List Key) (xs : List AT)
def AT.val : AT → V
  | .fz v _ => v
  | .ol p _ => .ref p
  | .oo p _ _ _ _ _ => .ref p
  | .od p _ _ => .ref p
mutual
def SV.toD : SV → D
  | .fz d => d
  | .ol xs => .lst (SV.toDs xs)
  | .oo c ns xs => .obj c ns (SV.toDs xs)
  | .od ks xs => .dct ks (SV.toDs xs)
def SV.toDs : List SV → List D
  | [] => []
  | x :: xs => SV.toD x :: SV.toDs xs
end
mutual
def AT.er : AT → SV
  | .fz _ d => .fz d
  | .ol _ xs => .ol (AT.ers xs)
  | .oo _ _ _ c ns xs => .oo c ns (AT.ers xs)
  | .od _ ks xs => .od ks (AT.ers xs)
def AT.ers : List AT → List SV
  | [] => []
  | x :: xs => AT.er x :: AT.ers xs
end
def vals (xs : List AT) : List V := xs.map AT.val
mutual
def AT.cells : AT → List (Addr × HO)
  | .fz _ _ => []
  | .ol p xs => (p, .lst (vals xs)) :: AT.cellsL xs
  | .oo p C dx _ ns xs => (p, .ins C dx (ns.zip (vals xs))) :: AT.cellsL xs
  | .od p ks xs => (p, .dK (ks.zip (vals xs))) :: AT.cellsL xs
def AT.cellsL : List AT → List (Addr × HO)
  | [] => []
  | x :: xs => AT.cells x ++ AT.cellsL xs
end
open AT (cells cellsL er ers)
section
variable (K : PySem.W.Frag) (mg : Str → Option Value)
mutual
def Rep (F : Hp) : V → D → Prop
  | v, .non => v = .non
  | v, .bl b => v = .bl b
  | v, .int i => v = .int i
  | v, .str s => v = .str s
  | v, .ty n => v = .ty n
  | v, .lst ds => ∃ p vs, v = .ref p ∧ F p = some (.lst vs) ∧ Reps F vs ds
  | v, .tup ds => ∃ p vs, v = .ref p ∧ SqT K F p vs ∧ Reps F vs ds
  | v, .dct ks ds => ∃ p vs, v = .ref p ∧ F p = some (.dK (ks.zip vs)) ∧ ks.length = vs.length ∧ Reps F vs ds
  | v, .obj c ns ds => ∃ p C dx vs, v = .ref p ∧ mg c = some (.ref C) ∧ F p = some (.ins C dx (ns.zip vs)) ∧ ns.length = vs.length ∧ Reps F vs ds
  | v, .scr ns => ∃ p, v = .ref p ∧ SqL K F p (ns.map V.int)
  | v, .hl => ∃ p, v = .ref p
def Reps (F : Hp) : List V → List D → Prop
  | [], [] => True
  | v :: vs, d :: ds => Rep F v d ∧ Reps F vs ds
  | _, _ => False
end
mutual
def Ok (F : Hp) : AT → Prop
  | .fz v d => Rep K mg F v d
  | .ol _ xs => Oks F xs
  | .oo _ C _ c ns xs => mg c = some (.ref C) ∧ ns.length = xs.length ∧ Oks F xs
  | .od _ ks xs => ks.length = xs.length ∧ Oks F xs
def Oks (F : Hp) : List AT → Prop
  | [] => True
  | x :: xs => Ok F x ∧ Oks F xs
end
structure Good (F H : Hp) (ts : List AT) : Prop where
  at_ : ∀ c ∈ cellsL ts, H c.1 = some c.2 ∧ F c.1 = none
  ok : Oks K mg F ts
  nd : ((cellsL ts).map (·.1)).Nodup
end
theorem SqT_same {K : PySem.W.Frag} {H H' : Hp} {a : Addr} {xs : List V} (e : Same H H') (h : SqT K H a xs) : SqT K H' a xs := by
  rcases h with h | h
  · rcases h with h | ⟨o, h⟩
    · exact .inl (.inl (e _ _ h))
    · exact .inl (.inr ⟨o, e _ _ h⟩)
  · exact .inr h
section
variable {K : PySem.W.Frag} {mg : Str → Option Value} {F F' H H' : Hp}
mutual
theorem Rep.same (s : Same F F') : ∀ {d : D} {v : V}, Rep K mg F v d → Rep K mg F' v d
  | .non, _, h => h
  | .bl _, _, h => h
  | .int _, _, h => h
  | .str _, _, h => h
  | .ty _, _, h => h
  | .lst ds, _, ⟨p, vs, e, h1, h2⟩ => ⟨p, vs, e, s _ _ h1, Reps.same s h2⟩
  | .tup ds, _, ⟨p, vs, e, h1, h2⟩ => ⟨p, vs, e, SqT_same s h1, Reps.same s h2⟩
  | .dct ks ds, _, ⟨p, vs, e, h1, h3, h2⟩ => ⟨p, vs, e, s _ _ h1, h3, Reps.same s h2⟩
  | .obj c ns ds, _, ⟨p, C, dx, vs, e, h0, h1, h3, h2⟩ => ⟨p, C, dx, vs, e, h0, s _ _ h1, h3, Reps.same s h2⟩
  | .scr ns, _, ⟨p, e, h1⟩ => ⟨p, e, s.seq h1⟩
  | .hl, _, h => h
theorem Reps.same (s : Same F F') : ∀ {ds : List D} {vs : List V}, Reps K mg F vs ds → Reps K mg F' vs ds
  | [], [], _ => trivial
  | _ :: _, _ :: _, ⟨h1, h2⟩ => ⟨Rep.same s h1, Reps.same s h2⟩
  | [], _ :: _, h => h.elim
  | _ :: _, [], h => h.elim
end
theorem Reps.length : ∀ {ds : List D} {vs : List V}, Reps K mg F vs ds → vs.length = ds.length
  | [], [], _ => rfl
  | _ :: _, _ :: _, ⟨_, h2⟩ => congrArg Nat.succ (Reps.length h2)
  | [], _ :: _, h => h.elim
  | _ :: _, [], h => h.elim
theorem Reps.get : ∀ {ds : List D} {vs : List V} {i : Nat} {d : D}, Reps K mg F vs ds → ds[i]? = some d → ∃ v, vs[i]? = some v ∧ Rep K mg F v d
  | d :: _, v :: _, 0, _, ⟨h1, _⟩, e => ⟨v, rfl, by cases e; exact h1⟩
  | _ :: ds, _ :: vs, i + 1, _, ⟨_, h2⟩, e => by
    obtain ⟨v, e1, e2⟩ := Reps.get (i := i) h2 (by simpa using e)
    exact ⟨v, by simpa using e1, e2⟩
  | [], _ :: _, _, _, h, _ => h.elim
  | _ :: _, [], _, _, h, _ => h.elim
  | [], [], _, _, _, e => by simp at e
theorem Reps.getV : ∀ {ds : List D} {vs : List V} {i : Nat} {v : V}, Reps K mg F vs ds → vs[i]? = some v → ∃ d, ds[i]? = some d ∧ Rep K mg F v d
  | d :: _, v :: _, 0, _, ⟨h1, _⟩, e => ⟨d, rfl, by cases e; exact h1⟩
  | _ :: ds, _ :: vs, i + 1, _, ⟨_, h2⟩, e => by
    obtain ⟨v, e1, e2⟩ := Reps.getV (i := i) h2 (by simpa using e)
    exact ⟨v, by simpa using e1, e2⟩
  | [], _ :: _, _, _, h, _ => h.elim
  | _ :: _, [], _, _, h, _ => h.elim
  | [], [], _, _, _, e => by simp at e
theorem Reps.append : ∀ {ds es : List D} {vs us : List V}, Reps K mg F vs ds → Reps K mg F us es → Reps K mg F (vs ++ us) (ds ++ es)
  | [], _, [], _, _, h => h
  | _ :: _, _, _ :: _, _, ⟨h1, h2⟩, h => ⟨h1, Reps.append h2 h⟩
  | [], _, _ :: _, _, h, _ => h.elim
  | _ :: _, _, [], _, h, _ => h.elim
theorem Reps.take (n : Nat) : ∀ {ds : List D} {vs : List V}, Reps K mg F vs ds → Reps K mg F (vs.take n) (ds.take n) := by
  induction n with
  | zero => intro ds vs _; simp only [List.take_zero]; trivial
  | succ n ih =>
    intro ds vs h
    cases ds with
    | nil => cases vs with
      | nil => trivial
      | cons _ _ => exact h.elim
    | cons d ds => cases vs with
      | nil => exact h.elim
      | cons v vs => exact ⟨h.1, ih h.2⟩
theorem Reps.drop (n : Nat) : ∀ {ds : List D} {vs : List V}, Reps K mg F vs ds → Reps K mg F (vs.drop n) (ds.drop n) := by
  induction n with
  | zero => intro ds vs h; simpa only [List.drop_zero] using h
  | succ n ih =>
    intro ds vs h
    cases ds with
    | nil => cases vs with
      | nil => trivial
      | cons _ _ => exact h.elim
    | cons d ds => cases vs with
      | nil => exact h.elim
      | cons v vs => exact ih h.2
theorem Reps.set {v : V} {d : D} (h0 : Rep K mg F v d) : ∀ {ds : List D} {vs : List V} (n : Nat), Reps K mg F vs ds → Reps K mg F (vs.set n v) (ds.set n d)
  | [], [], _, _ => trivial
  | _ :: _, _ :: _, 0, ⟨_, h2⟩ => ⟨h0, h2⟩
  | _ :: _, _ :: _, n + 1, ⟨h1, h2⟩ => ⟨h1, Reps.set h0 n h2⟩
  | [], _ :: _, _, h => h.elim
  | _ :: _, [], _, h => h.elim
theorem Reps.ints : ∀ {ns : List Int} {vs : List V}, Reps K mg F vs (ns.map D.int) → vs = ns.map V.int
  | [], [], _ => rfl
  | n :: ns, v :: vs, ⟨h1, h2⟩ => by
    have e : v = V.int n := h1
    rw [e, Reps.ints h2]
    rfl
  | [], _ :: _, h => h.elim
  | _ :: _, [], h => h.elim
mutual
theorem Ok.same (s : Same F F') : ∀ {t : AT}, Ok K mg F t → Ok K mg F' t
  | .fz _ _, h => Rep.same s h
  | .ol _ xs, h => Oks.same s h
  | .oo _ _ _ _ _ xs, ⟨h1, h2, h3⟩ => ⟨h1, h2, Oks.same s h3⟩
  | .od _ _ xs, ⟨h2, h3⟩ => ⟨h2, Oks.same s h3⟩
theorem Oks.same (s : Same F F') : ∀ {ts : List AT}, Oks K mg F ts → Oks K mg F' ts
  | [], _ => trivial
  | _ :: _, ⟨h1, h2⟩ => ⟨Ok.same s h1, Oks.same s h2⟩
end
theorem Oks.append : ∀ {ts us : List AT}, Oks K mg F (ts ++ us) ↔ Oks K mg F ts ∧ Oks K mg F us
  | [], us => ⟨fun h => ⟨trivial, h⟩, fun h => h.2⟩
  | t :: ts, us => by
    show (Ok K mg F t ∧ Oks K mg F (ts ++ us)) ↔ (Ok K mg F t ∧ Oks K mg F ts) ∧ Oks K mg F us
    rw [Oks.append (ts := ts)]
    exact ⟨fun ⟨a, b, c⟩ => ⟨⟨a, b⟩, c⟩, fun ⟨⟨a, b⟩, c⟩ => ⟨a, b, c⟩⟩
theorem Oks.mem : ∀ {ts : List AT}, Oks K mg F ts ↔ ∀ t ∈ ts, Ok K mg F t
  | [] => ⟨fun _ _ h => absurd h List.not_mem_nil, fun _ => trivial⟩
  | t :: ts => by
    show (Ok K mg F t ∧ Oks K mg F ts) ↔ _
    rw [Oks.mem (ts := ts), List.forall_mem_cons]
theorem cellsL_append : ∀ (ts us : List AT), cellsL (ts ++ us) = cellsL ts ++ cellsL us
  | [], _ => rfl
  | t :: ts, us => by
    show cells t ++ cellsL (ts ++ us) = (cells t ++ cellsL ts) ++ cellsL us
    rw [cellsL_append ts us, List.append_assoc]
theorem cellsL_eq : ∀ (ts : List AT), cellsL ts = ts.flatMap cells
  | [] => rfl
  | t :: ts => by
    show cells t ++ cellsL ts = _
    rw [cellsL_eq ts, List.flatMap_cons]
theorem ers_eq : ∀ (ts : List AT), ers ts = ts.map er
  | [] => rfl
  | t :: ts => congrArg (er t :: ·) (ers_eq ts)
theorem ers_length (ts : List AT) : (ers ts).length = ts.length := by rw [ers_eq, List.length_map]
mutual
theorem rep_of : ∀ (t : AT), (∀ c ∈ cells t, H c.1 = some c.2) → Same F H → Ok K mg F t → Rep K mg H t.val (SV.toD (er t))
  | .fz v d, _, s, h => Rep.same s h
  | .ol p xs, hc, s, h => ⟨p, vals xs, rfl, hc _ List.mem_cons_self, reps_of xs (fun c hm => hc c (List.mem_cons_of_mem _ hm)) s h⟩
  | .oo p C dx c ns xs, hc, s, ⟨h1, h2, h3⟩ => ⟨p, C, dx, vals xs, rfl, h1, hc _ List.mem_cons_self, by rw [h2]; exact (List.length_map _).symm, reps_of xs (fun c hm => hc c (List.mem_cons_of_mem _ hm)) s h3⟩
  | .od p ks xs, hc, s, ⟨h2, h3⟩ => ⟨p, vals xs, rfl, hc _ List.mem_cons_self, by rw [h2]; exact (List.length_map _).symm, reps_of xs (fun c hm => hc c (List.mem_cons_of_mem _ hm)) s h3⟩
theorem reps_of : ∀ (ts : List AT), (∀ c ∈ cellsL ts, H c.1 = some c.2) → Same F H → Oks K mg F ts → Reps K mg H (vals ts) (SV.toDs (ers ts))
  | [], _, _, _ => trivial
  | t :: ts, hc, s, ⟨h1, h2⟩ => ⟨rep_of t (fun c hm => hc c (List.mem_append_left _ hm)) s h1, reps_of ts (fun c hm => hc c (List.mem_append_right _ hm)) s h2⟩
end
theorem Good.rep {ts : List AT} {t : AT} (g : Good K mg F H ts) (s : Same F H) (h : t ∈ ts) : Rep K mg H t.val (SV.toD (er t)) := by
  refine rep_of t (fun c hc => (g.at_ c ?_).1) s (Oks.mem.mp g.ok t h)
  rw [cellsL_eq]
  exact List.mem_flatMap.mpr ⟨t, h, hc⟩
theorem cellsL_perm {ts us : List AT} (p : ts.Perm us) : (cellsL ts).Perm (cellsL us) := by
  rw [cellsL_eq, cellsL_eq]
  exact p.flatMap_right _
theorem Good.perm {ts us : List AT} (g : Good K mg F H ts) (p : ts.Perm us) : Good K mg F H us where
  at_ := fun c hc => g.at_ c ((cellsL_perm p).mem_iff.mpr hc)
  ok := Oks.mem.mpr fun t ht => Oks.mem.mp g.ok t (p.mem_iff.mpr ht)
  nd := (((cellsL_perm p).map _).nodup_iff).mp g.nd
theorem Good.sub {ts us : List AT} (g : Good K mg F H (ts ++ us)) : Good K mg F H us where
  at_ := fun c hc => g.at_ c (by rw [cellsL_append]; exact List.mem_append_right _ hc)
  ok := (Oks.append.mp g.ok).2
  nd := by
    have := g.nd
    rw [cellsL_append, List.map_append] at this
    exact (List.nodup_append.mp this).2.1
theorem Good.left {ts us : List AT} (g : Good K mg F H (ts ++ us)) : Good K mg F H ts := (g.perm List.perm_append_comm).sub
theorem Good.fz {ts : List AT} {v : V} {d : D} (g : Good K mg F H ts) (r : Rep K mg F v d) : Good K mg F H (.fz v d :: ts) :=
  ⟨g.at_, ⟨r, g.ok⟩, g.nd⟩
theorem Good.unfz {ts : List AT} {v : V} {d : D} (g : Good K mg F H (.fz v d :: ts)) : Good K mg F H ts ∧ Rep K mg F v d :=
  ⟨⟨g.at_, g.ok.2, g.nd⟩, g.ok.1⟩
theorem Good.tail {ts : List AT} {t : AT} (g : Good K mg F H (t :: ts)) : Good K mg F H ts := Good.sub (ts := [t]) g
def frz (cs : List (Addr × HO)) (F : Hp) : Hp := fun a => match cs.lookup a with
  | some o => some o
  | none => F a
theorem lookup_of_mem {α β : Type} [BEq α] [LawfulBEq α] : ∀ {l : List (α × β)} {a : α} {b : β}, (l.map (·.1)).Nodup → (a, b) ∈ l → l.lookup a = some b
  | (c, d) :: l, a, b, nd, h => by
    rw [List.map_cons, List.nodup_cons] at nd
    rw [List.lookup_cons]
    rcases List.mem_cons.mp h with e | h
    · cases e
      simp
    · have ne : a ≠ c := fun e => nd.1 (e ▸ List.mem_map_of_mem (f := (·.1)) h)
      have : (a == c) = false := by simpa using ne
      rw [this]
      exact lookup_of_mem nd.2 h
theorem mem_of_look {α β : Type} [BEq α] [LawfulBEq α] : ∀ {l : List (α × β)} {a : α} {b : β}, l.lookup a = some b → (a, b) ∈ l
  | (c, d) :: l, a, b, h => by
    rw [List.lookup_cons] at h
    cases e : (a == c) with
    | true =>
      rw [e] at h
      have e2 : a = c := by simpa using e
      subst e2
      cases h
      exact List.mem_cons_self
    | false =>
      rw [e] at h
      exact List.mem_cons_of_mem _ (mem_of_look h)
theorem frz_same {cs : List (Addr × HO)} (h : ∀ c ∈ cs, F c.1 = none) : Same F (frz cs F) := fun a o e => by
  unfold frz
  cases q : cs.lookup a with
  | none => exact e
  | some u =>
    have := h _ (mem_of_look q)
    rw [e] at this
    cases this
theorem frz_le {cs : List (Addr × HO)} (s : Same F H) (h : ∀ c ∈ cs, H c.1 = some c.2) : Same (frz cs F) H := fun a o e => by
  unfold frz at e
  cases q : cs.lookup a with
  | none => rw [q] at e; exact s a o e
  | some u =>
    rw [q] at e
    cases e
    exact h _ (mem_of_look q)
theorem frz_out {cs : List (Addr × HO)} {a : Addr} (h : a ∉ cs.map (·.1)) : frz cs F a = F a := by
  unfold frz
  cases q : cs.lookup a with
  | none => rfl
  | some u => exact absurd (List.mem_map_of_mem (f := (·.1)) (mem_of_look q)) h
theorem Good.freeze {ts : List AT} {t : AT} (g : Good K mg F H (t :: ts)) (s : Same F H) :
    Same F (frz (cells t) F) ∧ Same (frz (cells t) F) H ∧ Good K mg (frz (cells t) F) H (.fz t.val (SV.toD (er t)) :: ts) := by
  have hc : ∀ c ∈ cells t, H c.1 = some c.2 ∧ F c.1 = none := fun c h => g.at_ c (List.mem_append_left _ h)
  have nd := g.nd
  have nd2 : ((cells t ++ cellsL ts).map (·.1)).Nodup := nd
  rw [List.map_append, List.nodup_append] at nd2
  have s1 : Same F (frz (cells t) F) := frz_same fun c h => (hc c h).2
  refine ⟨s1, frz_le s fun c h => (hc c h).1, ⟨fun c h => ?_, ⟨?_, Oks.same s1 g.ok.2⟩, nd2.2.1⟩⟩
  · have h' := g.at_ c (List.mem_append_right _ h)
    refine ⟨h'.1, ?_⟩
    rw [frz_out fun q => nd2.2.2 _ q _ (List.mem_map_of_mem (f := (·.1)) h) rfl]
    exact h'.2
  · refine rep_of t (fun c h => ?_) s1 g.ok.1
    unfold frz
    rw [lookup_of_mem (l := cells t) nd2.1 (show (c.1, c.2) ∈ cells t from h)]
end
end VF
set_option maxRecDepth 100000
set_option maxHeartbeats 4000000
namespace VF
set_option autoImplicit false
open PySem PySem.Spec PyProof.Rows L2
open AT (cells cellsL er ers)
def imm : D → Option V
  | .non => some .non
  | .bl b => some (.bl b)
  | .int i => some (.int i)
  | .str s => some (.str s)
  | .ty n => some (.ty n)
  | _ => none
abbrev XS := Value → Option Addr → L2.St → Hp → Prop
def E0 : XS := fun _ _ _ _ => False
structure Exc where
  c : Str
  ns : List Str
  ds : List D
structure Env where
  sl : List (Option SV)
  pn : List Nat
inductive R (α : Type) where
  | st | ok (a : α) (e : Env) | ex (x : Exc) (e : Env)
abbrev M (α : Type) := Env → R α
inductive RV where
  | fz (d : D) | own (s : SV) | var (i : Nat)
inductive Fl where
  | nx | rt (r : RV) | bk | ct
def R.bind {α β : Type} (r : R α) (f : α → M β) : R β := match r with
  | .st => .st
  | .ok a e => f a e
  | .ex x e => .ex x e
def M.bind {α β : Type} (m : M α) (f : α → M β) : M β := fun e => (m e).bind f
def M.ret {α : Type} (a : α) : M α := fun e => .ok a e
def M.st {α : Type} : M α := fun _ => .st
def opts (as : List (Option AT)) : List AT := as.filterMap id
theorem mem_opts {as : List (Option AT)} {i : Nat} {t : AT} (h : as[i]? = some (some t)) : t ∈ opts as :=
  List.mem_filterMap.mpr ⟨some t, List.mem_of_getElem? h, rfl⟩
theorem opts_take : ∀ {as : List (Option AT)} {i : Nat} {t : AT}, as[i]? = some (some t) → (opts as).Perm (t :: opts (as.set i none))
  | a :: as, 0, t, h => by
    have e : a = some t := by simpa using h
    subst e
    exact List.Perm.refl _
  | a :: as, i + 1, t, h => by
    have ih := opts_take (as := as) (i := i) (t := t) (by simpa using h)
    cases a with
    | none => exact ih
    | some u => exact (ih.cons u).trans (List.Perm.swap _ _ _)
theorem opts_put : ∀ {as : List (Option AT)} {i : Nat} (t : AT), as[i]? = some none → (t :: opts as).Perm (opts (as.set i (some t)))
  | a :: as, 0, t, h => by
    have e : a = none := by simpa using h
    subst e
    exact List.Perm.refl _
  | a :: as, i + 1, t, h => by
    have ih := opts_put (as := as) (i := i) t (by simpa using h)
    cases a with
    | none => exact ih
    | some u => exact (List.Perm.swap _ _ _).trans (ih.cons u)
theorem opts_set {as : List (Option AT)} {i : Nat} (t : AT) : ∃ L, (t :: opts as).Perm (L ++ opts (as.set i (some t))) := by
  cases e : as[i]? with
  | none =>
    have : as.length ≤ i := List.getElem?_eq_none_iff.mp e
    exact ⟨[t], by rw [List.set_eq_of_length_le this]; exact List.Perm.refl _⟩
  | some o =>
    cases o with
    | none => exact ⟨[], opts_put t e⟩
    | some u =>
      refine ⟨[u], ?_⟩
      have h1 := opts_take e
      have hlt : i < as.length := (List.getElem?_eq_some_iff.mp e).1
      have h2 := opts_put (as := as.set i none) (i := i) t (by simp [hlt])
      rw [List.set_set] at h2
      exact ((h1.cons t).trans (List.Perm.swap _ _ _)).trans (h2.cons u)
section
variable (K : PySem.W.Frag) (mg : Str → Option Value)
structure SR (pv : List (Nat × V)) (σ : L2.St) (e : Env) (as : List (Option AT)) : Prop where
  sl : e.sl = as.map (Option.map er)
  len : σ.length = as.length
  at_ : ∀ (i : Nat) (t : AT), as[i]? = some (some t) → σ[i]? = some (some t.val)
  pin : ∀ p ∈ pv, p.1 ∈ e.pn ∧ σ[p.1]? = some (some p.2)
structure Cf (pv : List (Nat × V)) (F H : Hp) (σ : L2.St) (e : Env) (as : List (Option AT)) (held : List AT) : Prop where
  s : Same F H
  r : SR pv σ e as
  g : Good K mg F H (opts as ++ held)
def RR (σ : L2.St) (v : V) : RV → List AT → Prop
  | .fz d, tr => tr = [.fz v d]
  | .own s, tr => ∃ t, tr = [t] ∧ t.val = v ∧ er t = s
  | .var i, tr => tr = [] ∧ σ[i]? = some (some v)
def RRs (σ : L2.St) : List V → List RV → List AT → Prop
  | [], [], tr => tr = []
  | v :: vs, r :: rs, tr => ∃ t1 t2, tr = t2 ++ t1 ∧ RR σ v r t1 ∧ RRs σ vs rs t2
  | _, _, _ => False
def RX (H : Hp) (x : Exc) (cls : Value) (d : Option Addr) : Prop :=
  ∃ C, mg x.c = some (.ref C) ∧ cls = .ref C ∧ ((x.ns = [] ∧ d = none) ∨ (x.ns ≠ [] ∧ ∃ dd vs, d = some dd ∧ H dd = some (.xd (x.ns.zip vs)) ∧ x.ns.length = vs.length ∧ x.ds.mapM imm = some vs))
def WX (pv : List (Nat × V)) (F : Hp) (held : List AT) (E : XS) (x : Exc) (e' : Env) : Prop :=
  ∀ cls d F' H' σ' as', Same F F' → Cf K mg pv F' H' σ' e' as' held → RX mg H' x cls d → (∀ dd, d = some dd → F dd = none) → E cls d σ' H'
def WE (pv : List (Nat × V)) (F : Hp) (held : List AT) (σ : L2.St) (Q : VK) (E : XS) : R RV → Prop
  | .st => False
  | .ok r e' => ∀ v F' H' as' tr, Same F F' → Cf K mg pv F' H' σ e' as' (tr ++ held) → RR σ v r tr → Q v H'
  | .ex x e' => WX K mg pv F held E x e'
def WT (pv : List (Nat × V)) (F : Hp) (held : List AT) (σ : L2.St) (Q : Bool → Hp → Prop) (E : XS) : R Bool → Prop
  | .st => False
  | .ok b e' => ∀ F' H' as', Same F F' → Cf K mg pv F' H' σ e' as' held → Q b H'
  | .ex x e' => WX K mg pv F held E x e'
def WA (pv : List (Nat × V)) (F : Hp) (held : List AT) (σ : L2.St) (Q : List V → Hp → Prop) (E : XS) : R (List RV) → Prop
  | .st => False
  | .ok rs e' => ∀ vs F' H' as' tr, Same F F' → Cf K mg pv F' H' σ e' as' (tr ++ held) → RRs σ vs rs tr → Q vs H'
  | .ex x e' => WX K mg pv F held E x e'
def WS (pv : List (Nat × V)) (F : Hp) (held : List AT) (E : XS) (D : Ends) : R Fl → Prop
  | .st => False
  | .ok .nx e' => ∀ σ' F' H' as', Same F F' → Cf K mg pv F' H' σ' e' as' held → D.nx σ' H'
  | .ok .bk e' => ∀ σ' F' H' as', Same F F' → Cf K mg pv F' H' σ' e' as' held → D.bk σ' H'
  | .ok .ct e' => ∀ σ' F' H' as', Same F F' → Cf K mg pv F' H' σ' e' as' held → D.ct σ' H'
  | .ok (.rt r) e' => ∀ v σ' F' H' as' tr, Same F F' → Cf K mg pv F' H' σ' e' as' (tr ++ held) → RR σ' v r tr → D.rt v H'
  | .ex x e' => WX K mg pv F held E x e'
def SE (E : XS) (t : TE) (m : M RV) : Prop := ∀ pv F H σ e as held Q, Cf K mg pv F H σ e as held → WE K mg pv F held σ Q E (m e) → t σ H Q
def ST (E : XS) (t : TT) (m : M Bool) : Prop := ∀ pv F H σ e as held Q, Cf K mg pv F H σ e as held → WT K mg pv F held σ Q E (m e) → t σ H Q
def SA (E : XS) (t : TA) (m : M (List RV)) : Prop := ∀ pv F H σ e as held Q, Cf K mg pv F H σ e as held → WA K mg pv F held σ Q E (m e) → t σ H Q
def SS (E : XS) (t : TS) (m : M Fl) : Prop := ∀ pv F H σ e as held D, Cf K mg pv F H σ e as held → WS K mg pv F held E D (m e) → t D σ H
end
section
variable {K : PySem.W.Frag} {mg : Str → Option Value} {pv : List (Nat × V)} {F F' H H' : Hp} {σ : L2.St} {e e' : Env} {as as' : List (Option AT)} {held tr ts : List AT} {E : XS}
theorem none_le {dd : Addr} (s : Same F F') (h : F' dd = none) : F dd = none := by
  cases q : F dd with
  | none => rfl
  | some o => rw [s _ _ q] at h; cases h
theorem WX.mono {x : Exc} (s : Same F F') (h : WX K mg pv F held E x e) : WX K mg pv F' held E x e := fun cls d F2 H2 σ2 as2 s2 c r n => h cls d F2 H2 σ2 as2 (s.trans s2) c r fun dd q => none_le s (n dd q)
theorem Cf.drop (c : Cf K mg pv F H σ e as (tr ++ held)) : Cf K mg pv F H σ e as held :=
  ⟨c.s, c.r, (c.g.perm (us := tr ++ (opts as ++ held)) (by rw [← List.append_assoc, ← List.append_assoc]; exact List.perm_append_comm.append_right held)).sub⟩
theorem Cf.fz {v : V} {d : D} (c : Cf K mg pv F H σ e as held) (r : Rep K mg F v d) : Cf K mg pv F H σ e as ([.fz v d] ++ held) :=
  ⟨c.s, c.r, (c.g.fz r).perm (by exact (List.perm_middle (l₁ := opts as) (l₂ := held) (a := AT.fz v d)).symm)⟩
theorem WX.drop {x : Exc} (h : WX K mg pv F held E x e) : WX K mg pv F (tr ++ held) E x e := fun cls d F2 H2 σ2 as2 s2 c r n => h cls d F2 H2 σ2 as2 s2 c.drop r n
theorem SR.slot {i : Nat} {t : AT} (r : SR pv σ e as) (h : as[i]? = some (some t)) : e.sl[i]? = some (some (er t)) := by
  rw [r.sl, List.getElem?_map, h]; rfl
theorem SR.slotOf {i : Nat} {s : SV} (r : SR pv σ e as) (h : e.sl[i]? = some (some s)) : ∃ t, as[i]? = some (some t) ∧ er t = s := by
  rw [r.sl, List.getElem?_map] at h
  cases q : as[i]? with
  | none => rw [q] at h; cases h
  | some o =>
    rw [q] at h
    cases o with
    | none => cases h
    | some t =>
      have h2 : some (some (er t)) = some (some s) := h
      exact ⟨t, rfl, by simpa using h2⟩
def view (e : Env) : RV → Option D
  | .fz d => some d
  | .own s => some s.toD
  | .var i => match e.sl[i]? with
    | some (some s) => some s.toD
    | _ => none
theorem Cf.seen {v : V} {r : RV} {d : D} (c : Cf K mg pv F H σ e as held) (h : RR σ v r tr) (hm : ∀ t ∈ tr, t ∈ held) (q : view e r = some d) : Rep K mg H v d := by
  cases r with
  | fz x =>
    have e1 : tr = [.fz v x] := h
    have e2 : x = d := Option.some.inj q
    subst e1 e2
    exact c.g.rep c.s (List.mem_append_right _ (hm _ List.mem_cons_self))
  | own s =>
    obtain ⟨t, e1, e2, e3⟩ := h
    have e4 : s.toD = d := Option.some.inj q
    subst e1 e2 e3 e4
    exact c.g.rep c.s (List.mem_append_right _ (hm _ List.mem_cons_self))
  | var i =>
    obtain ⟨_, hv⟩ := h
    have q' : (match e.sl[i]? with | some (some s) => some s.toD | _ => none) = some d := q
    cases z : e.sl[i]? with
    | none => rw [z] at q'; cases q'
    | some o =>
      cases o with
      | none => rw [z] at q'; cases q'
      | some s =>
        rw [z] at q'
        have e4 : s.toD = d := Option.some.inj q'
        obtain ⟨t, ht, e5⟩ := c.r.slotOf z
        have hv2 := c.r.at_ i t ht
        rw [hv] at hv2
        have e6 : v = t.val := by simpa using hv2
        subst e4 e5 e6
        exact c.g.rep c.s (List.mem_append_left _ (mem_opts ht))
theorem WE.bindE {α : Type} {f : RV → M α} {m : M RV} {W : R α → Prop} (hs : ¬ W .st) (h : W ((m e).bind f)) {P : V → Hp → Prop}
    (hx : ∀ x e', W (.ex x e') → WX K mg pv F held E x e')
    (k : ∀ r e' v F' H' as' tr, Same F F' → Cf K mg pv F' H' σ e' as' (tr ++ held) → RR σ v r tr → W (f r e') → P v H') : WE K mg pv F held σ P E (m e) := by
  cases q : m e with
  | st => rw [q] at h; exact absurd h hs
  | ok r e' => rw [q] at h; exact fun v F' H' as' tr s c rr => k r e' v F' H' as' tr s c rr h
  | ex x e' => rw [q] at h; exact hx x e' h
theorem WT.bindT {α : Type} {f : Bool → M α} {m : M Bool} {W : R α → Prop} (hs : ¬ W .st) (h : W ((m e).bind f)) {P : Bool → Hp → Prop}
    (hx : ∀ x e', W (.ex x e') → WX K mg pv F held E x e')
    (k : ∀ b e' F' H' as', Same F F' → Cf K mg pv F' H' σ e' as' held → W (f b e') → P b H') : WT K mg pv F held σ P E (m e) := by
  cases q : m e with
  | st => rw [q] at h; exact absurd h hs
  | ok r e' => rw [q] at h; exact fun F' H' as' s c => k r e' F' H' as' s c h
  | ex x e' => rw [q] at h; exact hx x e' h
theorem WA.bindA {α : Type} {f : List RV → M α} {m : M (List RV)} {W : R α → Prop} (hs : ¬ W .st) (h : W ((m e).bind f)) {P : List V → Hp → Prop}
    (hx : ∀ x e', W (.ex x e') → WX K mg pv F held E x e')
    (k : ∀ rs e' vs F' H' as' tr, Same F F' → Cf K mg pv F' H' σ e' as' (tr ++ held) → RRs σ vs rs tr → W (f rs e') → P vs H') : WA K mg pv F held σ P E (m e) := by
  cases q : m e with
  | st => rw [q] at h; exact absurd h hs
  | ok r e' => rw [q] at h; exact fun v F' H' as' tr s c rr => k r e' v F' H' as' tr s c rr h
  | ex x e' => rw [q] at h; exact hx x e' h
theorem WE.mono {Q : VK} {r : R RV} (s : Same F F') (h : WE K mg pv F held σ Q E r) : WE K mg pv F' held σ Q E r := by
  cases r with
  | st => exact h
  | ok r e' => exact fun v F2 H2 as2 tr2 s2 c rr => h v F2 H2 as2 tr2 (s.trans s2) c rr
  | ex x e' => exact WX.mono s h
theorem WT.mono {Q : Bool → Hp → Prop} {r : R Bool} (s : Same F F') (h : WT K mg pv F held σ Q E r) : WT K mg pv F' held σ Q E r := by
  cases r with
  | st => exact h
  | ok r e' => exact fun F2 H2 as2 s2 c => h F2 H2 as2 (s.trans s2) c
  | ex x e' => exact WX.mono s h
theorem WA.mono {Q : List V → Hp → Prop} {r : R (List RV)} (s : Same F F') (h : WA K mg pv F held σ Q E r) : WA K mg pv F' held σ Q E r := by
  cases r with
  | st => exact h
  | ok r e' => exact fun v F2 H2 as2 tr2 s2 c rr => h v F2 H2 as2 tr2 (s.trans s2) c rr
  | ex x e' => exact WX.mono s h
theorem WS.mono {D : Ends} {r : R Fl} (s : Same F F') (h : WS K mg pv F held E D r) : WS K mg pv F' held E D r := by
  cases r with
  | st => exact h
  | ok r e' => cases r with
    | nx => exact fun σ2 F2 H2 as2 s2 c => h σ2 F2 H2 as2 (s.trans s2) c
    | bk => exact fun σ2 F2 H2 as2 s2 c => h σ2 F2 H2 as2 (s.trans s2) c
    | ct => exact fun σ2 F2 H2 as2 s2 c => h σ2 F2 H2 as2 (s.trans s2) c
    | rt r => exact fun v σ2 F2 H2 as2 tr2 s2 c rr => h v σ2 F2 H2 as2 tr2 (s.trans s2) c rr
  | ex x e' => exact WX.mono s h
theorem rep_imm {d : D} {v : V} (h : imm d = some v) : Rep K mg F v d := by
  cases d <;> first | (cases h; rfl) | cases h
def dVar (i : Nat) : M RV := fun e => match e.sl[i]? with
  | some (some (.fz d)) => .ok (.fz d) e
  | some (some _) => .ok (.var i) e
  | _ => .st
def dC (d : D) : M RV := fun e => .ok (.fz d) e
theorem se_var {i : Nat} : SE K mg E (tVar i) (dVar i) := by
  intro pv F H σ e as held Q c w
  unfold dVar at w
  cases z : e.sl[i]? with
  | none => rw [z] at w; exact w.elim
  | some o =>
    cases o with
    | none => rw [z] at w; exact w.elim
    | some s =>
      rw [z] at w
      obtain ⟨t, ht, et⟩ := c.r.slotOf z
      have hv := c.r.at_ i t ht
      refine ⟨t.val, hv, ?_⟩
      cases s with
      | fz d =>
        cases t with
        | fz v d' =>
          have ed : d' = d := by simpa [er] using et
          subst ed
          have rp : Rep K mg F v d' := Oks.mem.mp c.g.ok _ (List.mem_append_left _ (mem_opts ht))
          exact w v F H as _ (Same.refl _) (c.fz rp) rfl
        | ol _ _ => simp [er] at et
        | oo _ _ _ _ _ _ => simp [er] at et
        | od _ _ _ => simp [er] at et
      | ol xs => exact w t.val F H as [] (Same.refl _) c ⟨rfl, hv⟩
      | oo c' ns xs => exact w t.val F H as [] (Same.refl _) c ⟨rfl, hv⟩
      | od ks xs => exact w t.val F H as [] (Same.refl _) c ⟨rfl, hv⟩
theorem se_c {v : V} {d : D} (h : imm d = some v := by rfl) : SE K mg E (tC v) (dC d) := by
  intro pv F H σ e as held Q c w
  exact w v F H as _ (Same.refl _) (c.fz (rep_imm h)) rfl
def dOp (f : D → D → Option D) (a b : M RV) : M RV := a.bind fun r => b.bind fun q => fun e => match view e r, view e q with
  | some x, some y => (match f x y with
    | some d => .ok (.fz d) e
    | none => .st)
  | _, _ => .st
def OpD (r : R2) (K : PySem.W.Frag) (mg : Str → Option Value) (f : D → D → Option D) : Prop := ∀ (H : Hp) (x y : V) (a b d : D), Rep K mg H x a → Rep K mg H y b → f a b = some d → ∃ v, imm d = some v ∧ ∀ Q : VK, Q v H → r x y H Q
theorem se_op {r : R2} {f : D → D → Option D} {ta tb : TE} {ma mb : M RV} (hr : OpD r K mg f) (ha : SE K mg E ta ma) (hb : SE K mg E tb mb) : SE K mg E (tOp r ta tb) (dOp f ma mb) := by
  intro pv F H σ e as held Q c w
  refine ha pv F H σ e as held _ c (WE.bindE (W := WE K mg pv F held σ Q E) (fun z => z) w (fun _ _ z => z) fun r1 e1 v1 F1 H1 as1 tr1 s1 c1 rr1 w1 => ?_)
  refine hb pv F1 H1 σ e1 as1 (tr1 ++ held) _ c1 (WE.bindE (W := WE K mg pv F held σ Q E) (fun z => z) w1 (fun _ _ z => (WX.mono s1 z).drop) fun r2 e2 v2 F2 H2 as2 tr2 s2 c2 rr2 w2 => ?_)
  have w2' : WE K mg pv F held σ Q E (match view e2 r1, view e2 r2 with
    | some x, some y => (match f x y with
      | some d => .ok (.fz d) e2
      | none => .st)
    | _, _ => .st) := w2
  cases q1 : view e2 r1 with
  | none => rw [q1] at w2'; exact w2'.elim
  | some x =>
    cases q2 : view e2 r2 with
    | none => rw [q1, q2] at w2'; exact w2'.elim
    | some y =>
      rw [q1, q2] at w2'
      cases q3 : f x y with
      | none => simp only [q3] at w2'; exact w2'.elim
      | some d =>
        simp only [q3] at w2'
        have p1 := c2.seen rr1 (fun t ht => List.mem_append_right _ (List.mem_append_left _ ht)) q1
        have p2 := c2.seen rr2 (fun t ht => List.mem_append_left _ ht) q2
        obtain ⟨v, hv, k⟩ := hr H2 v1 v2 x y d p1 p2 q3
        exact k Q (w2' v F2 H2 as2 _ (s1.trans s2) (c2.drop.drop.fz (rep_imm hv)) rfl)
def dNil : M (List RV) := fun e => .ok [] e
def dCons (a : M RV) (b : M (List RV)) : M (List RV) := a.bind fun r => b.bind fun rs => fun e => .ok (r :: rs) e
theorem sa_nil : SA K mg E tNil dNil := by
  intro pv F H σ e as held Q c w
  exact w [] F H as [] (Same.refl _) c rfl
theorem sa_cons {ta : TE} {tb : TA} {ma : M RV} {mb : M (List RV)} (ha : SE K mg E ta ma) (hb : SA K mg E tb mb) : SA K mg E (tCons ta tb) (dCons ma mb) := by
  intro pv F H σ e as held Q c w
  refine ha pv F H σ e as held _ c (WE.bindE (W := WA K mg pv F held σ Q E) (fun z => z) w (fun _ _ z => z) fun r1 e1 v1 F1 H1 as1 tr1 s1 c1 rr1 w1 => ?_)
  refine hb pv F1 H1 σ e1 as1 (tr1 ++ held) _ c1 (WA.bindA (W := WA K mg pv F held σ Q E) (fun z => z) w1 (fun _ _ z => (WX.mono s1 z).drop) fun r2 e2 v2 F2 H2 as2 tr2 s2 c2 rr2 w2 => ?_)
  exact w2 (v1 :: v2) F2 H2 as2 (tr2 ++ tr1) (s1.trans s2) (by rw [List.append_assoc]; exact c2) ⟨tr1, tr2, rfl, rr1, rr2⟩
theorem RRs.seen {rs : List RV} : ∀ {vs : List V} {tr : List AT} {rs : List RV} {ds : List D}, Cf K mg pv F H σ e as held → RRs σ vs rs tr → (∀ t ∈ tr, t ∈ held) → rs.mapM (view e) = some ds → Reps K mg H vs ds
  | [], tr, [], ds, _, _, _, q => by
    have : ds = [] := by simpa using q.symm
    subst this
    trivial
  | v :: vs, tr, r :: rs, ds, c, ⟨t1, t2, e1, h1, h2⟩, hm, q => by
    subst e1
    cases q1 : view e r with
    | none => simp [q1] at q
    | some d =>
      cases q2 : rs.mapM (view e) with
      | none => simp [q1, q2] at q
      | some ds' =>
        have : ds = d :: ds' := by simpa [q1, q2] using q.symm
        subst this
        exact ⟨c.seen h1 (fun t ht => hm t (List.mem_append_right _ ht)) q1, RRs.seen (rs := rs) c h2 (fun t ht => hm t (List.mem_append_left _ ht)) q2⟩
  | [], _, _ :: _, _, _, h, _, _ => h.elim
  | _ :: _, _, [], _, _, h, _, _ => h.elim
def dCB (f : List D → Option D) (a : M (List RV)) : M RV := a.bind fun rs => fun e => match rs.mapM (view e) with
  | some xs => (match f xs with
    | some d => .ok (.fz d) e
    | none => .st)
  | none => .st
def CbD (r : List V → Hp → VK → Prop) (K : PySem.W.Frag) (mg : Str → Option Value) (f : List D → Option D) : Prop := ∀ (H : Hp) (xs : List V) (as : List D) (d : D), Reps K mg H xs as → f as = some d → ∃ v, imm d = some v ∧ ∀ Q : VK, Q v H → r xs H Q
theorem se_cb {r : List V → Hp → VK → Prop} {f : List D → Option D} {ta : TA} {ma : M (List RV)} (hr : CbD r K mg f) (ha : SA K mg E ta ma) : SE K mg E (tCB r ta) (dCB f ma) := by
  intro pv F H σ e as held Q c w
  refine ha pv F H σ e as held _ c (WA.bindA (W := WE K mg pv F held σ Q E) (fun z => z) w (fun _ _ z => z) fun r1 e1 v1 F1 H1 as1 tr1 s1 c1 rr1 w1 => ?_)
  have w2' : WE K mg pv F held σ Q E (match r1.mapM (view e1) with
    | some x => (match f x with
      | some d => .ok (.fz d) e1
      | none => .st)
    | none => .st) := w1
  cases q1 : r1.mapM (view e1) with
  | none => rw [q1] at w2'; exact w2'.elim
  | some x =>
    rw [q1] at w2'
    cases q3 : f x with
    | none => simp only [q3] at w2'; exact w2'.elim
    | some d =>
      simp only [q3] at w2'
      have p1 := RRs.seen (rs := r1) c1 rr1 (fun t ht => List.mem_append_left _ ht) q1
      obtain ⟨v, hv, k⟩ := hr H1 v1 x d p1 q3
      exact k Q (w2' v F1 H1 as1 _ s1 (c1.drop.fz (rep_imm hv)) rfl)
def dT (a : M RV) : M Bool := a.bind fun r => fun e => match view e r with
  | some (.bl b) => .ok b e
  | _ => .st
theorem st_val {ta : TE} {ma : M RV} (ha : SE K mg E ta ma) : ST K mg E (tB ta) (dT ma) := by
  intro pv F H σ e as held Q c w
  refine ha pv F H σ e as held _ c (WE.bindE (W := WT K mg pv F held σ Q E) (fun z => z) w (fun _ _ z => z) fun r1 e1 v1 F1 H1 as1 tr1 s1 c1 rr1 w1 => ?_)
  have w2' : WT K mg pv F held σ Q E (match view e1 r1 with
    | some (.bl b) => .ok b e1
    | _ => .st) := w1
  cases q1 : view e1 r1 with
  | none => rw [q1] at w2'; exact w2'.elim
  | some x =>
    rw [q1] at w2'
    have p1 := c1.seen rr1 (fun t ht => List.mem_append_left _ ht) q1
    cases x with
    | bl b => exact ⟨b, p1, w2' F1 H1 as1 s1 c1.drop⟩
    | _ => exact w2'.elim
theorem st_test {ta : TE} {ma : M RV} (ha : SE K mg E ta ma) : ST K mg E (tTest ta) (dT ma) := st_val ha
def dAnd (a b : M Bool) : M Bool := a.bind fun c => match c with
  | true => b
  | false => fun e => .ok false e
def dOr (a b : M Bool) : M Bool := a.bind fun c => match c with
  | true => fun e => .ok true e
  | false => b
def dNot (a : M Bool) : M Bool := a.bind fun c e => .ok (!c) e
theorem st_and {ta tb : TT} {ma mb : M Bool} (ha : ST K mg E ta ma) (hb : ST K mg E tb mb) : ST K mg E (tAnd ta tb) (dAnd ma mb) := by
  intro pv F H σ e as held Q c w
  refine ha pv F H σ e as held _ c (WT.bindT (W := WT K mg pv F held σ Q E) (fun z => z) w (fun _ _ z => z) fun b e1 F1 H1 as1 s1 c1 w1 => ?_)
  cases b with
  | true => exact hb pv F1 H1 σ e1 as1 held Q c1 (WT.mono s1 w1)
  | false => exact w1 F1 H1 as1 s1 c1
theorem st_or {ta tb : TT} {ma mb : M Bool} (ha : ST K mg E ta ma) (hb : ST K mg E tb mb) : ST K mg E (tOr ta tb) (dOr ma mb) := by
  intro pv F H σ e as held Q c w
  refine ha pv F H σ e as held _ c (WT.bindT (W := WT K mg pv F held σ Q E) (fun z => z) w (fun _ _ z => z) fun b e1 F1 H1 as1 s1 c1 w1 => ?_)
  cases b with
  | true => exact w1 F1 H1 as1 s1 c1
  | false => exact hb pv F1 H1 σ e1 as1 held Q c1 (WT.mono s1 w1)
theorem st_not {ta : TT} {ma : M Bool} (ha : ST K mg E ta ma) : ST K mg E (tNot ta) (dNot ma) := by
  intro pv F H σ e as held Q c w
  exact ha pv F H σ e as held _ c (WT.bindT (W := WT K mg pv F held σ Q E) (fun z => z) w (fun _ _ z => z) fun b e1 F1 H1 as1 s1 c1 w1 => w1 F1 H1 as1 s1 c1)
def dSeq (a b : M Fl) : M Fl := a.bind fun f => match f with
  | .nx => b
  | f => fun e => .ok f e
def dNext : M Fl := fun e => .ok .nx e
def dIf (c : M Bool) (a b : M Fl) : M Fl := c.bind fun k => match k with
  | true => a
  | false => b
theorem ss_next : SS K mg E tNext dNext := by
  intro pv F H σ e as held D c w
  exact w σ F H as (Same.refl _) c
theorem ss_seq {ta tb : TS} {ma mb : M Fl} (ha : SS K mg E ta ma) (hb : SS K mg E tb mb) : SS K mg E (tSeq ta tb) (dSeq ma mb) := by
  intro pv F H σ e as held D c w
  refine ha pv F H σ e as held _ c ?_
  have w' : WS K mg pv F held E D ((ma e).bind fun f => match f with
    | .nx => mb
    | f => fun e => .ok f e) := w
  cases q : ma e with
  | st => rw [q] at w'; exact w'.elim
  | ex x e' => rw [q] at w'; exact w'
  | ok f e' =>
    rw [q] at w'
    cases f with
    | nx => exact fun σ1 F1 H1 as1 s1 c1 => hb pv F1 H1 σ1 e' as1 held D c1 (WS.mono s1 w')
    | bk => exact w'
    | ct => exact w'
    | rt r => exact w'
theorem ss_if {tc : TT} {ta tb : TS} {mc : M Bool} {ma mb : M Fl} (hc : ST K mg E tc mc) (ha : SS K mg E ta ma) (hb : SS K mg E tb mb) : SS K mg E (tIfS tc ta tb) (dIf mc ma mb) := by
  intro pv F H σ e as held D c w
  refine hc pv F H σ e as held _ c (WT.bindT (W := WS K mg pv F held E D) (fun z => z) w (fun _ _ z => z) fun b e1 F1 H1 as1 s1 c1 w1 => ?_)
  cases b with
  | true => exact ha pv F1 H1 σ e1 as1 held D c1 (WS.mono s1 w1)
  | false => exact hb pv F1 H1 σ e1 as1 held D c1 (WS.mono s1 w1)
def dRet (a : M RV) : M Fl := a.bind fun r e => .ok (.rt r) e
theorem ss_ret {ta : TE} {ma : M RV} (ha : SE K mg E ta ma) : SS K mg E (tRet ta) (dRet ma) := by
  intro pv F H σ e as held D c w
  exact ha pv F H σ e as held _ c (WE.bindE (W := WS K mg pv F held E D) (fun z => z) w (fun _ _ z => z) fun r1 e1 v1 F1 H1 as1 tr1 s1 c1 rr1 w1 => w1 v1 σ F1 H1 as1 tr1 s1 c1 rr1)
def dDrop (a : M RV) : M Fl := a.bind fun _ e => .ok .nx e
theorem ss_drop {ta : TE} {ma : M RV} (ha : SE K mg E ta ma) : SS K mg E (tDrop ta) (dDrop ma) := by
  intro pv F H σ e as held D c w
  exact ha pv F H σ e as held _ c (WE.bindE (W := WS K mg pv F held E D) (fun z => z) w (fun _ _ z => z) fun r1 e1 v1 F1 H1 as1 tr1 s1 c1 rr1 w1 => w1 σ F1 H1 as1 s1 c1.drop)
end
end VF
set_option maxRecDepth 100000
set_option maxHeartbeats 4000000
namespace VF
set_option autoImplicit false
open PySem PySem.Spec PyProof.Rows L2
open AT (cells cellsL er ers)
section
variable {K : PySem.W.Frag} {mg : Str → Option Value} {pv : List (Nat × V)} {F F' H H' : Hp} {σ : L2.St} {e e' : Env} {as as' : List (Option AT)} {held tr ts us : List AT} {E : XS}
theorem same_new {p : Addr} {o : HO} (h : H p = none) : Same H (upd H p o) := fun b x e => by
  rw [upd_ne (ne_of_none e h)]; exact e
theorem same_own {p : Addr} {o : HO} (s : Same F H) (h : F p = none) : Same F (upd H p o) := fun b x e => by
  rw [upd_ne (ne_of_none e h)]; exact s b x e
theorem same_both {p : Addr} {o : HO} (s : Same F H) (h : H p = none) : Same F (upd F p o) ∧ Same (upd F p o) (upd H p o) :=
  ⟨same_new (s.free h), fun b x e => by
    by_cases q : b = p
    · subst q; rw [upd_same] at e ⊢; exact e
    · rw [upd_ne q] at e ⊢; exact s b x e⟩
theorem Good.grow {p : Addr} {o : HO} (g : Good K mg F H us) (h : H p = none) : Good K mg F (upd H p o) us :=
  ⟨fun c hc => ⟨by rw [upd_ne (ne_of_none (g.at_ c hc).1 h)]; exact (g.at_ c hc).1, (g.at_ c hc).2⟩, g.ok, g.nd⟩
theorem Good.new {p : Addr} {xs : List AT} (g : Good K mg F H (xs ++ us)) (s : Same F H) (h : H p = none) : Good K mg F (upd H p (.lst (vals xs))) (.ol p xs :: us) := by
  have g2 := g.grow (o := .lst (vals xs)) h
  have hp : ∀ c ∈ cellsL (xs ++ us), c.1 ≠ p := fun c hc => ne_of_none (g.at_ c hc).1 h
  have ok := Oks.append.mp g.ok
  refine ⟨fun c hc => ?_, ⟨ok.1, ok.2⟩, ?_⟩
  · have hc' : c ∈ (p, HO.lst (vals xs)) :: (cellsL xs ++ cellsL us) := hc
    rcases List.mem_cons.mp hc' with e | hc'
    · subst e; exact ⟨upd_same, s.free h⟩
    · exact g2.at_ c (by rw [cellsL_append]; exact hc')
  · show (((p, HO.lst (vals xs)) :: (cellsL xs ++ cellsL us)).map (·.1)).Nodup
    rw [List.map_cons, List.nodup_cons, ← cellsL_append]
    refine ⟨fun q => ?_, g.nd⟩
    obtain ⟨c, hc, ec⟩ := List.mem_map.mp q
    exact hp c hc ec
theorem Good.newF {p : Addr} {o : HO} (g : Good K mg F H us) (s : Same F H) (h : H p = none) : Good K mg (upd F p o) (upd H p o) us := by
  have sb := same_both (o := o) s h
  refine ⟨fun c hc => ?_, Oks.same sb.1 g.ok, g.nd⟩
  have ne := ne_of_none (g.at_ c hc).1 h
  rw [upd_ne ne, upd_ne ne]
  exact g.at_ c hc
theorem Good.relist {p : Addr} {xs ys zs junk : List AT} (g : Good K mg F H (.ol p xs :: us)) (pm : (xs ++ us).Perm (junk ++ (ys ++ zs))) : Good K mg F (upd H p (.lst (vals ys))) (.ol p ys :: zs) := by
  have nd : (((p, HO.lst (vals xs)) :: (cellsL xs ++ cellsL us)).map (·.1)).Nodup := g.nd
  rw [List.map_cons, List.nodup_cons, ← cellsL_append] at nd
  have g1 : Good K mg F H (xs ++ us) := ⟨fun c hc => g.at_ c (List.mem_cons_of_mem _ (by rw [cellsL_append] at hc; exact hc)), Oks.append.mpr g.ok, nd.2⟩
  have g2 : Good K mg F H (ys ++ zs) := (g1.perm pm).sub
  have mem : ∀ c ∈ cellsL (ys ++ zs), c ∈ cellsL (xs ++ us) := fun c hc => (cellsL_perm pm).mem_iff.mpr (by rw [cellsL_append]; exact List.mem_append_right _ hc)
  have hp : ∀ c ∈ cellsL (ys ++ zs), c.1 ≠ p := fun c hc q => nd.1 (List.mem_map.mpr ⟨c, mem c hc, q⟩)
  have ok := Oks.append.mp g2.ok
  have hF : F p = none := (g.at_ (p, .lst (vals xs)) List.mem_cons_self).2
  refine ⟨fun c hc => ?_, ⟨ok.1, ok.2⟩, ?_⟩
  · have hc' : c ∈ (p, HO.lst (vals ys)) :: (cellsL ys ++ cellsL zs) := hc
    rcases List.mem_cons.mp hc' with e | hc'
    · subst e; exact ⟨upd_same, hF⟩
    · rw [← cellsL_append] at hc'
      rw [upd_ne (hp c hc')]
      exact g2.at_ c hc'
  · show (((p, HO.lst (vals ys)) :: (cellsL ys ++ cellsL zs)).map (·.1)).Nodup
    rw [List.map_cons, List.nodup_cons, ← cellsL_append]
    exact ⟨fun q => by obtain ⟨c, hc, ec⟩ := List.mem_map.mp q; exact hp c hc ec, g2.nd⟩
theorem Good.cell {p : Addr} {xs : List AT} (g : Good K mg F H (.ol p xs :: us)) : H p = some (.lst (vals xs)) ∧ F p = none := g.at_ (p, .lst (vals xs)) List.mem_cons_self
def Env.setS (e : Env) (i : Nat) (s : SV) : Env := ⟨e.sl.set i (some s), e.pn⟩
theorem Cf.take {i : Nat} {t : AT} (c : Cf K mg pv F H σ e as held) (h : as[i]? = some (some t)) : Good K mg F H (t :: (opts (as.set i none) ++ held)) :=
  c.g.perm ((opts_take h).append_right held)
theorem SR.put {i : Nat} {t t' : AT} (r : SR pv σ e as) (h : as[i]? = some (some t)) (hv : t'.val = t.val) : SR pv σ (e.setS i (er t')) (as.set i (some t')) where
  sl := by show e.sl.set i (some (er t')) = _; rw [List.map_set, r.sl]; rfl
  len := by rw [List.length_set]; exact r.len
  at_ := fun j u hj => by
    by_cases q : j = i
    · subst q
      have hlt : j < as.length := (List.getElem?_eq_some_iff.mp h).1
      rw [List.getElem?_set_self hlt] at hj
      cases hj
      rw [hv]
      exact r.at_ j t h
    · rw [List.getElem?_set_ne (Ne.symm q)] at hj
      exact r.at_ j u hj
  pin := r.pin
theorem Cf.put {i : Nat} {t t' : AT} (r : SR pv σ e as) (h : as[i]? = some (some t)) (s : Same F' H') (g : Good K mg F' H' (t' :: (opts (as.set i none) ++ held))) (hv : t'.val = t.val) :
    Cf K mg pv F' H' σ (e.setS i (er t')) (as.set i (some t')) held := by
  refine ⟨s, r.put h hv, ?_⟩
  have hlt : i < as.length := (List.getElem?_eq_some_iff.mp h).1
  have := opts_put (as := as.set i none) (i := i) t' (by simp [hlt])
  rw [List.set_set] at this
  exact g.perm (this.append_right held)
theorem Cf.frzS {i : Nat} {t : AT} (c : Cf K mg pv F H σ e as held) (h : as[i]? = some (some t)) :
    ∃ F', Same F F' ∧ Cf K mg pv F' H σ (e.setS i (.fz (er t).toD)) (as.set i (some (.fz t.val (er t).toD))) held ∧ Rep K mg F' t.val (er t).toD := by
  obtain ⟨s1, s2, g⟩ := (c.take h).freeze c.s
  exact ⟨_, s1, Cf.put c.r h s2 g rfl, g.unfz.2⟩
def frzR (r : RV) (e : Env) : Option (D × Env) := match r with
  | .fz d => some (d, e)
  | .own s => some (s.toD, e)
  | .var i => match e.sl[i]? with
    | some (some s) => some (s.toD, e.setS i (.fz s.toD))
    | _ => none
theorem Cf.frzR {v : V} {r : RV} {d : D} {e' : Env} (c : Cf K mg pv F H σ e as (tr ++ held)) (h : RR σ v r tr) (q : frzR r e = some (d, e')) :
    ∃ F' as', Same F F' ∧ Cf K mg pv F' H σ e' as' held ∧ Rep K mg F' v d := by
  cases r with
  | fz y =>
    have q' : some (y, e) = some (d, e') := q
    cases q'
    have e1 : tr = [.fz v d] := h
    subst e1
    have ok := Oks.mem.mp c.g.ok (.fz v d) (List.mem_append_right _ (List.mem_append_left _ List.mem_cons_self))
    exact ⟨F, as, Same.refl _, c.drop, ok⟩
  | own s =>
    have q' : some (s.toD, e) = some (d, e') := q
    cases q'
    obtain ⟨t, e1, e2, e3⟩ := h
    subst e1 e2 e3
    have g : Good K mg F H (t :: (opts as ++ held)) := c.g.perm (List.perm_middle (l₁ := opts as) (l₂ := held) (a := t))
    obtain ⟨s1, s2, g'⟩ := g.freeze c.s
    exact ⟨_, as, s1, ⟨s2, c.r, g'.unfz.1⟩, g'.unfz.2⟩
  | var i =>
    obtain ⟨e1, hv⟩ := h
    subst e1
    have q' : (match e.sl[i]? with | some (some s) => some (s.toD, e.setS i (.fz s.toD)) | _ => none) = some (d, e') := q
    cases z : e.sl[i]? with
    | none => rw [z] at q'; cases q'
    | some o =>
      cases o with
      | none => rw [z] at q'; cases q'
      | some s =>
        rw [z] at q'
        cases q'
        obtain ⟨t, ht, et⟩ := c.r.slotOf z
        subst et
        obtain ⟨F', s1, c', rp⟩ := c.frzS ht
        have hv2 := c.r.at_ i t ht
        rw [hv] at hv2
        have ev : v = t.val := by simpa using hv2
        subst ev
        exact ⟨F', _, s1, c', rp⟩
def frzRs : List RV → Env → Option (List D × Env)
  | [], e => some ([], e)
  | r :: rs, e => match frzR r e with
    | some (d, e1) => (match frzRs rs e1 with
      | some (ds, e2) => some (d :: ds, e2)
      | none => none)
    | none => none
theorem Cf.frzRs : ∀ {rs : List RV} {vs : List V} {ds : List D} {F : Hp} {e e' : Env} {as : List (Option AT)} {tr : List AT}, Cf K mg pv F H σ e as (tr ++ held) → RRs σ vs rs tr → frzRs rs e = some (ds, e') →
    ∃ F' as', Same F F' ∧ Cf K mg pv F' H σ e' as' held ∧ Reps K mg F' vs ds
  | [], [], ds, F, e, e', as, tr, c, h, q => by
    have e1 : tr = [] := h
    subst e1
    have q' : some (([] : List D), e) = some (ds, e') := q
    cases q'
    exact ⟨F, as, Same.refl _, c, trivial⟩
  | r :: rs, v :: vs, ds, F, e, e', as, tr, c, ⟨t1, t2, e1, h1, h2⟩, q => by
    subst e1
    have q' : (match VF.frzR r e with
      | some (d, e1) => (match VF.frzRs rs e1 with
        | some (ds, e2) => some (d :: ds, e2)
        | none => none)
      | none => none) = some (ds, e') := q
    cases q1 : VF.frzR r e with
    | none => rw [q1] at q'; cases q'
    | some p =>
      obtain ⟨d, e1⟩ := p
      rw [q1] at q'
      cases q2 : VF.frzRs rs e1 with
      | none => simp only [q2] at q'; cases q'
      | some p2 =>
        obtain ⟨ds2, e2⟩ := p2
        simp only [q2] at q'
        cases q'
        have c1 : Cf K mg pv F H σ e as (t1 ++ (t2 ++ held)) := ⟨c.s, c.r, c.g.perm (by
          refine List.Perm.append_left _ ?_
          rw [List.append_assoc]
          rw [← List.append_assoc, ← List.append_assoc]
          exact List.perm_append_comm.append_right held)⟩
        obtain ⟨F1, as1, s1, c2, rp⟩ := c1.frzR h1 q1
        obtain ⟨F2, as2, s2, c3, rps⟩ := Cf.frzRs c2 h2 q2
        exact ⟨F2, as2, s1.trans s2, c3, Rep.same s2 rp, rps⟩
  | [], _ :: _, _, _, _, _, _, _, _, h, _ => h.elim
  | _ :: _, [], _, _, _, _, _, _, _, h, _ => h.elim
def putR (i : Nat) (r : RV) (e : Env) : Option Env := if i ∈ e.pn then none else match r with
  | .fz d => some (e.setS i (.fz d))
  | .own s => some (e.setS i s)
  | .var j => match e.sl[j]? with
    | some (some s) => some ((e.setS j (.fz s.toD)).setS i (.fz s.toD))
    | _ => none
theorem SR.store {i : Nat} {t : AT} (r : SR pv σ e as) (hi : i ∉ e.pn) : SR pv (σ.set i (some t.val)) (e.setS i (er t)) (as.set i (some t)) where
  sl := by show e.sl.set i (some (er t)) = _; rw [List.map_set, r.sl]; rfl
  len := by rw [List.length_set, List.length_set]; exact r.len
  at_ := fun j u hj => by
    by_cases q : j = i
    · subst q
      have hlt : j < as.length := by
        have := (List.getElem?_eq_some_iff.mp hj).1
        simpa using this
      rw [List.getElem?_set_self hlt] at hj
      cases hj
      rw [List.getElem?_set_self (by rw [r.len]; exact hlt)]
    · rw [List.getElem?_set_ne (Ne.symm q)] at hj ⊢
      exact r.at_ j u hj
  pin := fun p hp => by
    obtain ⟨h1, h2⟩ := r.pin p hp
    refine ⟨h1, ?_⟩
    have ne : i ≠ p.1 := fun q => hi (by rw [q]; exact h1)
    rw [List.getElem?_set_ne ne]
    exact h2
theorem Cf.store {i : Nat} {t : AT} (c : Cf K mg pv F H σ e as ([t] ++ held)) (hi : i ∉ e.pn) : Cf K mg pv F H (σ.set i (some t.val)) (e.setS i (er t)) (as.set i (some t)) held := by
  refine ⟨c.s, c.r.store hi, ?_⟩
  obtain ⟨L, p⟩ := opts_set (as := as) (i := i) t
  have p2 : (opts as ++ ([t] ++ held)).Perm (L ++ (opts (as.set i (some t)) ++ held)) := by
    refine (List.perm_middle (l₁ := opts as) (l₂ := held) (a := t)).trans ?_
    have := p.append_right held
    rw [List.append_assoc] at this
    exact this
  exact (c.g.perm p2).sub
theorem Cf.putR {i : Nat} {v : V} {r : RV} (c : Cf K mg pv F H σ e as (tr ++ held)) (h : RR σ v r tr) (q : putR i r e = some e') :
    ∃ F' as', Same F F' ∧ Cf K mg pv F' H (σ.set i (some v)) e' as' held := by
  unfold VF.putR at q
  by_cases hi : i ∈ e.pn
  · rw [if_pos hi] at q; cases q
  rw [if_neg hi] at q
  cases r with
  | fz d =>
    cases q
    have e1 : tr = [.fz v d] := h
    subst e1
    exact ⟨F, _, Same.refl _, c.store hi⟩
  | own s =>
    cases q
    obtain ⟨t, e1, e2, e3⟩ := h
    subst e1 e2 e3
    exact ⟨F, _, Same.refl _, c.store hi⟩
  | var j =>
    obtain ⟨e1, hv⟩ := h
    subst e1
    cases z : e.sl[j]? with
    | none => simp only [z] at q; cases q
    | some o =>
      cases o with
      | none => simp only [z] at q; cases q
      | some s =>
        simp only [z] at q
        cases q
        obtain ⟨t, ht, et⟩ := c.r.slotOf z
        subst et
        obtain ⟨F', s1, c', rp⟩ := c.frzS ht
        have hv2 := c.r.at_ j t ht
        rw [hv] at hv2
        have ev : v = t.val := by simpa using hv2
        subst ev
        exact ⟨F', _, s1, Cf.store (t := .fz t.val (er t).toD) (c'.fz rp) hi⟩
def dSet (i : Nat) (a : M RV) : M Fl := a.bind fun r e => match putR i r e with
  | some e' => .ok .nx e'
  | none => .st
theorem ss_set {i : Nat} {ta : TE} {ma : M RV} (ha : SE K mg E ta ma) : SS K mg E (tAsg ta (gName i)) (dSet i ma) := by
  intro pv F H σ e as held D c w
  refine ha pv F H σ e as held _ c (WE.bindE (W := WS K mg pv F held E D) (fun z => z) w (fun _ _ z => z) fun r1 e1 v1 F1 H1 as1 tr1 s1 c1 rr1 w1 => ?_)
  have w2 : WS K mg pv F held E D (match putR i r1 e1 with
    | some e' => .ok .nx e'
    | none => .st) := w1
  cases q : putR i r1 e1 with
  | none => rw [q] at w2; exact w2.elim
  | some e' =>
    rw [q] at w2
    obtain ⟨F', as', s', c'⟩ := c1.putR rr1 q
    exact w2 _ F' H1 as' (s1.trans s') c'
def dLst (a : M (List RV)) : M RV := a.bind fun rs e => match frzRs rs e with
  | some (ds, e') => if ds.length ≤ sizeLine then .ok (.own (.ol (ds.map .fz))) e' else .st
  | none => .st
def atoms (vs : List V) (ds : List D) : List AT := (vs.zip ds).map fun p => .fz p.1 p.2
theorem vals_atoms : ∀ {vs : List V} {ds : List D}, Reps K mg F vs ds → vals (atoms vs ds) = vs
  | [], [], _ => rfl
  | v :: vs, d :: ds, ⟨_, h⟩ => congrArg (v :: ·) (vals_atoms h)
  | [], _ :: _, h => h.elim
  | _ :: _, [], h => h.elim
theorem ers_atoms : ∀ {vs : List V} {ds : List D}, Reps K mg F vs ds → ers (atoms vs ds) = ds.map .fz
  | [], [], _ => rfl
  | v :: vs, d :: ds, ⟨_, h⟩ => congrArg (SV.fz d :: ·) (ers_atoms h)
  | [], _ :: _, h => h.elim
  | _ :: _, [], h => h.elim
theorem cells_atoms : ∀ (vs : List V) (ds : List D), cellsL (atoms vs ds) = []
  | [], _ => rfl
  | _ :: _, [] => rfl
  | v :: vs, d :: ds => cells_atoms vs ds
theorem oks_atoms : ∀ {vs : List V} {ds : List D}, Reps K mg F vs ds → Oks K mg F (atoms vs ds)
  | [], [], _ => trivial
  | v :: vs, d :: ds, ⟨h1, h⟩ => ⟨h1, oks_atoms h⟩
  | [], _ :: _, h => h.elim
  | _ :: _, [], h => h.elim
theorem Good.atoms {vs : List V} {ds : List D} (g : Good K mg F H us) (h : Reps K mg F vs ds) : Good K mg F H (atoms vs ds ++ us) :=
  ⟨fun c hc => g.at_ c (by rw [cellsL_append, cells_atoms] at hc; exact hc), Oks.append.mpr ⟨oks_atoms h, g.ok⟩, by rw [cellsL_append, cells_atoms]; exact g.nd⟩
theorem Cf.newL {p : Addr} {vs : List V} {ds : List D} (c : Cf K mg pv F H σ e as held) (h : Reps K mg F vs ds) (hp : H p = none) :
    ∃ t, t.val = .ref p ∧ er t = .ol (ds.map .fz) ∧ Cf K mg pv F (upd H p (.lst vs)) σ e as ([t] ++ held) := by
  refine ⟨.ol p (VF.atoms vs ds), rfl, ?_, same_own c.s (c.s.free hp), c.r, ?_⟩
  · show SV.ol (ers (VF.atoms vs ds)) = _
    rw [ers_atoms h]
  · have g := (c.g.atoms h).new c.s hp
    rw [vals_atoms h] at g
    exact g.perm (List.perm_middle (l₁ := opts as) (l₂ := held)).symm
theorem se_lst {ta : TA} {ma : M (List RV)} (ha : SA K mg E ta ma) : SE K mg E (tLst ta) (dLst ma) := by
  intro pv F H σ e as held Q c w
  refine ha pv F H σ e as held _ c (WA.bindA (W := WE K mg pv F held σ Q E) (fun z => z) w (fun _ _ z => z) fun rs e1 vs F1 H1 as1 tr1 s1 c1 rr1 w1 => ?_)
  have w2 : WE K mg pv F held σ Q E (match frzRs rs e1 with
    | some (ds, e') => if ds.length ≤ sizeLine then .ok (.own (.ol (ds.map .fz))) e' else .st
    | none => .st) := w1
  cases q : frzRs rs e1 with
  | none => rw [q] at w2; exact w2.elim
  | some pr =>
    obtain ⟨ds, e2⟩ := pr
    rw [q] at w2
    obtain ⟨F2, as2, s2, c2, rps⟩ := c1.frzRs rr1 q
    by_cases hz : ds.length ≤ sizeLine
    · simp only [if_pos hz] at w2
      refine ⟨by rw [rps.length]; exact hz, fun p hp => ?_⟩
      obtain ⟨t, e1, e2', c3⟩ := c2.newL rps hp
      exact w2 (.ref p) F2 _ as2 [t] (s1.trans s2) c3 ⟨t, rfl, e1, e2'⟩
    · simp only [if_neg hz] at w2; exact w2.elim
def dTup (a : M (List RV)) : M RV := a.bind fun rs e => match frzRs rs e with
  | some (ds, e') => if ds.length ≤ sizeLine then .ok (.fz (.tup ds)) e' else .st
  | none => .st
theorem Cf.newT {p : Addr} {vs : List V} {ds : List D} (c : Cf K mg pv F H σ e as held) (h : Reps K mg F vs ds) (hp : H p = none) :
    ∃ F', Same F F' ∧ Cf K mg pv F' (upd H p (.tup vs)) σ e as ([.fz (.ref p) (.tup ds)] ++ held) := by
  have sb := same_both (o := .tup vs) c.s hp
  refine ⟨upd F p (.tup vs), sb.1, Cf.fz ⟨sb.2, c.r, c.g.newF c.s hp⟩ ⟨p, vs, rfl, SqT.of upd_same, Reps.same sb.1 h⟩⟩
theorem se_tup {ta : TA} {ma : M (List RV)} (ha : SA K mg E ta ma) : SE K mg E (tTup ta) (dTup ma) := by
  intro pv F H σ e as held Q c w
  refine ha pv F H σ e as held _ c (WA.bindA (W := WE K mg pv F held σ Q E) (fun z => z) w (fun _ _ z => z) fun rs e1 vs F1 H1 as1 tr1 s1 c1 rr1 w1 => ?_)
  have w2 : WE K mg pv F held σ Q E (match frzRs rs e1 with
    | some (ds, e') => if ds.length ≤ sizeLine then .ok (.fz (.tup ds)) e' else .st
    | none => .st) := w1
  cases q : frzRs rs e1 with
  | none => rw [q] at w2; exact w2.elim
  | some pr =>
    obtain ⟨ds, e2⟩ := pr
    rw [q] at w2
    obtain ⟨F2, as2, s2, c2, rps⟩ := c1.frzRs rr1 q
    by_cases hz : ds.length ≤ sizeLine
    · simp only [if_pos hz] at w2
      refine ⟨by rw [rps.length]; exact hz, fun p hp => ?_⟩
      obtain ⟨F3, s3, c3⟩ := c2.newT rps hp
      exact w2 (.ref p) F3 _ as2 _ ((s1.trans s2).trans s3) c3 rfl
    · simp only [if_neg hz] at w2; exact w2.elim
def kid (xs : List SV) (i : Int) : Option D := match atI xs i with
  | some (.fz d) => some d
  | _ => none
def itemD (d : D) (i : Int) : Option D := match d with
  | .lst ds => atI ds i
  | .tup ds => atI ds i
  | .scr ns => (atI ns i).map .int
  | .str z => if z.length ≤ sizeLine then (atI z.cps.toList i).map fun c => .str ⟨#[c]⟩ else none
  | _ => none
def itemS (s : SV) (i : Int) : Option D := match s with
  | .fz d => itemD d i
  | .ol xs => kid xs i
  | _ => none
def itemR (e : Env) (r : RV) (i : Int) : Option D := match r with
  | .fz d => itemD d i
  | .own s => itemS s i
  | .var j => match e.sl[j]? with
    | some (some s) => itemS s i
    | _ => none
def dIx (a b : M RV) : M RV := a.bind fun r => b.bind fun q e => match view e q with
  | some (.int i) => (match itemR e r i with
    | some d => .ok (.fz d) e
    | none => .st)
  | _ => .st
theorem atI_map {α β : Type} (f : α → β) (xs : List α) (i : Int) : atI (xs.map f) i = (atI xs i).map f := by
  unfold atI
  rw [List.length_map]
  cases ixN xs.length i with
  | none => rfl
  | some j => show (xs.map f)[j]? = _; rw [List.getElem?_map]; rfl
theorem Reps.at {vs : List V} {ds : List D} {i : Int} {d : D} (h : Reps K mg F vs ds) (q : atI ds i = some d) : ∃ v, atI vs i = some v ∧ Rep K mg F v d := by
  unfold atI at q ⊢
  rw [h.length]
  cases z : ixN ds.length i with
  | none => rw [z] at q; cases q
  | some j => rw [z] at q; exact h.get q
theorem item_data {v : V} {d x : D} {i : Int} (s : Same F H) (h : Rep K mg F v d) (q : itemD d i = some x) : ∃ y, Rep K mg F y x ∧ ∀ Q : VK, Q y H → rIx K v (.int i) H Q := by
  cases d with
  | lst ds =>
    obtain ⟨p, vs, e, h1, h2⟩ := h
    subst e
    obtain ⟨y, hy, ry⟩ := h2.at q
    exact ⟨y, ry, fun Q k => .inl ⟨p, vs, i, y, rfl, rfl, SqL.of (s _ _ h1), hy, k⟩⟩
  | tup ds =>
    obtain ⟨p, vs, e, h1, h2⟩ := h
    subst e
    obtain ⟨y, hy, ry⟩ := h2.at q
    exact ⟨y, ry, fun Q k => .inr (.inl ⟨p, vs, i, y, rfl, rfl, SqT_same s h1, hy, k⟩)⟩
  | scr ns =>
    obtain ⟨p, e, h1⟩ := h
    subst e
    have q' : (atI ns i).map D.int = some x := q
    cases z : atI ns i with
    | none => rw [z] at q'; cases q'
    | some n =>
      rw [z] at q'
      cases q'
      exact ⟨.int n, rfl, fun Q k => .inl ⟨p, _, i, .int n, rfl, rfl, s.seq h1, by rw [atI_map, z]; rfl, k⟩⟩
  | str z =>
    have e : v = .str z := h
    subst e
    have q' : (if z.length ≤ sizeLine then (atI z.cps.toList i).map (fun c => D.str ⟨#[c]⟩) else none) = some x := q
    by_cases hz : z.length ≤ sizeLine
    · rw [if_pos hz] at q'
      cases w : atI z.cps.toList i with
      | none => rw [w] at q'; cases q'
      | some c =>
        rw [w] at q'
        cases q'
        exact ⟨.str ⟨#[c]⟩, rfl, fun Q k => .inr (.inr ⟨z, i, c, rfl, rfl, hz, w, k⟩)⟩
    · rw [if_neg hz] at q'; cases q'
  | _ => cases q
theorem item_tree {t : AT} {x : D} {i : Int} (g : Good K mg F H us) (hm : t ∈ us) (s : Same F H) (q : itemS (er t) i = some x) : ∃ y, Rep K mg F y x ∧ ∀ Q : VK, Q y H → rIx K t.val (.int i) H Q := by
  have ok := Oks.mem.mp g.ok t hm
  cases t with
  | fz v d => exact item_data s ok q
  | ol p xs =>
    have hc : H p = some (.lst (vals xs)) := (g.at_ (p, .lst (vals xs)) (by rw [cellsL_eq]; exact List.mem_flatMap.mpr ⟨_, hm, List.mem_cons_self⟩)).1
    have q' : kid (ers xs) i = some x := q
    unfold kid at q'
    rw [ers_eq, atI_map] at q'
    cases z : atI xs i with
    | none => rw [z] at q'; cases q'
    | some u =>
      rw [z] at q'
      cases u with
      | fz v d =>
        have ed : d = x := Option.some.inj q'
        subst ed
        have hu : AT.fz v d ∈ xs := by
          unfold atI at z
          cases w : ixN xs.length i with
          | none => rw [w] at z; cases z
          | some j => rw [w] at z; exact List.mem_of_getElem? z
        have oku : Rep K mg F v d := Oks.mem.mp (show Oks K mg F xs from ok) _ hu
        refine ⟨v, oku, fun Q k => .inl ⟨p, vals xs, i, v, rfl, rfl, SqL.of hc, ?_, k⟩⟩
        show atI (xs.map AT.val) i = some v
        rw [atI_map, z]
        rfl
      | ol _ _ => cases q'
      | oo _ _ _ _ _ _ => cases q'
      | od _ _ _ => cases q'
  | oo _ _ _ _ _ _ => cases q
  | od _ _ _ => cases q
theorem Cf.item {v : V} {r : RV} {x : D} {i : Int} (c : Cf K mg pv F H σ e as held) (h : RR σ v r tr) (hm : ∀ t ∈ tr, t ∈ held) (q : itemR e r i = some x) : ∃ y, Rep K mg F y x ∧ ∀ Q : VK, Q y H → rIx K v (.int i) H Q := by
  cases r with
  | fz d =>
    have e1 : tr = [.fz v d] := h
    subst e1
    exact item_tree (t := .fz v d) c.g (List.mem_append_right _ (hm _ List.mem_cons_self)) c.s q
  | own s =>
    obtain ⟨t, e1, e2, e3⟩ := h
    subst e1 e2 e3
    exact item_tree c.g (List.mem_append_right _ (hm _ List.mem_cons_self)) c.s q
  | var j =>
    obtain ⟨_, hv⟩ := h
    have q' : (match e.sl[j]? with | some (some s) => itemS s i | _ => none) = some x := q
    cases z : e.sl[j]? with
    | none => rw [z] at q'; cases q'
    | some o =>
      cases o with
      | none => rw [z] at q'; cases q'
      | some s =>
        rw [z] at q'
        obtain ⟨t, ht, et⟩ := c.r.slotOf z
        subst et
        have hv2 := c.r.at_ j t ht
        rw [hv] at hv2
        have ev : v = t.val := by simpa using hv2
        subst ev
        exact item_tree c.g (List.mem_append_left _ (mem_opts ht)) c.s q'
theorem se_ix {ta tb : TE} {ma mb : M RV} (ha : SE K mg E ta ma) (hb : SE K mg E tb mb) : SE K mg E (tOp (rIx K) ta tb) (dIx ma mb) := by
  intro pv F H σ e as held Q c w
  refine ha pv F H σ e as held _ c (WE.bindE (W := WE K mg pv F held σ Q E) (fun z => z) w (fun _ _ z => z) fun r1 e1 v1 F1 H1 as1 tr1 s1 c1 rr1 w1 => ?_)
  refine hb pv F1 H1 σ e1 as1 (tr1 ++ held) _ c1 (WE.bindE (W := WE K mg pv F held σ Q E) (fun z => z) w1 (fun _ _ z => (WX.mono s1 z).drop) fun r2 e2 v2 F2 H2 as2 tr2 s2 c2 rr2 w2 => ?_)
  have w3 : WE K mg pv F held σ Q E (match view e2 r2 with
    | some (.int i) => (match itemR e2 r1 i with
      | some d => .ok (.fz d) e2
      | none => .st)
    | _ => .st) := w2
  cases q2 : view e2 r2 with
  | none => rw [q2] at w3; exact w3.elim
  | some y =>
    have p2 := c2.seen rr2 (fun t ht => List.mem_append_left _ ht) q2
    rw [q2] at w3
    cases y with
    | int i =>
      have ev : v2 = .int i := p2
      subst ev
      simp only at w3
      cases q3 : itemR e2 r1 i with
      | none => rw [q3] at w3; exact w3.elim
      | some d =>
        rw [q3] at w3
        obtain ⟨y, ry, k⟩ := c2.item rr1 (fun t ht => List.mem_append_right _ (List.mem_append_left _ ht)) q3
        exact k Q (w3 y F2 H2 as2 _ (s1.trans s2) (c2.drop.drop.fz ry) rfl)
    | _ => exact w3.elim
end
end VF
set_option maxRecDepth 100000
set_option maxHeartbeats 4000000
namespace VF
set_option autoImplicit false
open PySem PySem.Spec PyProof.Rows L2
open AT (cells cellsL er ers)
section
variable {K : PySem.W.Frag} {mg : Str → Option Value} {pv : List (Nat × V)} {F F' H H' : Hp} {σ : L2.St} {e e' : Env} {as as' : List (Option AT)} {held tr ts us : List AT} {E : XS}
theorem pswap {α : Type} (a b c : List α) : (a ++ (b ++ c)).Perm (b ++ (a ++ c)) := by
  rw [← List.append_assoc, ← List.append_assoc]
  exact List.perm_append_comm.append_right c
theorem er_ol {t : AT} {xs : List SV} (h : er t = .ol xs) : ∃ p ys, t = .ol p ys ∧ ers ys = xs := by
  cases t with
  | ol p ys => exact ⟨p, ys, rfl, by simpa [er] using h⟩
  | fz _ _ => simp [er] at h
  | oo _ _ _ _ _ _ => simp [er] at h
  | od _ _ _ => simp [er] at h
theorem Cf.ownL {i : Nat} {xs : List SV} (c : Cf K mg pv F H σ e as held) (z : e.sl[i]? = some (some (.ol xs))) :
    ∃ p ys, as[i]? = some (some (.ol p ys)) ∧ ers ys = xs ∧ σ[i]? = some (some (.ref p)) ∧ H p = some (.lst (vals ys)) := by
  obtain ⟨t, ht, et⟩ := c.r.slotOf z
  obtain ⟨p, ys, rfl, ey⟩ := er_ol et
  exact ⟨p, ys, ht, ey, c.r.at_ i _ ht, (c.take ht).cell.1⟩
theorem Cf.relist {i : Nat} {p : Addr} {xs ys zs junk : List AT} (c : Cf K mg pv F H σ e as us) (h : as[i]? = some (some (.ol p xs))) (pm : (xs ++ us).Perm (junk ++ (ys ++ zs))) :
    Cf K mg pv F (upd H p (.lst (vals ys))) σ (e.setS i (.ol (ers ys))) (as.set i (some (.ol p ys))) zs := by
  have g := c.take h
  have g2 : Good K mg F (upd H p (.lst (vals ys))) (.ol p ys :: (opts (as.set i none) ++ zs)) := by
    refine g.relist (junk := junk) ?_
    exact (pswap _ _ _).trans ((pm.append_left _).trans ((pswap _ _ _).trans (List.Perm.append_left _ (pswap _ _ _))))
  exact Cf.put (t' := .ol p ys) c.r h (same_own c.s g.cell.2) g2 rfl
theorem Cf.fzs {v : V} {d : D} (c : Cf K mg pv F H σ e as held) (r : Rep K mg F v d) : Cf K mg pv F H σ e as (.fz v d :: held) := c.fz r
def dApp (i : Nat) (a : M RV) : M RV := fun e0 => match e0.sl[i]? with
  | some (some (.ol _)) => (a e0).bind fun r e => match frzR r e with
    | some (d, e1) => (match e1.sl[i]? with
      | some (some (.ol xs)) => if xs.length < sizeLine then .ok (.fz .non) (e1.setS i (.ol (xs ++ [.fz d]))) else .st
      | _ => .st)
    | none => .st
  | _ => .st
theorem vals_snoc (ys : List AT) (v : V) (d : D) : vals (ys ++ [.fz v d]) = vals ys ++ [v] := by
  unfold vals; rw [List.map_append]; rfl
theorem ers_snoc (ys : List AT) (v : V) (d : D) : ers (ys ++ [.fz v d]) = ers ys ++ [.fz d] := by
  rw [ers_eq, ers_eq, List.map_append]; rfl
theorem se_app {i : Nat} {ta : TE} {ma : M RV} (ha : SE K mg E ta ma) : SE K mg E (tBM K "list" rAppend (tVar i) (tCons ta tNil)) (dApp i ma) := by
  intro pv F H σ e as held Q c w
  unfold dApp at w
  cases z : e.sl[i]? with
  | none => simp only [z] at w; exact w.elim
  | some o =>
    cases o with
    | none => simp only [z] at w; exact w.elim
    | some s =>
      cases s with
      | ol xs0 =>
        simp only [z] at w
        obtain ⟨p, ys0, h0, _, hv, hp⟩ := c.ownL z
        refine ⟨_, hv, .inl ⟨rfl, _, SqL.of hp⟩, ?_⟩
        refine ha pv F H σ e as held _ c (WE.bindE (W := WE K mg pv F held σ Q E) (fun z => z) w (fun _ _ z => z) fun r1 e1 v1 F1 H1 as1 tr1 s1 c1 rr1 w1 => ?_)
        cases q : frzR r1 e1 with
        | none => simp only [q] at w1; exact w1.elim
        | some pr =>
          obtain ⟨d, e2⟩ := pr
          simp only [q] at w1
          obtain ⟨F2, as2, s2, c2, rp⟩ := c1.frzR rr1 q
          cases z2 : e2.sl[i]? with
          | none => simp only [z2] at w1; exact w1.elim
          | some o =>
            cases o with
            | none => simp only [z2] at w1; exact w1.elim
            | some s =>
              cases s with
              | ol xs =>
                simp only [z2] at w1
                by_cases hz : xs.length < sizeLine
                · rw [if_pos hz] at w1
                  obtain ⟨p2, ys, h2, ey, hv2, hp2⟩ := c2.ownL z2
                  have ep : p2 = p := by rw [hv] at hv2; simpa using hv2.symm
                  subst ep
                  have ly : (vals ys).length = xs.length := by rw [← ey, ers_length]; exact List.length_map _
                  refine ⟨p2, vals ys, v1, rfl, rfl, hp2, by rw [ly]; exact hz, ?_⟩
                  have c3 := (c2.fzs rp).relist (ys := ys ++ [.fz v1 d]) (zs := held) (junk := []) h2 (by simp)
                  rw [vals_snoc, ers_snoc, ey] at c3
                  exact w1 .non F2 _ _ _ (s1.trans s2) (c3.fz (show Rep K mg F2 .non .non from rfl)) rfl
                · rw [if_neg hz] at w1; exact w1.elim
              | _ => simp only [z2] at w1; exact w1.elim
      | _ => simp only [z] at w; exact w.elim
def svR : SV → RV
  | .fz d => .fz d
  | .ol xs => .own (.ol xs)
  | .oo c ns xs => .own (.oo c ns xs)
  | .od ks xs => .own (.od ks xs)
theorem rr_svR (t : AT) : RR σ t.val (svR (er t)) [t] := by
  cases t with
  | fz v d => exact rfl
  | ol p xs => exact ⟨_, rfl, rfl, rfl⟩
  | oo p C dx c ns xs => exact ⟨_, rfl, rfl, rfl⟩
  | od p ks xs => exact ⟨_, rfl, rfl, rfl⟩
theorem map_erase {α β : Type} (f : α → β) : ∀ (xs : List α) (k : Nat), (xs.eraseIdx k).map f = (xs.map f).eraseIdx k
  | [], _ => rfl
  | _ :: _, 0 => rfl
  | x :: xs, k + 1 => congrArg (f x :: ·) (map_erase f xs k)
def dSetIx (j : Nat) (b a : M RV) : M Fl := a.bind fun r e0 => match e0.sl[j]? with
  | some (some (.ol _)) => (b e0).bind fun q e => match view e q with
    | some (.int k) => (match frzR r e with
      | some (d, e1) => (match e1.sl[j]? with
        | some (some (.ol xs)) => (match ixN xs.length k with
          | some n => .ok .nx (e1.setS j (.ol (xs.set n (.fz d))))
          | none => .st)
        | _ => .st)
      | none => .st)
    | _ => .st
  | _ => .st
theorem perm_set {α : Type} {y : α} : ∀ {xs : List α} {k : Nat} {x : α}, xs[k]? = some x → (y :: xs).Perm (x :: xs.set k y)
  | a :: xs, 0, x, h => by
    have e : a = x := by simpa using h
    subst e
    exact List.Perm.swap _ _ _
  | a :: xs, k + 1, x, h => by
    have ih := perm_set (y := y) (xs := xs) (k := k) (x := x) (by simpa using h)
    exact ((List.Perm.swap _ _ _).trans (ih.cons a)).trans (List.Perm.swap _ _ _)
theorem Cf.setL {j k : Nat} {p : Addr} {ys : List AT} {v : V} {d : D} (c : Cf K mg pv F H σ e as held) (h : as[j]? = some (some (.ol p ys))) (rp : Rep K mg F v d) (hk : k < ys.length) :
    Cf K mg pv F (upd H p (.lst ((vals ys).set k v))) σ (e.setS j (.ol ((ers ys).set k (.fz d)))) (as.set j (some (.ol p (ys.set k (.fz v d))))) held := by
  have gk : ys[k]? = some ys[k] := List.getElem?_eq_getElem hk
  have c3 := (c.fzs rp).relist (ys := ys.set k (.fz v d)) (zs := held) (junk := [ys[k]]) h (by
    refine (List.perm_middle (l₁ := ys) (l₂ := held) (a := AT.fz v d)).trans ?_
    exact (perm_set (y := AT.fz v d) gk).append_right held)
  have e1 : vals (ys.set k (.fz v d)) = (vals ys).set k v := by unfold vals; rw [List.map_set]; rfl
  have e2 : ers (ys.set k (.fz v d)) = (ers ys).set k (.fz d) := by rw [ers_eq, ers_eq, List.map_set]; rfl
  rw [e1, e2] at c3
  exact c3
theorem ixN_lt {n : Nat} {i : Int} {j : Nat} (h : ixN n i = some j) : j < n := (ixN_seq h).2.1
theorem ss_setIx {j : Nat} {ta tb : TE} {ma mb : M RV} (hb : SE K mg E tb mb) (ha : SE K mg E ta ma) : SS K mg E (tAsg ta (gSub (tVar j) tb rSetL)) (dSetIx j mb ma) := by
  intro pv F H σ e as held D c w
  refine ha pv F H σ e as held _ c (WE.bindE (W := WS K mg pv F held E D) (fun z => z) w (fun _ _ z => z) fun r1 e1 v1 F1 H1 as1 tr1 s1 c1 rr1 w1 => ?_)
  cases z : e1.sl[j]? with
  | none => simp only [z] at w1; exact w1.elim
  | some o =>
    cases o with
    | none => simp only [z] at w1; exact w1.elim
    | some s =>
      cases s with
      | ol xs0 =>
        simp only [z] at w1
        obtain ⟨p, ys0, h0, _, hv, hp⟩ := c1.ownL z
        refine ⟨_, hv, ?_⟩
        refine hb pv F1 H1 σ e1 as1 (tr1 ++ held) _ c1 (WE.bindE (W := WS K mg pv F held E D) (fun z => z) w1 (fun _ _ z => (WX.mono s1 z).drop) fun r2 e2 v2 F2 H2 as2 tr2 s2 c2 rr2 w2 => ?_)
        cases q : view e2 r2 with
        | none => simp only [q] at w2; exact w2.elim
        | some x =>
          have p1 := c2.seen rr2 (fun t ht => List.mem_append_left _ ht) q
          cases x with
          | int k =>
            have ev : v2 = .int k := p1
            subst ev
            simp only [q] at w2
            cases q2 : frzR r1 e2 with
            | none => simp only [q2] at w2; exact w2.elim
            | some pr =>
              obtain ⟨d, e3⟩ := pr
              simp only [q2] at w2
              obtain ⟨F3, as3, s3, c3, rp⟩ := (c2.drop).frzR rr1 q2
              cases z2 : e3.sl[j]? with
              | none => simp only [z2] at w2; exact w2.elim
              | some o =>
                cases o with
                | none => simp only [z2] at w2; exact w2.elim
                | some s =>
                  cases s with
                  | ol xs =>
                    simp only [z2] at w2
                    obtain ⟨p2, ys, h2, ey, hv2, hp2⟩ := c3.ownL z2
                    have ep : p2 = p := by rw [hv] at hv2; simpa using hv2.symm
                    subst ep
                    have ly : (vals ys).length = xs.length := by rw [← ey, ers_length]; exact List.length_map _
                    cases q3 : ixN xs.length k with
                    | none => simp only [q3] at w2; exact w2.elim
                    | some n =>
                      simp only [q3] at w2
                      refine ⟨p2, vals ys, k, n, rfl, rfl, hp2, by rw [ly]; exact q3, ?_⟩
                      have hn := ixN_lt q3
                      have c4 := c3.setL h2 rp (show n < ys.length by rw [← ey, ers_length] at hn; exact hn)
                      rw [ey] at c4
                      exact w2 σ F3 _ _ ((s1.trans s2).trans s3) c4
                  | _ => simp only [z2] at w2; exact w2.elim
          | _ => simp only [q] at w2; exact w2.elim
      | _ => simp only [z] at w1; exact w1.elim
end
end VF
set_option maxRecDepth 100000
set_option maxHeartbeats 4000000
namespace VF
set_option autoImplicit false
open PySem PySem.Spec PyProof.Rows L2
open AT (cells cellsL er ers)
section
variable {K : PySem.W.Frag} {mg : Str → Option Value} {pv : List (Nat × V)} {F F' H H' : Hp} {σ : L2.St} {e e' : Env} {as as' : List (Option AT)} {held tr ts us : List AT} {E : XS}
def kidI (e : Env) (j : Nat) (k : Int) : Option Int := match e.sl[j]? with
  | some (some (.ol xs)) => (match kid xs k with
    | some (.int x) => some x
    | _ => none)
  | _ => none
def dAugIx (j : Nat) (b : M RV) (f : Int → Int → Int) (a : M RV) : M Fl := fun e0 => match e0.sl[j]? with
  | some (some (.ol _)) => (b e0).bind fun q e => match view e q with
    | some (.int k) => if 0 ≤ k then (match kidI e j k with
      | some x => (a e).bind fun r e1 => (match view e1 r with
        | some (.int y) => (match e1.sl[j]? with
          | some (some (.ol xs)) => (match ixN xs.length k with
            | some n => .ok .nx (e1.setS j (.ol (xs.set n (.fz (.int (f x y))))))
            | none => .st)
          | _ => .st)
        | _ => .st)
      | _ => .st) else .st
    | _ => .st
  | _ => .st
inductive FR where
  | st | ok (r : SV) (as : List SV) | ex (x : Exc) (as : List SV)
abbrev Fn := List SV → FR
def spF (K : PySem.W.Frag) (mg : Str → Option Value) (n : Nat) (φ : Fn) : Sp := fun vs H Q E => ∃ (F : Hp) (ts held : List AT), vs = vals ts ∧ ts.length = n ∧ Same F H ∧ Good K mg F H (ts ++ held) ∧ match φ (ers ts) with
  | .st => False
  | .ok r as' => ∀ v F' H' t ts', Same F F' → Same F' H' → t.val = v → er t = r → vals ts' = vs → ers ts' = as' → Good K mg F' H' (t :: (ts' ++ held)) → Q v H'
  | .ex x as' => ∀ cls d F' H' ts', Same F F' → Same F' H' → RX mg H' x cls d → (∀ dd, d = some dd → F dd = none) → vals ts' = vs → ers ts' = as' → Good K mg F' H' (ts' ++ held) → E cls d H'
def Env.clr (e : Env) (i : Nat) : Env := ⟨e.sl.set i none, e.pn⟩
def loadOne (md : Bool) (r : RV) (e : Env) : Option (SV × Env) := match md with
  | false => (match frzR r e with
    | some (d, e1) => some (.fz d, e1)
    | none => none)
  | true => (match r with
    | .var i => (match e.sl[i]? with
      | some (some s) => some (s, e.clr i)
      | _ => none)
    | _ => none)
def load : List Bool → List RV → Env → Option (List SV × Env)
  | [], [], e => some ([], e)
  | md :: mds, r :: rs, e => (match loadOne md r e with
    | some (s, e1) => (match load mds rs e1 with
      | some (ss, e2) => some (s :: ss, e2)
      | none => none)
    | none => none)
  | _, _, _ => none
def isClr (e : Env) (i : Nat) : Bool := match e.sl[i]? with
  | some none => true
  | _ => false
theorem isClr_ok {i : Nat} (h : isClr e i = true) : e.sl[i]? = some none := by
  unfold isClr at h
  cases z : e.sl[i]? with
  | none => rw [z] at h; cases h
  | some o => cases o with
    | none => rfl
    | some s => rw [z] at h; cases h
def unload : List Bool → List RV → List SV → Env → Option Env
  | [], [], [], e => some e
  | false :: mds, _ :: rs, _ :: ss, e => unload mds rs ss e
  | true :: mds, .var i :: rs, s :: ss, e => if isClr e i = true then unload mds rs ss (e.setS i s) else none
  | _, _, _, _ => none
theorem Cf.clr {i : Nat} {t : AT} (c : Cf K mg pv F H σ e as held) (h : as[i]? = some (some t)) : Cf K mg pv F H σ (e.clr i) (as.set i none) ([t] ++ held) := by
  refine ⟨c.s, ⟨?_, by rw [List.length_set]; exact c.r.len, fun j u hj => ?_, c.r.pin⟩, ?_⟩
  · show e.sl.set i none = _
    rw [List.map_set, c.r.sl]; rfl
  · by_cases q : j = i
    · subst q
      have hlt : j < as.length := (List.getElem?_eq_some_iff.mp h).1
      rw [List.getElem?_set_self hlt] at hj
      cases hj
    · rw [List.getElem?_set_ne (Ne.symm q)] at hj
      exact c.r.at_ j u hj
  · exact (c.take h).perm (List.perm_middle (l₁ := opts (as.set i none)) (l₂ := held)).symm
theorem Cf.perm {us' : List AT} (c : Cf K mg pv F H σ e as us) (p : us.Perm us') : Cf K mg pv F H σ e as us' := ⟨c.s, c.r, c.g.perm (p.append_left _)⟩
theorem Cf.loadOne {md : Bool} {v : V} {r : RV} {s : SV} {e' : Env} (c : Cf K mg pv F H σ e as (tr ++ held)) (h : RR σ v r tr) (q : loadOne md r e = some (s, e')) :
    ∃ F' as' t, Same F F' ∧ Cf K mg pv F' H σ e' as' ([t] ++ held) ∧ t.val = v ∧ er t = s := by
  cases md with
  | false =>
    unfold VF.loadOne at q
    cases q1 : VF.frzR r e with
    | none => rw [q1] at q; cases q
    | some p =>
      obtain ⟨d, e1⟩ := p
      rw [q1] at q
      cases q
      obtain ⟨F', as', s1, c1, rp⟩ := c.frzR h q1
      exact ⟨F', as', .fz v d, s1, c1.fz rp, rfl, rfl⟩
  | true =>
    unfold VF.loadOne at q
    cases r with
    | var i =>
      obtain ⟨e1, hv⟩ := h
      subst e1
      cases z : e.sl[i]? with
      | none => simp only [z] at q; cases q
      | some o =>
        cases o with
        | none => simp only [z] at q; cases q
        | some s0 =>
          simp only [z] at q
          cases q
          obtain ⟨t, ht, et⟩ := c.r.slotOf z
          have hv2 := c.r.at_ i t ht
          rw [hv] at hv2
          have ev : v = t.val := by simpa using hv2
          exact ⟨F, _, t, Same.refl _, c.clr ht, ev.symm, et⟩
    | fz _ => cases q
    | own _ => cases q
theorem Cf.load : ∀ {md : List Bool} {rs : List RV} {vs : List V} {ss : List SV} {F : Hp} {e e' : Env} {as : List (Option AT)} {tr held : List AT}, Cf K mg pv F H σ e as (tr ++ held) → RRs σ vs rs tr → load md rs e = some (ss, e') →
    ∃ F' as' ts, Same F F' ∧ Cf K mg pv F' H σ e' as' (ts ++ held) ∧ vals ts = vs ∧ ers ts = ss
  | [], [], [], ss, F, e, e', as, tr, held, c, h, q => by
    have e1 : tr = [] := h
    subst e1
    have q' : some (([] : List SV), e) = some (ss, e') := q
    cases q'
    exact ⟨F, as, [], Same.refl _, c, rfl, rfl⟩
  | md :: mds, r :: rs, v :: vs, ss, F, e, e', as, tr, held, c, ⟨t1, t2, e1, h1, h2⟩, q => by
    subst e1
    have q' : (match VF.loadOne md r e with
      | some (s, e1) => (match VF.load mds rs e1 with
        | some (ss, e2) => some (s :: ss, e2)
        | none => none)
      | none => none) = some (ss, e') := q
    cases q1 : VF.loadOne md r e with
    | none => rw [q1] at q'; cases q'
    | some p =>
      obtain ⟨s, e1⟩ := p
      rw [q1] at q'
      cases q2 : VF.load mds rs e1 with
      | none => simp only [q2] at q'; cases q'
      | some p2 =>
        obtain ⟨ss2, e2⟩ := p2
        simp only [q2] at q'
        cases q'
        have c1 : Cf K mg pv F H σ e as (t1 ++ (t2 ++ held)) := c.perm (by rw [List.append_assoc]; exact pswap _ _ _)
        obtain ⟨F1, as1, t, s1, c2, ev, et⟩ := c1.loadOne h1 q1
        obtain ⟨F2, as2, ts, s2, c3, evs, ets⟩ := Cf.load (held := [t] ++ held) (c2.perm (pswap _ _ _)) h2 q2
        refine ⟨F2, as2, t :: ts, s1.trans s2, c3.perm (pswap ts [t] held), ?_, ?_⟩
        · show t.val :: vals ts = _
          rw [ev, evs]
        · show er t :: ers ts = _
          rw [et, ets]
  | [], _ :: _, _, _, _, _, _, _, _, _, _, _, q => by cases q
  | _ :: _, [], _, _, _, _, _, _, _, _, _, _, q => by cases q
  | _, [], _ :: _, _, _, _, _, _, _, _, _, h, _ => h.elim
  | _, _ :: _, [], _, _, _, _, _, _, _, _, h, _ => h.elim
theorem Cf.unload : ∀ {md : List Bool} {rs : List RV} {vs : List V} {ss : List SV} {e e' : Env} {as : List (Option AT)} {ts tr : List AT}, Cf K mg pv F H σ e as (ts ++ held) → RRs σ vs rs tr → vals ts = vs → ers ts = ss → unload md rs ss e = some e' →
    ∃ as', Cf K mg pv F H σ e' as' held
  | [], [], [], ss, e, e', as, ts, tr, c, h, ev, es, q => by
    cases ts with
    | nil =>
      have : ss = [] := es.symm
      subst this
      have q' : some e = some e' := q
      cases q'
      exact ⟨as, c⟩
    | cons t ts => cases ev
  | false :: mds, r :: rs, v :: vs, ss, e, e', as, ts, tr, c, ⟨t1, t2, e1, h1, h2⟩, ev, es, q => by
    cases ts with
    | nil => cases ev
    | cons t ts =>
      cases ss with
      | nil => cases es
      | cons s ss =>
        injection ev with ev1 ev2
        injection es with es1 es2
        exact Cf.unload (md := mds) (ts := ts) (Cf.drop (tr := [t]) c) h2 ev2 es2 q
  | true :: mds, r :: rs, v :: vs, ss, e, e', as, ts, tr, c, ⟨t1, t2, e1, h1, h2⟩, ev, es, q => by
    cases ts with
    | nil => cases ev
    | cons t ts =>
      cases ss with
      | nil => cases es
      | cons s ss =>
        injection ev with ev1 ev2
        injection es with es1 es2
        cases r with
        | fz _ => cases q
        | own _ => cases q
        | var i =>
          have q' : (if isClr e i = true then VF.unload mds rs ss (e.setS i s) else none) = some e' := q
          by_cases hi' : isClr e i = true
          · rw [if_pos hi'] at q'
            have hi := isClr_ok hi'
            have hv : σ[i]? = some (some v) := h1.2
            have hai : as[i]? = some none := by
              rw [c.r.sl, List.getElem?_map] at hi
              cases z : as[i]? with
              | none => rw [z] at hi; cases hi
              | some o => cases o with
                | none => rfl
                | some u => rw [z] at hi; cases hi
            have hlt : i < as.length := (List.getElem?_eq_some_iff.mp hai).1
            have c1 : Cf K mg pv F H σ (e.setS i s) (as.set i (some t)) (ts ++ held) := by
              refine ⟨c.s, ⟨?_, by rw [List.length_set]; exact c.r.len, fun j u hj => ?_, c.r.pin⟩, ?_⟩
              · show e.sl.set i (some s) = _
                rw [List.map_set, c.r.sl, ← es1]; rfl
              · by_cases z : j = i
                · subst z
                  rw [List.getElem?_set_self hlt] at hj
                  cases hj
                  rw [hv, ev1]
                · rw [List.getElem?_set_ne (Ne.symm z)] at hj
                  exact c.r.at_ j u hj
              · have g : Good K mg F H (t :: (opts as ++ (ts ++ held))) := c.g.perm (List.perm_middle (l₁ := opts as) (l₂ := ts ++ held) (a := t))
                exact g.perm ((opts_put t hai).append_right (ts ++ held))
            exact Cf.unload (md := mds) (ts := ts) c1 h2 ev2 es2 q'
          · rw [if_neg hi'] at q'; cases q'
  | [], _ :: _, _, _, _, _, _, _, _, _, _, _, _, q => by cases q
  | true :: _, [], _, _, _, _, _, _, _, _, _, _, _, q => by cases q
  | false :: _, [], _, _, _, _, _, _, _, _, _, _, _, q => by cases q
  | _, [], _ :: _, _, _, _, _, _, _, _, h, _, _, _ => h.elim
  | _, _ :: _, [], _, _, _, _, _, _, _, h, _, _, _ => h.elim
def dCall (md : List Bool) (φ : Fn) (a : M (List RV)) : M RV := a.bind fun rs e => match load md rs e with
  | some (ss, e1) => (match φ ss with
    | .st => .st
    | .ok r ss' => (match unload md rs ss' e1 with
      | some e2 => .ok (svR r) e2
      | none => .st)
    | .ex x ss' => (match unload md rs ss' e1 with
      | some e2 => .ex x e2
      | none => .st))
  | none => .st
theorem load_len : ∀ {md : List Bool} {rs : List RV} {e : Env} {p : List SV × Env}, load md rs e = some p → rs.length = md.length
  | [], [], _, _, _ => rfl
  | md :: mds, r :: rs, e, p, q => by
    have q' : (match VF.loadOne md r e with
      | some (s, e1) => (match VF.load mds rs e1 with
        | some (ss, e2) => some (s :: ss, e2)
        | none => none)
      | none => none) = some p := q
    cases q1 : VF.loadOne md r e with
    | none => rw [q1] at q'; cases q'
    | some p1 =>
      rw [q1] at q'
      cases q2 : VF.load mds rs p1.2 with
      | none => simp only [q2] at q'; cases q'
      | some p2 => exact congrArg Nat.succ (load_len q2)
  | [], _ :: _, _, _, q => by cases q
  | _ :: _, [], _, _, q => by cases q
theorem RRs.length : ∀ {vs : List V} {rs : List RV} {tr : List AT}, RRs σ vs rs tr → vs.length = rs.length
  | [], [], _, _ => rfl
  | _ :: _, _ :: _, _, ⟨_, _, _, _, h⟩ => congrArg Nat.succ (RRs.length h)
  | [], _ :: _, _, h => h.elim
  | _ :: _, [], _, h => h.elim
theorem se_call {md : List Bool} {φ : Fn} {ta : TA} {ma : M (List RV)} (ha : SA K mg E ta ma) : SE K mg E (tCallS (spF K mg md.length φ) (fun σ cls d H => E cls d σ H) ta) (dCall md φ ma) := by
  intro pv F H σ e as held Q c w
  refine ha pv F H σ e as held _ c (WA.bindA (W := WE K mg pv F held σ Q E) (fun z => z) w (fun _ _ z => z) fun rs e1 vs F1 H1 as1 tr1 s1 c1 rr1 w1 => ?_)
  cases q : load md rs e1 with
  | none => simp only [q] at w1; exact w1.elim
  | some p =>
    obtain ⟨ss, e2⟩ := p
    simp only [q] at w1
    obtain ⟨F2, as2, ts, s2, c2, ev, es⟩ := c1.load rr1 q
    have lt : ts.length = md.length := by
      rw [← load_len q, ← rr1.length, ← ev]; exact (List.length_map _).symm
    refine ⟨F2, ts, opts as2 ++ held, ev.symm, lt, c2.s, c2.g.perm (pswap _ _ _), ?_⟩
    rw [es]
    cases q2 : φ ss with
    | st => simp only [q2] at w1; exact w1.elim
    | ok r ss' =>
      simp only [q2] at w1
      intro v F3 H3 t ts' s3 s4 et er' evs ess g
      cases q3 : unload md rs ss' e2 with
      | none => simp only [q3] at w1; exact w1.elim
      | some e3 =>
        simp only [q3] at w1
        have c3 : Cf K mg pv F3 H3 σ e2 as2 (ts' ++ ([t] ++ held)) := ⟨s4, c2.r, g.perm (by
          have h1 : (t :: (ts' ++ (opts as2 ++ held))).Perm (ts' ++ (opts as2 ++ ([t] ++ held))) := by
            refine (List.perm_middle (l₁ := ts') (l₂ := opts as2 ++ held) (a := t)).symm.trans ?_
            exact List.Perm.append_left _ (List.perm_middle (l₁ := opts as2) (l₂ := held) (a := t)).symm
          exact h1.trans (pswap _ _ _))⟩
        obtain ⟨as3, c4⟩ := c3.unload rr1 evs ess q3
        subst et er'
        exact w1 t.val F3 H3 as3 [t] ((s1.trans s2).trans s3) c4 (rr_svR t)
    | ex x ss' =>
      simp only [q2] at w1
      intro cls d F3 H3 ts' s3 s4 rx hn evs ess g
      cases q3 : unload md rs ss' e2 with
      | none => simp only [q3] at w1; exact w1.elim
      | some e3 =>
        simp only [q3] at w1
        have c3 : Cf K mg pv F3 H3 σ e2 as2 (ts' ++ held) := ⟨s4, c2.r, g.perm (pswap _ _ _)⟩
        obtain ⟨as3, c4⟩ := c3.unload rr1 evs ess q3
        exact w1 cls d F3 H3 σ as3 ((s1.trans s2).trans s3) c4 rx fun dd q => none_le (s1.trans s2) (hn dd q)
end
end VF
set_option maxRecDepth 100000
set_option maxHeartbeats 4000000
namespace VF
set_option autoImplicit false
open PySem PySem.Spec PyProof.Rows L2
open AT (cells cellsL er ers)
section
variable {K : PySem.W.Frag} {mg : Str → Option Value} {pv : List (Nat × V)} {F F' H H' : Hp} {σ : L2.St} {e e' : Env} {as as' : List (Option AT)} {held tr ts us : List AT} {E : XS}
def immS : SV → Option D
  | .fz d => (match imm d with
    | some _ => some d
    | none => none)
  | _ => none
def dCallB (n : Nat) (φ : Fn) (a : M (List RV)) : M RV := a.bind fun rs e => match rs.mapM (view e) with
  | some ds => if ds.length = n then (match φ (ds.map .fz) with
    | .ok r _ => (match immS r with
      | some d => .ok (.fz d) e
      | none => .st)
    | .ex x _ => .ex x e
    | .st => .st) else .st
  | none => .st
theorem cell_kind : ∀ (t : AT) (c : Addr × HO), c ∈ cells t → ∀ fs, c.2 ≠ .xd fs := by
  intro t
  refine AT.rec (motive_1 := fun t => ∀ c, c ∈ cells t → ∀ fs, c.2 ≠ HO.xd fs) (motive_2 := fun ts => ∀ c, c ∈ cellsL ts → ∀ fs, c.2 ≠ HO.xd fs) ?_ ?_ ?_ ?_ ?_ ?_ t
  · intro v d c h; exact absurd (show c ∈ ([] : List (Addr × HO)) from h) List.not_mem_nil
  · intro p xs ih c h fs
    rcases List.mem_cons.mp (show c ∈ (p, HO.lst (vals xs)) :: cellsL xs from h) with q | q
    · subst q; exact fun z => by cases z
    · exact ih c q fs
  · intro p C dx cn ns xs ih c h fs
    rcases List.mem_cons.mp (show c ∈ (p, HO.ins C dx (ns.zip (vals xs))) :: cellsL xs from h) with q | q
    · subst q; exact fun z => by cases z
    · exact ih c q fs
  · intro p ks xs ih c h fs
    rcases List.mem_cons.mp (show c ∈ (p, HO.dK (ks.zip (vals xs))) :: cellsL xs from h) with q | q
    · subst q; exact fun z => by cases z
    · exact ih c q fs
  · intro c h; exact absurd (show c ∈ ([] : List (Addr × HO)) from h) List.not_mem_nil
  · intro t ts ih1 ih2 c h fs
    rcases List.mem_append.mp (show c ∈ cells t ++ cellsL ts from h) with q | q
    · exact ih1 c q fs
    · exact ih2 c q fs
theorem Good.same {ts : List AT} (g : Good K mg F H ts) (s : Same H H') : Good K mg F H' ts := ⟨fun c hc => ⟨s _ _ (g.at_ c hc).1, (g.at_ c hc).2⟩, g.ok, g.nd⟩
theorem Cf.same (c : Cf K mg pv F H σ e as held) (s : Same H H') : Cf K mg pv F H' σ e as held := ⟨c.s.trans s, c.r, c.g.same s⟩
theorem se_callB {n : Nat} {φ : Fn} {ta : TA} {ma : M (List RV)} (ha : SA K mg E ta ma) : SE K mg E (tCallS (spF K mg n φ) (fun σ cls d H => E cls d σ H) ta) (dCallB n φ ma) := by
  intro pv F H σ e as held Q c w
  refine ha pv F H σ e as held _ c (WA.bindA (W := WE K mg pv F held σ Q E) (fun z => z) w (fun _ _ z => z) fun rs e1 vs F1 H1 as1 tr1 s1 c1 rr1 w1 => ?_)
  cases q : rs.mapM (view e1) with
  | none => simp only [q] at w1; exact w1.elim
  | some ds =>
    simp only [q] at w1
    have rp := RRs.seen (rs := rs) c1 rr1 (fun t ht => List.mem_append_left _ ht) q
    by_cases hn : ds.length = n
    · rw [if_pos hn] at w1
      have g0 : Good K mg H1 H1 ([] : List AT) := ⟨fun c hc => absurd (show c ∈ ([] : List (Addr × HO)) from hc) List.not_mem_nil, trivial, List.nodup_nil⟩
      have lz : (atoms vs ds).length = n := by
        unfold atoms
        rw [List.length_map, List.length_zip, rp.length, Nat.min_self]; exact hn
      refine ⟨H1, atoms vs ds, [], by rw [vals_atoms rp], lz, Same.refl _, g0.atoms rp, ?_⟩
      rw [ers_atoms rp]
      have c1' := c1.drop
      cases q2 : φ (ds.map .fz) with
      | st => simp only [q2] at w1; exact w1.elim
      | ok r ss' =>
        simp only [q2] at w1
        intro v F3 H3 t ts' s3 s4 et er' _ _ g
        cases q3 : immS r with
        | none => simp only [q3] at w1; exact w1.elim
        | some d =>
          simp only [q3] at w1
          subst et
          have sh : Same H1 H3 := s3.trans s4
          cases r with
          | fz d' =>
            have q3' : (match imm d' with | some _ => some d' | none => none) = some d := q3
            cases q4 : imm d' with
            | none => rw [q4] at q3'; cases q3'
            | some u =>
              rw [q4] at q3'
              have ed : d' = d := Option.some.inj q3'
              subst ed
              cases t with
              | fz v0 d0 =>
                have e0 : d0 = d' := by simpa [er] using er'
                subst e0
                have rv : Rep K mg F3 v0 d0 := g.unfz.2
                have ev : v0 = u := by
                  cases d0 <;> first | (cases q4; exact rv) | cases q4
                subst ev
                exact w1 v0 F1 H3 as1 _ s1 ((c1'.same sh).fz (rep_imm q4)) rfl
              | ol _ _ => simp [er] at er'
              | oo _ _ _ _ _ _ => simp [er] at er'
              | od _ _ _ => simp [er] at er'
          | ol _ => cases q3
          | oo _ _ _ => cases q3
          | od _ _ => cases q3
      | ex x ss' =>
        simp only [q2] at w1
        intro cls d F3 H3 ts' s3 s4 rx hn _ _ g
        have sh : Same H1 H3 := s3.trans s4
        have n0 : ∀ dd, d = some dd → F dd = none := fun dd q => none_le (s1.trans c1.s) (hn dd q)
        exact w1 cls d F1 H3 σ as1 s1 (c1'.same sh) rx n0
    · rw [if_neg hn] at w1; exact w1.elim
def pinIx (i : Nat) : List Bool → List Nat
  | [] => []
  | true :: l => i :: pinIx (i + 1) l
  | false :: l => pinIx (i + 1) l
def okArgs : List Bool → List SV → Bool
  | [], [] => true
  | true :: l, _ :: ss => okArgs l ss
  | false :: l, .fz _ :: ss => okArgs l ss
  | _, _ => false
def outs (i : Nat) : List Bool → List SV → Env → Option (List SV)
  | [], [], _ => some []
  | false :: l, s :: ss, e => (match outs (i + 1) l ss e with
    | some r => some (s :: r)
    | none => none)
  | true :: l, _ :: ss, e => (match e.sl[i]? with
    | some (some s) => (match outs (i + 1) l ss (e.clr i) with
      | some r => some (s :: r)
      | none => none)
    | _ => none)
  | _, _, _ => none
def resOf (f : Fl) (e : Env) : Option (SV × Env) := match f with
  | .nx => some (.fz .non, e)
  | .rt (.fz d) => some (.fz d, e)
  | .rt (.own s) => some (s, e)
  | .rt (.var i) => (match e.sl[i]? with
    | some (some s) => if i ∈ e.pn then some (.fz s.toD, e.setS i (.fz s.toD)) else some (s, e.clr i)
    | _ => none)
  | _ => none
def env0 (md : List Bool) (n : Nat) (ss : List SV) : Env := ⟨ss.map some ++ List.replicate (n - ss.length) none, pinIx 0 md⟩
def mkFn (md : List Bool) (n : Nat) (m : M Fl) : Fn := fun ss => if okArgs md ss = true then (match m (env0 md n ss) with
  | .st => .st
  | .ok f e => (match resOf f e with
    | some (r, e1) => (match outs 0 md ss e1 with
      | some ss' => .ok r ss'
      | none => .st)
    | none => .st)
  | .ex x e => (match outs 0 md ss e with
    | some ss' => .ex x ss'
    | none => .st)) else .st
theorem outs_ok {md : List Bool} : ∀ {i : Nat} {ss ss' : List SV} {vs : List V} {ts0 us : List AT} {e : Env} {as : List (Option AT)}, Cf K mg pv F' H' σ e as us → Oks K mg F' (ts0.filter fun t => match t with | .fz _ _ => true | _ => false) → okArgs md ss = true → vals ts0 = vs → ers ts0 = ss →
    (∀ (j : Nat) (v : V), vs[j]? = some v → md[j]? = some true → σ[i + j]? = some (some v)) → outs i md ss e = some ss' → ∃ ts', Good K mg F' H' (ts' ++ us) ∧ vals ts' = vs ∧ ers ts' = ss' := by
  induction md with
  | nil =>
    intro i ss ss' vs ts0 us e as c hok ho hv he hs q
    cases ss with
    | nil =>
      cases ts0 with
      | nil =>
        have : ss' = [] := by simpa [outs] using q.symm
        subst this
        exact ⟨[], c.g.sub, by rw [← hv], rfl⟩
      | cons _ _ => cases he
    | cons _ _ => cases ho
  | cons b md ih =>
    intro i ss ss' vs ts0 us e as c hok ho hv he hs q
    cases ss with
    | nil => cases b <;> cases ho
    | cons s ss =>
      cases ts0 with
      | nil => cases he
      | cons t ts0 =>
        cases vs with
        | nil => cases hv
        | cons v vs =>
          injection hv with hv1 hv2
          injection he with he1 he2
          have hs' : ∀ (j : Nat) (w : V), vs[j]? = some w → md[j]? = some true → σ[i + 1 + j]? = some (some w) := fun j w h1 h2 => by
            have := hs (j + 1) w (by simpa using h1) (by simpa using h2)
            rw [show i + 1 + j = i + (j + 1) by omega]
            exact this
          cases b with
          | false =>
            cases s with
            | fz d =>
              have q' : (match outs (i + 1) md ss e with | some r => some (SV.fz d :: r) | none => none) = some ss' := q
              cases q1 : outs (i + 1) md ss e with
              | none => rw [q1] at q'; cases q'
              | some r =>
                rw [q1] at q'
                cases q'
                cases t with
                | fz v0 d0 =>
                  have hok' : Ok K mg F' (.fz v0 d0) ∧ Oks K mg F' (ts0.filter fun t => match t with | .fz _ _ => true | _ => false) := by
                    simpa [List.filter_cons, Oks] using hok
                  obtain ⟨ts', g, e1, e2⟩ := ih c hok'.2 (by simpa [okArgs] using ho) hv2 he2 hs' q1
                  refine ⟨.fz v0 d0 :: ts', g.fz hok'.1, ?_, ?_⟩
                  · show v0 :: vals ts' = _
                    rw [e1]
                    rw [show v0 = v from hv1]
                  · show SV.fz d0 :: ers ts' = _
                    rw [e2]
                    rw [show SV.fz d0 = .fz d from he1]
                | ol _ _ => cases he1
                | oo _ _ _ _ _ _ => cases he1
                | od _ _ _ => cases he1
            | ol _ => cases ho
            | oo _ _ _ => cases ho
            | od _ _ => cases ho
          | true =>
            have q' : (match e.sl[i]? with
              | some (some s) => (match outs (i + 1) md ss (e.clr i) with
                | some r => some (s :: r)
                | none => none)
              | _ => none) = some ss' := q
            cases z : e.sl[i]? with
            | none => rw [z] at q'; cases q'
            | some o =>
              cases o with
              | none => rw [z] at q'; cases q'
              | some s' =>
                rw [z] at q'
                simp only at q'
                cases q1 : outs (i + 1) md ss (e.clr i) with
                | none => rw [q1] at q'; cases q'
                | some r =>
                  rw [q1] at q'
                  cases q'
                  obtain ⟨u, hu, eu⟩ := c.r.slotOf z
                  have hv3 := c.r.at_ i u hu
                  have hv4 := hs 0 v rfl rfl
                  rw [Nat.add_zero, hv3] at hv4
                  have euv : u.val = v := by simpa using hv4
                  have hok' : Oks K mg F' (ts0.filter fun t => match t with | .fz _ _ => true | _ => false) := by
                    cases t with
                    | fz v0 d0 => exact (by simpa [List.filter_cons, Oks] using hok : Ok K mg F' (.fz v0 d0) ∧ _).2
                    | ol _ _ => simpa [List.filter_cons] using hok
                    | oo _ _ _ _ _ _ => simpa [List.filter_cons] using hok
                    | od _ _ _ => simpa [List.filter_cons] using hok
                  obtain ⟨ts', g, e1, e2⟩ := ih (c.clr hu) hok' (by simpa [okArgs] using ho) hv2 he2 hs' q1
                  refine ⟨u :: ts', g.perm ?_, ?_, ?_⟩
                  · exact List.perm_middle (l₁ := ts') (l₂ := us) (a := u)
                  · show u.val :: vals ts' = _
                    rw [e1, euv]
                  · show er u :: ers ts' = _
                    rw [e2, eu]
end
end VF
set_option maxRecDepth 100000
set_option maxHeartbeats 4000000
namespace VF
set_option autoImplicit false
open PySem PySem.Spec PyProof.Rows L2
open AT (cells cellsL er ers)
section
variable {K : PySem.W.Frag} {mg : Str → Option Value} {pv : List (Nat × V)} {F F' H H' : Hp} {σ : L2.St} {e e' : Env} {as as' : List (Option AT)} {held tr ts us : List AT} {E : XS}
def pins (i : Nat) : List Bool → List V → List (Nat × V)
  | true :: l, v :: vs => (i, v) :: pins (i + 1) l vs
  | false :: l, _ :: vs => pins (i + 1) l vs
  | _, _ => []
theorem pins_at : ∀ {md : List Bool} {vs : List V} {i j : Nat} {v : V}, md[j]? = some true → vs[j]? = some v → (i + j, v) ∈ pins i md vs
  | true :: _, v :: _, i, 0, _, _, h => by cases h; exact List.mem_cons_self
  | false :: _, _ :: _, _, 0, _, h, _ => by cases h
  | true :: md, v :: vs, i, j + 1, _, h, h' => by
    have := pins_at (md := md) (vs := vs) (i := i + 1) (j := j) (by simpa using h) (by simpa using h')
    rw [show i + (j + 1) = i + 1 + j by omega]
    exact List.mem_cons_of_mem _ this
  | false :: md, v :: vs, i, j + 1, _, h, h' => by
    have := pins_at (md := md) (vs := vs) (i := i + 1) (j := j) (by simpa using h) (by simpa using h')
    rw [show i + (j + 1) = i + 1 + j by omega]
    exact this
  | [], _, _, _, _, h, _ => by cases h
  | _ :: _, [], _, _, _, _, h => by cases h
theorem pins_mem : ∀ {md : List Bool} {vs : List V} {i : Nat} {p : Nat × V}, p ∈ pins i md vs → ∃ j, p.1 = i + j ∧ vs[j]? = some p.2 ∧ p.1 ∈ pinIx i md
  | true :: md, v :: vs, i, p, h => by
    rcases List.mem_cons.mp (show p ∈ (i, v) :: pins (i + 1) md vs from h) with q | q
    · subst q; exact ⟨0, rfl, rfl, List.mem_cons_self⟩
    · obtain ⟨j, h1, h2, h3⟩ := pins_mem q
      exact ⟨j + 1, by omega, by simpa using h2, List.mem_cons_of_mem _ h3⟩
  | false :: md, v :: vs, i, p, h => by
    obtain ⟨j, h1, h2, h3⟩ := pins_mem (show p ∈ pins (i + 1) md vs from h)
    exact ⟨j + 1, by omega, by simpa using h2, h3⟩
  | [], _, _, _, h => absurd (show _ ∈ ([] : List (Nat × V)) from h) List.not_mem_nil
  | true :: _, [], _, _, h => absurd (show _ ∈ ([] : List (Nat × V)) from h) List.not_mem_nil
  | false :: _, [], _, _, h => absurd (show _ ∈ ([] : List (Nat × V)) from h) List.not_mem_nil
theorem opts_start (ts : List AT) (k : Nat) : opts (ts.map some ++ List.replicate k none) = ts := by
  unfold opts
  rw [List.filterMap_append]
  have h1 : ∀ l : List AT, (l.map some).filterMap id = l := fun l => by
    induction l with
    | nil => rfl
    | cons a l ih => rw [List.map_cons, List.filterMap_cons]; simp [ih]
  have h2 : (List.replicate k (none : Option AT)).filterMap id = [] := by
    induction k with
    | zero => rfl
    | succ k ih => rw [List.replicate_succ, List.filterMap_cons]; simpa using ih
  rw [h1, h2, List.append_nil]
theorem start_ok {md : List Bool} {N : List Str} (s : Same F H) (g : Good K mg F H (ts ++ held)) :
    Cf K mg (pins 0 md (vals ts)) F H (L2.start N (vals ts)) (env0 md N.length (ers ts)) (ts.map some ++ List.replicate (N.length - ts.length) none) held := by
  have lv : (vals ts).length = ts.length := List.length_map _
  refine ⟨s, ⟨?_, ?_, fun j u hj => ?_, fun p hp => ?_⟩, by rw [opts_start]; exact g⟩
  · show (ers ts).map some ++ List.replicate (N.length - (ers ts).length) none = _
    rw [List.map_append, List.map_replicate, ers_length, ers_eq, List.map_map, List.map_map]
    rfl
  · unfold L2.start
    rw [List.length_append, List.length_append, List.length_map, List.length_map, List.length_replicate, List.length_replicate, lv]
  · have hlt : j < ts.length := by
      by_cases q : j < ts.length
      · exact q
      · rw [List.getElem?_append_right (by simpa using q), List.getElem?_replicate] at hj
        split at hj <;> cases hj
    rw [List.getElem?_append_left (by simpa using hlt), List.getElem?_map] at hj
    unfold L2.start
    rw [List.getElem?_append_left (by rw [List.length_map, lv]; exact hlt), List.getElem?_map]
    unfold vals
    rw [List.getElem?_map]
    cases z : ts[j]? with
    | none => rw [z] at hj; cases hj
    | some t => rw [z] at hj; cases hj; rfl
  · obtain ⟨j, h1, h2, h3⟩ := pins_mem hp
    refine ⟨h3, ?_⟩
    rw [Nat.zero_add] at h1
    rw [h1]
    have hlt : j < (vals ts).length := (List.getElem?_eq_some_iff.mp h2).1
    unfold L2.start
    rw [List.getElem?_append_left (by rw [List.length_map]; exact hlt), List.getElem?_map, h2]
    rfl
theorem body_ok {Ef : XK} {md : List Bool} {N : List Str} {m : M Fl} {t : TS} {vs : List V} {Q : VK} (ht : SS K mg (fun cls d _ H => Ef cls d H) t m) (w : spF K mg md.length (mkFn md N.length m) vs H Q Ef) :
    t { nx := fun _ H' => Q .non H', rt := Q } (L2.start N vs) H := by
  obtain ⟨F, ts, held, rfl, lt, s, g, w⟩ := w
  have okf : ∀ {F'}, Same F F' → Oks K mg F' (ts.filter fun t => match t with | .fz _ _ => true | _ => false) := fun s' => by
    refine Oks.mem.mpr fun t ht => ?_
    exact Ok.same s' (Oks.mem.mp g.ok t (List.mem_append_left _ (List.mem_filter.mp ht).1))
  unfold mkFn at w
  by_cases ha : okArgs md (ers ts) = true
  · rw [if_pos ha] at w
    have fin : ∀ {F' H' σ' e2 as2 us ss'}, Same F F' → Cf K mg (pins 0 md (vals ts)) F' H' σ' e2 as2 us → outs 0 md (ers ts) e2 = some ss' → ∃ ts', Good K mg F' H' (ts' ++ us) ∧ vals ts' = vals ts ∧ ers ts' = ss' := fun s' c' q =>
      outs_ok c' (okf s') ha rfl rfl (fun j v h1 h2 => (c'.r.pin (0 + j, v) (pins_at h2 h1)).2) q
    refine ht _ F H _ _ _ held _ (start_ok (md := md) (N := N) s g) ?_
    cases q : m (env0 md N.length (ers ts)) with
    | st => simp only [q] at w
    | ex x e1 =>
      simp only [q] at w
      intro cls d F' H' σ' as' s' c' rx hn
      cases q2 : outs 0 md (ers ts) e1 with
      | none => simp only [q2] at w
      | some ss' =>
        simp only [q2] at w
        obtain ⟨ts', g', h1, h2⟩ := fin s' c' q2
        exact w cls d F' H' ts' s' c'.s rx hn h1 h2 g'
    | ok f e1 =>
      simp only [q] at w
      cases f with
      | bk => simp only [resOf] at w
      | ct => simp only [resOf] at w
      | nx =>
        simp only [resOf] at w
        intro σ' F' H' as' s' c'
        cases q2 : outs 0 md (ers ts) e1 with
        | none => simp only [q2] at w
        | some ss' =>
          simp only [q2] at w
          obtain ⟨ts', g', h1, h2⟩ := fin s' (c'.fz (show Rep K mg F' .non .non from rfl)) q2
          exact w .non F' H' (.fz .non .non) ts' s' c'.s rfl rfl h1 h2 (g'.perm (pswap ts' [.fz .non .non] held))
      | rt r =>
        intro v σ' F' H' as' tr s' c' rr
        cases r with
        | fz d =>
          simp only [resOf] at w
          have e1 : tr = [.fz v d] := rr
          subst e1
          cases q2 : outs 0 md (ers ts) e1 with
          | none => simp only [q2] at w
          | some ss' =>
            simp only [q2] at w
            obtain ⟨ts', g', h1, h2⟩ := fin s' c' q2
            exact w v F' H' (.fz v d) ts' s' c'.s rfl rfl h1 h2 (g'.perm (pswap ts' [.fz v d] held))
        | own s =>
          simp only [resOf] at w
          obtain ⟨t0, e1, e2, e3⟩ := rr
          subst e1
          cases q2 : outs 0 md (ers ts) e1 with
          | none => simp only [q2] at w
          | some ss' =>
            simp only [q2] at w
            obtain ⟨ts', g', h1, h2⟩ := fin s' c' q2
            exact w v F' H' t0 ts' s' c'.s e2 e3 h1 h2 (g'.perm (pswap ts' [t0] held))
        | var i =>
          obtain ⟨e2, hv⟩ := rr
          subst e2
          simp only [resOf] at w
          cases z : e1.sl[i]? with
          | none => simp only [z] at w
          | some o =>
            cases o with
            | none => simp only [z] at w
            | some s0 =>
              simp only [z] at w
              obtain ⟨t0, h0, e0⟩ := c'.r.slotOf z
              have hv2 := c'.r.at_ i t0 h0
              rw [hv] at hv2
              have ev : v = t0.val := by simpa using hv2
              subst e0
              by_cases hp : i ∈ e1.pn
              · simp only [if_pos hp] at w
                obtain ⟨F2, s2, c2, rp⟩ := Cf.frzS (held := held) c' h0
                cases q2 : outs 0 md (ers ts) (e1.setS i (.fz (er t0).toD)) with
                | none => simp only [q2] at w
                | some ss' =>
                  simp only [q2] at w
                  obtain ⟨ts', g', h1, h2⟩ := fin (s'.trans s2) (c2.fz rp) q2
                  exact w v F2 H' (.fz t0.val (er t0).toD) ts' (s'.trans s2) c2.s ev.symm rfl h1 h2 (g'.perm (pswap ts' [.fz t0.val (er t0).toD] held))
              · simp only [if_neg hp] at w
                cases q2 : outs 0 md (ers ts) (e1.clr i) with
                | none => simp only [q2] at w
                | some ss' =>
                  simp only [q2] at w
                  obtain ⟨ts', g', h1, h2⟩ := fin s' (Cf.clr (held := held) c' h0) q2
                  exact w v F' H' t0 ts' s' c'.s ev.symm rfl h1 h2 (g'.perm (pswap ts' [t0] held))
  · rw [if_neg ha] at w; exact w.elim
end
def wE (K : PySem.W.Frag) (mg : Str → Option Value) (E : XS) (m : M RV) : TE := fun σ H Q => ∃ pv F e as held, Cf K mg pv F H σ e as held ∧ WE K mg pv F held σ Q E (m e)
def wT (K : PySem.W.Frag) (mg : Str → Option Value) (E : XS) (m : M Bool) : TT := fun σ H Q => ∃ pv F e as held, Cf K mg pv F H σ e as held ∧ WT K mg pv F held σ Q E (m e)
def wA (K : PySem.W.Frag) (mg : Str → Option Value) (E : XS) (m : M (List RV)) : TA := fun σ H Q => ∃ pv F e as held, Cf K mg pv F H σ e as held ∧ WA K mg pv F held σ Q E (m e)
def wS (K : PySem.W.Frag) (mg : Str → Option Value) (E : XS) (m : M Fl) : TS := fun D σ H => ∃ pv F e as held, Cf K mg pv F H σ e as held ∧ WS K mg pv F held E D (m e)
section
variable {K : PySem.W.Frag} {mg : Str → Option Value} {E : XS}
theorem se_w {m : M RV} : SE K mg E (wE K mg E m) m := fun pv F H σ e as held Q c w => ⟨pv, F, e, as, held, c, w⟩
theorem st_w {m : M Bool} : ST K mg E (wT K mg E m) m := fun pv F H σ e as held Q c w => ⟨pv, F, e, as, held, c, w⟩
theorem sa_w {m : M (List RV)} : SA K mg E (wA K mg E m) m := fun pv F H σ e as held Q c w => ⟨pv, F, e, as, held, c, w⟩
theorem ss_w {m : M Fl} : SS K mg E (wS K mg E m) m := fun pv F H σ e as held D c w => ⟨pv, F, e, as, held, c, w⟩
end
def VE (X : Cx) (E : XS) (e : Expr) (m : M RV) : Prop := PE X e (wE X.K X.mg E m)
def VT (X : Cx) (E : XS) (e : Expr) (m : M Bool) : Prop := PT X e (wT X.K X.mg E m)
def VA (X : Cx) (E : XS) (es : List Expr) (m : M (List RV)) : Prop := PA X es (wA X.K X.mg E m)
def VS (X : Cx) (E : XS) (s : Stmt) (m : M Fl) : Prop := PS X s (wS X.K X.mg E m)
def VB (X : Cx) (E : XS) (ss : List Stmt) (m : M Fl) : Prop := PSs X ss (wS X.K X.mg E m)
section
variable {X : Cx} {E : XS}
theorem VE.mk {e : Expr} {t : TE} {m : M RV} (h : PE X e t) (s : SE X.K X.mg E t m) : VE X E e m := ⟨fun pins s0 σ H Q I ⟨pv, F, e0, as, held, c, w⟩ => h.run pins s0 σ H Q I (s pv F H σ e0 as held Q c w)⟩
theorem VT.mk {e : Expr} {t : TT} {m : M Bool} (h : PT X e t) (s : ST X.K X.mg E t m) : VT X E e m := ⟨fun pins s0 σ H Q I ⟨pv, F, e0, as, held, c, w⟩ => h.run pins s0 σ H Q I (s pv F H σ e0 as held Q c w)⟩
theorem VA.mk {e : List Expr} {t : TA} {m : M (List RV)} (h : PA X e t) (s : SA X.K X.mg E t m) : VA X E e m := ⟨fun pos pins s0 σ H Q I ⟨pv, F, e0, as, held, c, w⟩ => h.run pos pins s0 σ H Q I (s pv F H σ e0 as held Q c w)⟩
theorem VS.mk {e : Stmt} {t : TS} {m : M Fl} (h : PS X e t) (s : SS X.K X.mg E t m) : VS X E e m := ⟨fun pins s0 σ H D I ⟨pv, F, e0, as, held, c, w⟩ => h.run pins s0 σ H D I (s pv F H σ e0 as held D c w)⟩
theorem VB.mk {e : List Stmt} {t : TS} {m : M Fl} (h : PSs X e t) (s : SS X.K X.mg E t m) : VB X E e m := ⟨fun pins s0 σ H D I ⟨pv, F, e0, as, held, c, w⟩ => h.run pins s0 σ H D I (s pv F H σ e0 as held D c w)⟩
end
def mkFn0 (md : List Bool) (n : Nat) (m : M Fl) : Fn := fun ss => match mkFn md n m ss with
  | .ok r as => .ok r as
  | _ => .st
theorem fn_ok {P : Program} {w : World} {K : PySem.W.Frag} {mg : Str → Option Value} {base : Heap} {x qual : Str} {params : Arguments} {body : List Stmt} {scope : Scope} {dvs : List V} {kws : List (Str × V)} {f : Addr} {fd : FuncData} {N ps : List Str} {k : Nat}
    (F : FunD K x qual params body scope dvs kws f fd) (S : FnScope N ps scope) (md : List Bool) (hl : md.length = ps.length) {m : M Fl} {n : Nat} (hN : N.length = n)
    (hb : ∀ (cdv : Value) (A : Around) (outer : List PySem.Env) (s : Shared) (H : Hp) (E : XK), Room k (A.deeper (envOfC qual scope s.heap.objs.size f cdv)) → VB (cxOf CX0 P w K mg base N qual scope f cdv A outer s H E).nox E0 body m) :
    FnOk P w K mg base CX0 (k + 1) f fd ps (spF K mg md.length (mkFn0 md n m)) := by
  subst hN
  refine F.ok S (fun vs H Q E h => ?_) (fun cdv A outer s H vs Q E hr h => ⟨_, (hb cdv A outer s H E hr).nox, ?_⟩)
  · obtain ⟨F, ts, held, rfl, lt, _⟩ := h
    rw [← hl, ← lt]; exact List.length_map _
  · have h' : spF K mg md.length (mkFn md N.length m) vs H Q L2.E0 := by
      obtain ⟨F, ts, held, e1, lt, s, g, w⟩ := h
      refine ⟨F, ts, held, e1, lt, s, g, ?_⟩
      unfold mkFn0 at w
      cases q : mkFn md N.length m (ers ts) with
      | st => rw [q] at w; exact w
      | ok r as => rw [q] at w; exact w
      | ex x as => rw [q] at w; exact w.elim
    exact body_ok (Ef := L2.E0) ss_w h'
theorem fn_okX {P : Program} {w : World} {K : PySem.W.Frag} {mg : Str → Option Value} {base : Heap} {CX : CXT} {x qual : Str} {params : Arguments} {body : List Stmt} {scope : Scope} {dvs : List V} {kws : List (Str × V)} {f : Addr} {fd : FuncData} {N ps : List Str} {k : Nat}
    (F : FunD K x qual params body scope dvs kws f fd) (S : FnScope N ps scope) (md : List Bool) (hl : md.length = ps.length) {m : M Fl} {n : Nat} (hN : N.length = n)
    (hb : ∀ (cdv : Value) (A : Around) (outer : List PySem.Env) (s : Shared) (H : Hp) (E : XK), Room k (A.deeper (envOfC qual scope s.heap.objs.size f cdv)) → VB (cxOf CX P w K mg base N qual scope f cdv A outer s H E) (fun cls d _ H => E cls d H) body m) :
    FnOk P w K mg base CX (k + 1) f fd ps (spF K mg md.length (mkFn md n m)) := by
  subst hN
  refine F.ok S (fun vs H Q E h => ?_) (fun cdv A outer s H vs Q E hr h => ⟨_, hb cdv A outer s H E hr, body_ok ss_w h⟩)
  obtain ⟨F, ts, held, rfl, lt, _⟩ := h
  rw [← hl, ← lt]; exact List.length_map _
end VF
set_option maxRecDepth 100000
set_option maxHeartbeats 4000000
namespace VF
set_option autoImplicit false
open PySem PySem.Spec PyProof.Rows L2
open AT (cells cellsL er ers)
structure ItOk (K : PySem.W.Frag) (mg : Str → Option Value) (F0 : Hp) (J : It) (ds : List D) : Prop where
  go : ∀ (i : Nat) F H, Same F0 F → Same F H → i < ds.length → J.go i H
  yld : ∀ (i : Nat) F H x H', Same F0 F → Same F H → i < ds.length → J.yld i H x H' → ∃ F' d, Same F F' ∧ Same F' H' ∧ (∀ us, Good K mg F H us → Good K mg F' H' us) ∧ ds[i]? = some d ∧ Rep K mg F' x d
  stop : ∀ (i : Nat) F H, Same F0 F → Same F H → ds.length ≤ i → J.stop i H
section
variable {K : PySem.W.Frag} {mg : Str → Option Value} {pv : List (Nat × V)} {F F' H H' : Hp} {σ : L2.St} {e e' : Env} {as as' : List (Option AT)} {held tr ts us : List AT} {E : XS}
def WI (K : PySem.W.Frag) (mg : Str → Option Value) (pv : List (Nat × V)) (F : Hp) (held : List AT) (σ : L2.St) (Q : It → Hp → Prop) (E : XS) : R (List D) → Prop
  | .st => False
  | .ok ds e' => ∀ J F' H' as', Same F F' → Cf K mg pv F' H' σ e' as' held → ItOk K mg F' J ds → Q J H'
  | .ex x e' => WX K mg pv F held E x e'
def SI (K : PySem.W.Frag) (mg : Str → Option Value) (E : XS) (t : TI) (m : M (List D)) : Prop := ∀ pv F H σ e as held Q, Cf K mg pv F H σ e as held → WI K mg pv F held σ Q E (m e) → t σ H Q
theorem it_list {a : Addr} {vs : List V} {ds : List D} (h : F a = some (.lst vs)) (r : Reps K mg F vs ds) : ItOk K mg F (Itl K a) ds where
  go := fun i F1 H1 s s' hi => by
    have hv : i < vs.length := by rw [r.length]; exact hi
    exact ⟨vs, vs[i], SqL.of (s' _ _ (s _ _ h)), List.getElem?_eq_getElem hv⟩
  yld := fun i F1 H1 x H' s s' hi y => by
    obtain ⟨e1, y⟩ := y
    subst e1
    obtain ⟨d, hd, rd⟩ := r.getV (y vs (SqL.of (s' _ _ (s _ _ h))))
    exact ⟨F1, d, Same.refl _, s', fun us g => g, hd, Rep.same s rd⟩
  stop := fun i F1 H1 s s' hi => ⟨vs, SqL.of (s' _ _ (s _ _ h)), by rw [r.length]; exact hi⟩
theorem it_tup {a : Addr} {vs : List V} {ds : List D} (h : SqT K F a vs) (r : Reps K mg F vs ds) : ItOk K mg F (Itt K a) ds where
  go := fun i F1 H1 s s' hi => by
    have hv : i < vs.length := by rw [r.length]; exact hi
    exact ⟨vs, vs[i], SqT_same s' (SqT_same s h), List.getElem?_eq_getElem hv⟩
  yld := fun i F1 H1 x H' s s' hi y => by
    obtain ⟨e1, y⟩ := y
    subst e1
    obtain ⟨d, hd, rd⟩ := r.getV (y vs (SqT_same s' (SqT_same s h)))
    exact ⟨F1, d, Same.refl _, s', fun us g => g, hd, Rep.same s rd⟩
  stop := fun i F1 H1 s s' hi => ⟨vs, SqT_same s' (SqT_same s h), by rw [r.length]; exact hi⟩
def signs (z : Str) : List D := z.cps.toList.map fun c => .str ⟨#[c]⟩
theorem it_str {z : Str} : ItOk K mg F (Its z) (signs z) where
  go := fun i F1 H1 s s' hi => by
    have : i < z.cps.size := by simpa [signs] using hi
    exact this
  yld := fun i F1 H1 x H' s s' hi y => by
    obtain ⟨e1, c, hc, ex⟩ := y
    subst e1 ex
    refine ⟨F1, .str ⟨#[c]⟩, Same.refl _, s', fun us g => g, ?_, rfl⟩
    unfold signs
    rw [List.getElem?_map, Array.getElem?_toList, hc]
    rfl
  stop := fun i F1 H1 s s' hi => by
    have : z.cps.size ≤ i := by simpa [signs] using hi
    exact this
def rngD (lo : Int) (n : Nat) : List D := (List.range n).map fun i => .int (lo + (i : Nat))
theorem it_rng {lo : Int} {n : Nat} : ItOk K mg F (Itr lo n) (rngD lo n) where
  go := fun i F1 H1 s s' hi => by
    have : i < n := by simpa [rngD] using hi
    exact this
  yld := fun i F1 H1 x H' s s' hi y => by
    obtain ⟨e1, ex⟩ := y
    subst e1 ex
    have hi' : i < n := by simpa [rngD] using hi
    refine ⟨F1, .int (lo + (i : Nat)), Same.refl _, s', fun us g => g, ?_, rfl⟩
    unfold rngD
    rw [List.getElem?_map, List.getElem?_range hi']
    rfl
  stop := fun i F1 H1 s s' hi => by
    have : n ≤ i := by simpa [rngD] using hi
    exact this
def enumD (ds : List D) : List D := ds.mapIdx fun i d => .tup [.int (i : Nat), d]
theorem it_enum {a : Addr} {vs : List V} {ds : List D} (h : F a = some (.lst vs)) (r : Reps K mg F vs ds) : ItOk K mg F (Ite K a) (enumD ds) where
  go := fun i F1 H1 s s' hi => by
    have hi' : i < ds.length := by simpa [enumD] using hi
    have hv : i < vs.length := by rw [r.length]; exact hi'
    exact ⟨vs, vs[i], SqL.of (s' _ _ (s _ _ h)), List.getElem?_eq_getElem hv⟩
  yld := fun i F1 H1 x H' s s' hi y => by
    obtain ⟨T, u, e1, hT, e2, y⟩ := y
    subst e1 e2
    obtain ⟨d, hd, rd⟩ := r.getV (y vs (SqL.of (s' _ _ (s _ _ h))))
    have sb := same_both (o := .tup [.int (i : Nat), u]) s' hT
    refine ⟨upd F1 T (.tup [.int (i : Nat), u]), .tup [.int (i : Nat), d], sb.1, sb.2, fun us g => g.newF s' hT, ?_, ⟨T, _, rfl, SqT.of upd_same, rfl, Rep.same (s.trans sb.1) rd, trivial⟩⟩
    unfold enumD
    rw [List.getElem?_mapIdx, hd]
    rfl
  stop := fun i F1 H1 s s' hi => ⟨vs, SqL.of (s' _ _ (s _ _ h)), by rw [r.length]; simpa [enumD] using hi⟩
theorem WE.bindI {f : RV → M (List D)} {m : M RV} {R0 : It → Hp → Prop} (h : WI K mg pv F held σ R0 E ((m e).bind f)) {P : V → Hp → Prop}
    (k : ∀ r e' v F' H' as' tr, Same F F' → Cf K mg pv F' H' σ e' as' (tr ++ held) → RR σ v r tr → WI K mg pv F held σ R0 E (f r e') → P v H') : WE K mg pv F held σ P E (m e) :=
  WE.bindE (W := WI K mg pv F held σ R0 E) (fun z => z) h (fun _ _ z => z) k
def walk (d : D) : Option (List D) := match d with
  | .lst ds => some ds
  | .tup ds => some ds
  | .str z => some (signs z)
  | _ => none
def dIt (a : M RV) : M (List D) := a.bind fun r e => match frzR r e with
  | some (d, e1) => (match walk d with
    | some ds => .ok ds e1
    | none => .st)
  | none => .st
def iAny (K : PySem.W.Frag) (tl : TE) : TI := fun σ H R => iList K tl σ H R ∨ iTup K tl σ H R ∨ iStr tl σ H R
theorem pi_any {X : Cx} {tg l : Expr} {tl : TE} (hl : PE X l tl) : PI X tg l (iAny X.K tl) := ⟨fun pins s σ H R I h => by
  rcases h with h | h | h
  · exact (pi_list hl).run pins s σ H R I h
  · exact (pi_tup hl).run pins s σ H R I h
  · exact (pi_str hl).run pins s σ H R I h⟩
theorem si_any {ta : TE} {ma : M RV} (ha : SE K mg E ta ma) : SI K mg E (iAny K ta) (dIt ma) := by
  intro pv F H σ e as held R0 c w
  have key : ∀ (P : V → Hp → Prop), (∀ r e' v F' H' as' tr, ma e = .ok r e' → Same F F' → Cf K mg pv F' H' σ e' as' (tr ++ held) → RR σ v r tr → P v H') → ta σ H P := fun P k => by
    refine ha pv F H σ e as held P c ?_
    have w' : WI K mg pv F held σ R0 E ((ma e).bind fun r e => match frzR r e with
      | some (d, e1) => (match walk d with
        | some ds => .ok ds e1
        | none => .st)
      | none => .st) := w
    cases q : ma e with
    | st => rw [q] at w'; exact w'.elim
    | ok r e' => exact fun v F' H' as' tr s c' rr => k r e' v F' H' as' tr q s c' rr
    | ex x e' => rw [q] at w'; exact w'
  have w' : WI K mg pv F held σ R0 E ((ma e).bind fun r e => match frzR r e with
    | some (d, e1) => (match walk d with
      | some ds => .ok ds e1
      | none => .st)
    | none => .st) := w
  cases q : ma e with
  | st => rw [q] at w'; exact w'.elim
  | ex x e1 =>
    refine .inl (ha pv F H σ e as held _ c ?_)
    rw [q] at w' ⊢
    exact w'
  | ok r e1 =>
    rw [q] at w'
    have w2 : WI K mg pv F held σ R0 E (match frzR r e1 with
      | some (d, e1) => (match walk d with
        | some ds => .ok ds e1
        | none => .st)
      | none => .st) := w'
    cases q1 : frzR r e1 with
    | none => rw [q1] at w2; exact w2.elim
    | some p =>
      obtain ⟨d, e2⟩ := p
      rw [q1] at w2
      cases d with
      | lst ds =>
        refine .inl (key _ fun r' e' v F' H' as' tr q' s c' rr => ?_)
        rw [q] at q'
        cases q'
        obtain ⟨F2, as2, s2, c2, rp⟩ := c'.frzR rr q1
        obtain ⟨p, vs, ev, h1, h2⟩ := rp
        exact ⟨p, ev, ⟨vs, SqL.of (c2.s _ _ h1)⟩, w2 _ F2 H' as2 (s.trans s2) c2 (it_list h1 h2)⟩
      | tup ds =>
        refine .inr (.inl (key _ fun r' e' v F' H' as' tr q' s c' rr => ?_))
        rw [q] at q'
        cases q'
        obtain ⟨F2, as2, s2, c2, rp⟩ := c'.frzR rr q1
        obtain ⟨p, vs, ev, h1, h2⟩ := rp
        exact ⟨p, ev, ⟨vs, SqT_same c2.s h1⟩, w2 _ F2 H' as2 (s.trans s2) c2 (it_tup h1 h2)⟩
      | str z =>
        refine .inr (.inr (key _ fun r' e' v F' H' as' tr q' s c' rr => ?_))
        rw [q] at q'
        cases q'
        obtain ⟨F2, as2, s2, c2, rp⟩ := c'.frzR rr q1
        have ev : v = .str z := rp
        exact ⟨z, ev, w2 _ F2 H' as2 (s.trans s2) c2 it_str⟩
      | _ => exact w2.elim
theorem WA.bindI {f : List RV → M (List D)} {m : M (List RV)} {R0 : It → Hp → Prop} (h : WI K mg pv F held σ R0 E ((m e).bind f)) {P : List V → Hp → Prop}
    (k : ∀ r e' v F' H' as' tr, Same F F' → Cf K mg pv F' H' σ e' as' (tr ++ held) → RRs σ v r tr → WI K mg pv F held σ R0 E (f r e') → P v H') : WA K mg pv F held σ P E (m e) :=
  WA.bindA (W := WI K mg pv F held σ R0 E) (fun z => z) h (fun _ _ z => z) k
def small62 (i : Int) : Bool := decide (-(2 ^ 62) ≤ i ∧ i < 2 ^ 62)
def oneI : List D → Option Int
  | [.int i] => some i
  | _ => none
def twoI : List D → Option (Int × Int)
  | [.int i, .int j] => some (i, j)
  | _ => none
theorem oneI_some {ds : List D} {p : Int} (h : oneI ds = some p) : ds = [.int p] := by
  unfold oneI at h
  split at h
  · cases h; rfl
  · cases h
theorem twoI_some {ds : List D} {p : Int × Int} (h : twoI ds = some p) : ds = [.int p.1, .int p.2] := by
  unfold twoI at h
  split at h
  · cases h; rfl
  · cases h
def dRng1 (a : M (List RV)) : M (List D) := a.bind fun rs e => match rs.mapM (view e) with
  | some ds => (match oneI ds with
    | some j => if small62 j = true then .ok (rngD 0 j.toNat) e else .st
    | none => .st)
  | none => .st
def dRng2 (a : M (List RV)) : M (List D) := a.bind fun rs e => match rs.mapM (view e) with
  | some ds => (match twoI ds with
    | some (i, j) => if (small62 i && small62 j) = true then .ok (rngD i (j - i).toNat) e else .st
    | none => .st)
  | none => .st
theorem reps1 {vs : List V} {d : D} (h : Reps K mg F vs [d]) : ∃ v, vs = [v] ∧ Rep K mg F v d := by
  match vs, h with
  | [v], ⟨h1, _⟩ => exact ⟨v, rfl, h1⟩
theorem reps2 {vs : List V} {d d' : D} (h : Reps K mg F vs [d, d']) : ∃ v v', vs = [v, v'] ∧ Rep K mg F v d ∧ Rep K mg F v' d' := by
  match vs, h with
  | [v, v'], ⟨h1, h2, _⟩ => exact ⟨v, v', rfl, h1, h2⟩
theorem si_rng1 {ta : TA} {ma : M (List RV)} (ha : SA K mg E ta ma) : SI K mg E (iRng1 ta) (dRng1 ma) := by
  intro pv F H σ e as held R0 c w
  refine ha pv F H σ e as held _ c (WA.bindI w fun r1 e1 v1 F1 H1 as1 tr1 s1 c1 rr1 w1 => ?_)
  cases q : r1.mapM (view e1) with
  | none => simp only [q] at w1; exact w1.elim
  | some ds =>
    have rp := RRs.seen (rs := r1) c1 rr1 (fun t ht => List.mem_append_left _ ht) q
    simp only [q] at w1
    cases q2 : oneI ds with
    | none => simp only [q2] at w1; exact w1.elim
    | some j =>
      simp only [q2] at w1
      rw [oneI_some q2] at rp
      obtain ⟨v, e2, rv⟩ := reps1 rp
      by_cases hj : small62 j = true
      · rw [if_pos hj] at w1
        have hj2 := of_decide_eq_true hj
        have ev : v = .int j := rv
        subst ev
        exact ⟨j, e2, hj2.1, hj2.2, w1 _ F1 H1 as1 s1 c1.drop it_rng⟩
      · rw [if_neg hj] at w1; exact w1.elim
theorem si_rng2 {ta : TA} {ma : M (List RV)} (ha : SA K mg E ta ma) : SI K mg E (iRng2 ta) (dRng2 ma) := by
  intro pv F H σ e as held R0 c w
  refine ha pv F H σ e as held _ c (WA.bindI w fun r1 e1 v1 F1 H1 as1 tr1 s1 c1 rr1 w1 => ?_)
  cases q : r1.mapM (view e1) with
  | none => simp only [q] at w1; exact w1.elim
  | some ds =>
    have rp := RRs.seen (rs := r1) c1 rr1 (fun t ht => List.mem_append_left _ ht) q
    simp only [q] at w1
    cases q2 : twoI ds with
    | none => simp only [q2] at w1; exact w1.elim
    | some p =>
      obtain ⟨i, j⟩ := p
      simp only [q2] at w1
      rw [twoI_some q2] at rp
      obtain ⟨v, v', e2, rv, rv'⟩ := reps2 rp
      by_cases hj : (small62 i && small62 j) = true
      · rw [if_pos hj] at w1
        have hj2 := Bool.and_eq_true_iff.mp hj
        have h1 := of_decide_eq_true hj2.1
        have h2 := of_decide_eq_true hj2.2
        have ev : v = .int i := rv
        have ev' : v' = .int j := rv'
        subst ev ev'
        exact ⟨i, j, e2, ⟨h1.1, h1.2, h2.1, h2.2⟩, w1 _ F1 H1 as1 s1 c1.drop it_rng⟩
      · rw [if_neg hj] at w1; exact w1.elim
def oneL : List D → Option (List D)
  | [.lst ds] => some ds
  | _ => none
theorem oneL_some {ds xs : List D} (h : oneL ds = some xs) : ds = [.lst xs] := by
  unfold oneL at h
  split at h
  · cases h; rfl
  · cases h
def dEnum (a : M (List RV)) : M (List D) := a.bind fun rs e => match frzRs rs e with
  | some (ds, e1) => (match oneL ds with
    | some xs => .ok (enumD xs) e1
    | none => .st)
  | none => .st
theorem si_enum {ta : TA} {ma : M (List RV)} (ha : SA K mg E ta ma) : SI K mg E (iEnum K ta) (dEnum ma) := by
  intro pv F H σ e as held R0 c w
  refine ha pv F H σ e as held _ c (WA.bindI w fun r1 e1 v1 F1 H1 as1 tr1 s1 c1 rr1 w1 => ?_)
  cases q : frzRs r1 e1 with
  | none => simp only [q] at w1; exact w1.elim
  | some p =>
    obtain ⟨ds, e2⟩ := p
    simp only [q] at w1
    obtain ⟨F2, as2, s2, c2, rp⟩ := c1.frzRs rr1 q
    cases q2 : oneL ds with
    | none => simp only [q2] at w1; exact w1.elim
    | some xs =>
      simp only [q2] at w1
      rw [oneL_some q2] at rp
      obtain ⟨v, e3, p, vs, ev, h1, h2⟩ := reps1 rp
      subst ev
      exact ⟨p, vs, e3, SqL.of (c2.s _ _ h1), w1 _ F2 H1 as2 (s1.trans s2) c2 (it_enum h1 h2)⟩
abbrev Tg := D → Env → Option Env
abbrev Tgs := List D → Env → Option Env
def SG (K : PySem.W.Frag) (mg : Str → Option Value) (L : List Nat) (tg : TG) (g : Tg) : Prop := ∀ pv F H σ e as held v d e' Q, Cf K mg pv F H σ e as held → Rep K mg F v d → g d e = some e' → (∀ σ' as', (∀ vs, (∀ i ∈ L, i ∈ vs) → wipe σ' vs = wipe σ vs) → Cf K mg pv F H σ' e' as' held → Q σ' H) → tg v σ H Q
def SGs (K : PySem.W.Frag) (mg : Str → Option Value) (L : List Nat) (tg : TGs) (g : Tgs) : Prop := ∀ pv F H σ e as held v d e' Q, Cf K mg pv F H σ e as held → Reps K mg F v d → g d e = some e' → (∀ σ' as', (∀ vs, (∀ i ∈ L, i ∈ vs) → wipe σ' vs = wipe σ vs) → Cf K mg pv F H σ' e' as' held → Q σ' H) → tg v σ H Q
def gN (i : Nat) : Tg := fun d e => putR i (.fz d) e
theorem wipe_set {σ : L2.St} {i : Nat} {x : Option V} : ∀ {vs : List Nat}, i ∈ vs → wipe (σ.set i x) vs = wipe σ vs
  | v :: vs, h => by
    by_cases hv : i ∈ vs
    · show (wipe (σ.set i x) vs).set v none = (wipe σ vs).set v none
      rw [wipe_set hv]
    · have e : i = v := by
        rcases List.mem_cons.mp h with q | q
        · exact q
        · exact absurd q hv
      subst e
      have key : ∀ (us : List Nat), i ∉ us → wipe (σ.set i x) us = (wipe σ us).set i x := fun us => by
        induction us with
        | nil => intro _; rfl
        | cons u us ih =>
          intro hu
          have h1 : i ≠ u := fun z => hu (by rw [z]; exact List.mem_cons_self)
          show (wipe (σ.set i x) us).set u none = ((wipe σ us).set u none).set i x
          rw [ih fun z => hu (List.mem_cons_of_mem _ z), List.set_comm _ _ h1]
      show (wipe (σ.set i x) vs).set i none = (wipe σ vs).set i none
      rw [key vs hv, List.set_set]
theorem sg_name {i : Nat} : SG K mg [i] (gName i) (gN i) := by
  intro pv F H σ e as held v d e' Q c r q k
  unfold gN VF.putR at q
  by_cases hi : i ∈ e.pn
  · rw [if_pos hi] at q; cases q
  · rw [if_neg hi] at q
    cases q
    exact k _ _ (fun vs h => wipe_set (h i List.mem_cons_self)) ((c.fz r).store (t := .fz v d) hi)
def gNo : Tgs := fun ds e => match ds with
  | [] => some e
  | _ => none
def gCo (g : Tg) (h : Tgs) : Tgs := fun ds e => match ds with
  | d :: r => (match g d e with
    | some e1 => h r e1
    | none => none)
  | [] => none
theorem sgs_nil : SGs K mg [] gNil gNo := by
  intro pv F H σ e as held v d e' Q c r q k
  cases d with
  | nil =>
    cases v with
    | nil => cases q; exact ⟨rfl, k σ as (fun _ _ => rfl) c⟩
    | cons _ _ => exact r.elim
  | cons _ _ => cases q
theorem sgs_cons {L L' : List Nat} {t : TG} {u : TGs} {g : Tg} {h : Tgs} (hg : SG K mg L t g) (hh : SGs K mg L' u h) : SGs K mg (L ++ L') (gCons t u) (gCo g h) := by
  intro pv F H σ e as held v d e' Q c r q k
  cases d with
  | nil => cases q
  | cons d ds =>
    cases v with
    | nil => exact r.elim
    | cons v vs =>
      have q' : (match g d e with | some e1 => h ds e1 | none => none) = some e' := q
      cases q1 : g d e with
      | none => rw [q1] at q'; cases q'
      | some e1 =>
        rw [q1] at q'
        exact ⟨v, vs, rfl, hg pv F H σ e as held v d e1 _ c r.1 q1 fun σ' as' hw c' => hh pv F H σ' e1 as' held vs ds e' Q c' r.2 q' fun σ2 as2 hw2 c2 => k σ2 as2 (fun ws h => (hw2 ws fun i hi => h i (List.mem_append_right _ hi)).trans (hw ws fun i hi => h i (List.mem_append_left _ hi))) c2⟩
def gTp (n : Nat) (h : Tgs) : Tg := fun d e => match d with
  | .tup ds => if ds.length = n then h ds e else none
  | _ => none
theorem sg_tup {L : List Nat} {n : Nat} {u : TGs} {h : Tgs} (hh : SGs K mg L u h) : SG K mg L (gTup K n u) (gTp n h) := by
  intro pv F H σ e as held v d e' Q c r q k
  cases d with
  | tup ds =>
    obtain ⟨p, vs, ev, h1, h2⟩ := r
    have q' : (if ds.length = n then h ds e else none) = some e' := q
    by_cases hn : ds.length = n
    · rw [if_pos hn] at q'
      exact ⟨p, vs, ev, SqT_same c.s h1, by rw [h2.length]; exact hn, hh pv F H σ e as held vs ds e' Q c h2 q' k⟩
    · rw [if_neg hn] at q'; cases q'
  | _ => cases q
def loopF (g : Tg) (body : M Fl) : List D → M Fl
  | [] => fun e => .ok .nx e
  | d :: ds => fun e => match g d e with
    | none => .st
    | some e1 => (match body e1 with
      | .ok .nx e2 => loopF g body ds e2
      | .ok .ct e2 => loopF g body ds e2
      | .ok .bk e2 => .ok .nx e2
      | .ok (.rt r) e2 => .ok (.rt r) e2
      | .ex x e2 => .ex x e2
      | .st => .st)
def dFor (it : M (List D)) (g : Tg) (body : M Fl) : M Fl := it.bind fun ds => loopF g body ds
theorem WI.bindS {f : List D → M Fl} {m : M (List D)} {D' : Ends} (h : WS K mg pv F held E D' ((m e).bind f)) {P : It → Hp → Prop}
    (k : ∀ ds e' J F' H' as', Same F F' → Cf K mg pv F' H' σ e' as' held → ItOk K mg F' J ds → WS K mg pv F held E D' (f ds e') → P J H') : WI K mg pv F held σ P E (m e) := by
  cases q : m e with
  | st => rw [q] at h; exact h.elim
  | ok r e' => rw [q] at h; exact fun J F' H' as' s c it => k r e' J F' H' as' s c it h
  | ex x e' => rw [q] at h; exact h
theorem ss_for {L : List Nat} {wi : TI} {tg : TG} {tb : TS} {mi : M (List D)} {g : Tg} {mb : M Fl} (hi : SI K mg E wi mi) (hg : SG K mg L tg g) (hb : SS K mg E tb mb) : SS K mg E (tFor wi tg tb) (dFor mi g mb) := by
  intro pv F H σ e as held D' c w
  refine hi pv F H σ e as held _ c (WI.bindS w fun ds e1 J F1 H1 as1 s1 c1 it w1 => ?_)
  refine ⟨fun i m σ H => m = ds.length - i ∧ ∃ F e as, Same F1 F ∧ Cf K mg pv F H σ e as held ∧ WS K mg pv F held E D' (loopF g mb (ds.drop i) e), ⟨_, rfl, F1, e1, as1, Same.refl _, c1, WS.mono s1 w1⟩, ?_⟩
  rintro i m σ2 H2 ⟨rfl, F2, e2, as2, s2, c2, w2⟩
  by_cases hlt : i < ds.length
  · refine .inr ⟨it.go i F2 H2 s2 c2.s hlt, fun σ' H' => ∃ F e as, Same F1 F ∧ Cf K mg pv F H' σ' e as held ∧ WS K mg pv F held E D' (loopF g mb (ds.drop (i + 1)) e), fun σ' H' ⟨F3, e3, as3, s3, c3, w3⟩ => ⟨ds.length - (i + 1), by omega, rfl, F3, e3, as3, s3, c3, w3⟩, fun x H' y => ?_⟩
    obtain ⟨F3, d, s3, s3', gg, hd, rd⟩ := it.yld i F2 H2 x H' s2 c2.s hlt y
    have c3 : Cf K mg pv F3 H' σ2 e2 as2 held := ⟨s3', c2.r, gg _ c2.g⟩
    have e4 : ds.drop i = d :: ds.drop (i + 1) := by
      have hdd : ds[i] = d := by rw [List.getElem?_eq_getElem hlt] at hd; exact Option.some.inj hd
      rw [List.drop_eq_getElem_cons hlt, hdd]
    rw [e4] at w2
    have w2' : WS K mg pv F2 held E D' (match g d e2 with
      | none => .st
      | some e1 => (match mb e1 with
        | .ok .nx e2 => loopF g mb (ds.drop (i + 1)) e2
        | .ok .ct e2 => loopF g mb (ds.drop (i + 1)) e2
        | .ok .bk e2 => .ok .nx e2
        | .ok (.rt r) e2 => .ok (.rt r) e2
        | .ex x e2 => .ex x e2
        | .st => .st)) := w2
    cases q1 : g d e2 with
    | none => rw [q1] at w2'; exact w2'.elim
    | some e3 =>
      rw [q1] at w2'
      refine hg pv F3 H' σ2 e2 as2 held x d e3 _ c3 rd q1 fun σ4 as4 _ c4 => ?_
      refine hb pv F3 H' σ4 e3 as4 held _ c4 ?_
      simp only at w2'
      cases q2 : mb e3 with
      | st => rw [q2] at w2'; exact w2'.elim
      | ex x e5 => rw [q2] at w2'; exact WX.mono s3 w2'
      | ok f e5 =>
        rw [q2] at w2'
        cases f with
        | nx => exact fun σ5 F5 H5 as5 s5 c5 => ⟨F5, e5, as5, (s2.trans s3).trans s5, c5, WS.mono (s3.trans s5) w2'⟩
        | ct => exact fun σ5 F5 H5 as5 s5 c5 => ⟨F5, e5, as5, (s2.trans s3).trans s5, c5, WS.mono (s3.trans s5) w2'⟩
        | bk => exact fun σ5 F5 H5 as5 s5 c5 => w2' σ5 F5 H5 as5 (s3.trans s5) c5
        | rt r => exact fun v σ5 F5 H5 as5 tr5 s5 c5 rr => w2' v σ5 F5 H5 as5 tr5 (s3.trans s5) c5 rr
  · refine .inl ⟨it.stop i F2 H2 s2 c2.s (by omega), ?_⟩
    rw [List.drop_eq_nil_of_le (by omega)] at w2
    exact w2 σ2 F2 H2 as2 (Same.refl _) c2
end
end VF
set_option maxRecDepth 100000
set_option maxHeartbeats 4000000
namespace VF
set_option autoImplicit false
open PySem PySem.Spec PyProof.Rows L2
open AT (cells cellsL er ers)
section
variable {K : PySem.W.Frag} {mg : Str → Option Value} {pv : List (Nat × V)} {F F' H H' : Hp} {σ : L2.St} {e e' : Env} {as as' : List (Option AT)} {held tr ts us : List AT} {E : XS}
def wipeE : List Nat → Env → Env
  | [], e => e
  | v :: vs, e => (wipeE vs e).clr v
theorem wipeE_pn : ∀ (vs : List Nat) (e : Env), (wipeE vs e).pn = e.pn
  | [], _ => rfl
  | _ :: vs, e => wipeE_pn vs e
theorem Cf.wipe1 {v : Nat} (c : Cf K mg pv F H σ e as us) (hv : v ∉ e.pn) : Cf K mg pv F H (σ.set v none) (e.clr v) (as.set v none) us := by
  refine ⟨c.s, ⟨?_, by rw [List.length_set, List.length_set]; exact c.r.len, fun j u hj => ?_, fun p hp => ?_⟩, ?_⟩
  · show e.sl.set v none = _
    rw [List.map_set, c.r.sl]; rfl
  · by_cases q : j = v
    · subst q
      have hlt : j < as.length := by simpa using (List.getElem?_eq_some_iff.mp hj).1
      rw [List.getElem?_set_self hlt] at hj
      cases hj
    · rw [List.getElem?_set_ne (Ne.symm q)] at hj ⊢
      exact c.r.at_ j u hj
  · obtain ⟨h1, h2⟩ := c.r.pin p hp
    refine ⟨h1, ?_⟩
    have ne : v ≠ p.1 := fun q => hv (by rw [q]; exact h1)
    rw [List.getElem?_set_ne ne]
    exact h2
  · cases z : as[v]? with
    | none =>
      rw [List.set_eq_of_length_le (List.getElem?_eq_none_iff.mp z)]
      exact c.g
    | some o =>
      cases o with
      | none =>
        have hlt : v < as.length := (List.getElem?_eq_some_iff.mp z).1
        have e0 : as[v] = none := by rw [List.getElem?_eq_getElem hlt] at z; exact Option.some.inj z
        rw [← e0, List.set_getElem_self]
        exact c.g
      | some t => exact (c.take z).tail
def wipeA : List Nat → List (Option AT) → List (Option AT)
  | [], as => as
  | v :: vs, as => (wipeA vs as).set v none
theorem Cf.wipe : ∀ {vs : List Nat} {e : Env} {as : List (Option AT)}, Cf K mg pv F H σ e as us → (∀ v ∈ vs, v ∉ e.pn) → Cf K mg pv F H (wipe σ vs) (wipeE vs e) (wipeA vs as) us
  | [], _, _, c, _ => c
  | v :: vs, e, as, c, h => (Cf.wipe (vs := vs) c fun u hu => h u (List.mem_cons_of_mem _ hu)).wipe1 (by rw [wipeE_pn]; exact h v List.mem_cons_self)
theorem wipe_wipe : ∀ (vs : List Nat) (σ : L2.St), wipe (wipe σ vs) vs = wipe σ vs := by
  intro vs σ
  have key : ∀ (us ws : List Nat), (∀ v ∈ ws, v ∈ us) → wipe (wipe σ ws) us = wipe σ us := fun us ws => by
    induction ws with
    | nil => intro _; rfl
    | cons w ws ih =>
      intro h
      show wipe ((wipe σ ws).set w none) us = _
      rw [wipe_set (h w List.mem_cons_self), ih fun v hv => h v (List.mem_cons_of_mem _ hv)]
  exact key vs vs fun _ h => h
def noPn (own : List Nat) (e : Env) : Bool := own.all fun v => !e.pn.contains v
theorem noPn_ok {own : List Nat} (h : noPn own e = true) : ∀ v ∈ own, v ∉ e.pn := fun v hv q => by
  have := List.all_eq_true.mp h v hv
  rw [List.contains_iff_mem.mpr q] at this
  cases this
def restE : List Nat → Env → Env → Option Env
  | [], _, e1 => some e1
  | v :: vs, e0, e1 => if vs.contains v = true then none else if isClr e1 v = true then (match e0.sl[v]? with
    | some none => restE vs e0 e1
    | some (some (.fz d)) => restE vs e0 (e1.setS v (.fz d))
    | _ => none) else none
theorem Cf.rest {e0 : Env} : ∀ {own : List Nat} {σ : L2.St} {e1 e2 : Env} {as1 : List (Option AT)}, Cf K mg pv F H (L2.wipe σ own) e1 as1 us → (∀ (v : Nat) (d : D), v ∈ own → e0.sl[v]? = some (some (.fz d)) → ∃ u, σ[v]? = some (some u) ∧ Rep K mg F u d) → restE own e0 e1 = some e2 →
    ∃ as2, Cf K mg pv F H σ e2 as2 us
  | [], σ, e1, e2, as1, c, _, q => by
    have q' : some e1 = some e2 := q
    cases q'
    exact ⟨as1, c⟩
  | v :: vs, σ, e1, e2, as1, c, h, q => by
    unfold restE at q
    by_cases h1 : vs.contains v = true
    · rw [if_pos h1] at q; cases q
    rw [if_neg h1] at q
    have hv : v ∉ vs := fun z => h1 (List.contains_iff_mem.mpr z)
    by_cases h2 : isClr e1 v = true
    · rw [if_pos h2] at q
      have hc := isClr_ok h2
      have ha : as1[v]? = some none := by
        rw [c.r.sl, List.getElem?_map] at hc
        cases z : as1[v]? with
        | none => rw [z] at hc; cases hc
        | some o => cases o with
          | none => rfl
          | some u => rw [z] at hc; cases hc
      have weak : ∀ (j : Nat) (u : V), (L2.wipe σ (v :: vs))[j]? = some (some u) → (L2.wipe σ vs)[j]? = some (some u) := fun j u hj => by
        have hj' : ((L2.wipe σ vs).set v none)[j]? = some (some u) := hj
        by_cases z : j = v
        · subst z
          have hlt : j < ((L2.wipe σ vs).set j none).length := (List.getElem?_eq_some_iff.mp hj').1
          rw [List.getElem?_set_self (by simpa using hlt)] at hj'
          cases hj'
        · rwa [List.getElem?_set_ne (Ne.symm z)] at hj'
      have ln : (L2.wipe σ vs).length = as1.length := by
        have := c.r.len
        rw [show L2.wipe σ (v :: vs) = (L2.wipe σ vs).set v none from rfl, List.length_set] at this
        exact this
      have c1 : Cf K mg pv F H (L2.wipe σ vs) e1 as1 us := ⟨c.s, ⟨c.r.sl, ln, fun j u hj => weak j _ (c.r.at_ j u hj), fun p hp => ⟨(c.r.pin p hp).1, weak _ _ (c.r.pin p hp).2⟩⟩, c.g⟩
      cases z : e0.sl[v]? with
      | none => rw [z] at q; cases q
      | some o =>
        cases o with
        | none =>
          rw [z] at q
          exact Cf.rest c1 (fun u d hu => h u d (List.mem_cons_of_mem _ hu)) q
        | some s =>
          cases s with
          | fz d =>
            rw [z] at q
            obtain ⟨u, hu, ru⟩ := h v d List.mem_cons_self z
            have hlt : v < as1.length := (List.getElem?_eq_some_iff.mp ha).1
            have hsv : (L2.wipe σ vs)[v]? = some (some u) := by rw [wipe_out hv]; exact hu
            have c2 : Cf K mg pv F H (L2.wipe σ vs) (e1.setS v (.fz d)) (as1.set v (some (.fz u d))) us := by
              refine ⟨c1.s, ⟨?_, by rw [List.length_set]; exact ln, fun j w hj => ?_, c1.r.pin⟩, ?_⟩
              · show e1.sl.set v (some (.fz d)) = _
                rw [List.map_set, c1.r.sl]; rfl
              · by_cases zz : j = v
                · subst zz
                  rw [List.getElem?_set_self hlt] at hj
                  cases hj
                  exact hsv
                · rw [List.getElem?_set_ne (Ne.symm zz)] at hj
                  exact c1.r.at_ j w hj
              · exact (c1.g.fz ru).perm ((opts_put (.fz u d) ha).append_right us)
            exact Cf.rest c2 (fun u d hu => h u d (List.mem_cons_of_mem _ hu)) q
          | _ => rw [z] at q; cases q
    · rw [if_neg h2] at q; cases q
theorem Cf.relistH {p : Addr} {xs ys zs junk : List AT} (c : Cf K mg pv F H σ e as (.ol p xs :: us)) (pm : (xs ++ us).Perm (junk ++ (ys ++ zs))) : Cf K mg pv F (upd H p (.lst (vals ys))) σ e as (.ol p ys :: zs) := by
  have g : Good K mg F H (.ol p xs :: (opts as ++ us)) := c.g.perm (List.perm_middle (l₁ := opts as) (l₂ := us) (a := AT.ol p xs))
  have g2 : Good K mg F (upd H p (.lst (vals ys))) (.ol p ys :: (opts as ++ zs)) := g.relist (junk := junk) ((pswap _ _ _).trans ((pm.append_left _).trans ((pswap _ _ _).trans (List.Perm.append_left _ (pswap _ _ _)))))
  exact ⟨same_own c.s g.cell.2, c.r, g2.perm (List.perm_middle (l₁ := opts as) (l₂ := zs) (a := AT.ol p ys)).symm⟩
theorem atoms_snoc : ∀ {vs : List V} {ds : List D} {v : V} {d : D}, vs.length = ds.length → atoms (vs ++ [v]) (ds ++ [d]) = atoms vs ds ++ [.fz v d]
  | [], [], _, _, _ => rfl
  | v :: vs, d :: ds, _, _, h => by
    show AT.fz v d :: atoms (vs ++ _) (ds ++ _) = AT.fz v d :: (atoms vs ds ++ _)
    rw [atoms_snoc (by simpa using h)]
  | [], _ :: _, _, _, h => by cases h
  | _ :: _, [], _, _, h => by cases h
def loopC (own : List Nat) (g : Tg) (tt : M Bool) (te : M RV) : List D → List D → M (List D)
  | [], acc => fun e => .ok acc e
  | d :: ds, acc => fun e => match g d e with
    | none => .st
    | some e1 => (match tt e1 with
      | .ok true e2 => (match te e2 with
        | .ok r e3 => (match frzR r e3 with
          | some (y, e4) => if (decide (acc.length < sizeLine) && noPn own e4) = true then loopC own g tt te ds (acc ++ [y]) (wipeE own e4) else .st
          | none => .st)
        | _ => .st)
      | .ok false e2 => if noPn own e2 = true then loopC own g tt te ds acc (wipeE own e2) else .st
      | _ => .st)
def dComp (own : List Nat) (it : M (List D)) (g : Tg) (tt : M Bool) (te : M RV) : M RV := it.bind fun ds e0 => if noPn own e0 = true then (match loopC own g tt te ds [] (wipeE own e0) with
  | .ok acc e1 => (match restE own e0 e1 with
    | some e2 => .ok (.own (.ol (acc.map .fz))) e2
    | none => .st)
  | _ => .st) else .st
theorem WI.bindE {f : List D → M RV} {m : M (List D)} {Q : VK} (h : WE K mg pv F held σ Q E ((m e).bind f)) {P : It → Hp → Prop}
    (k : ∀ ds e' J F' H' as', Same F F' → Cf K mg pv F' H' σ e' as' held → ItOk K mg F' J ds → WE K mg pv F held σ Q E (f ds e') → P J H') : WI K mg pv F held σ P E (m e) := by
  cases q : m e with
  | st => rw [q] at h; exact h.elim
  | ok r e' => rw [q] at h; exact fun J F' H' as' s c it => k r e' J F' H' as' s c it h
  | ex x e' => rw [q] at h; exact h
def dYes : M Bool := fun e => .ok true e
theorem st_yes : ST K mg E tYes dYes := fun pv F H σ e as held Q c w => w F H as (Same.refl _) c
theorem se_comp {L own : List Nat} {wi : TI} {tg : TG} {tt : TT} {te : TE} {mi : M (List D)} {g : Tg} {mt : M Bool} {me : M RV} (hi : SI K mg E wi mi) (hg : SG K mg L tg g) (hL : ∀ i ∈ L, i ∈ own) (ht : ST K mg E0 tt mt) (he : SE K mg E0 te me) :
    SE K mg E (tLc wi tg tt te own) (dComp own mi g mt me) := by
  intro pv F H σ e as held Q c w
  refine hi pv F H σ e as held _ c (WI.bindE w fun ds e1 J F1 H1 as1 s1 c1 it w1 => ?_)
  intro D hD
  by_cases hp : noPn own e1 = true
  · rw [if_pos hp] at w1
    cases q : loopC own g mt me ds [] (wipeE own e1) with
    | st => rw [q] at w1; exact w1.elim
    | ex _ _ => rw [q] at w1; exact w1.elim
    | ok accF eF =>
      rw [q] at w1
      cases q2 : restE own e1 eF with
      | none => simp only [q2] at w1; exact w1.elim
      | some e2 =>
        simp only [q2] at w1
        have c0 : Cf K mg pv F1 (upd H1 D (.lst [])) σ e1 as1 (.ol D (atoms [] []) :: held) := by
          refine ⟨same_own c1.s (c1.s.free hD), c1.r, ?_⟩
          exact (Good.new (xs := []) c1.g c1.s hD).perm (List.perm_middle (l₁ := opts as1) (l₂ := held)).symm
        have cw := c0.wipe (vs := own) (noPn_ok hp)
        refine ⟨fun i m H => m = ds.length - i ∧ ∃ F e as va acc, Same F1 F ∧ Cf K mg pv F H (wipe σ own) e as (.ol D (atoms va acc) :: held) ∧ Reps K mg F va acc ∧ loopC own g mt me (ds.drop i) acc e = .ok accF eF,
          ⟨_, rfl, F1, _, _, [], [], Same.refl _, cw, trivial, q⟩, ?_⟩
        rintro i m H2 ⟨rfl, F2, e3, as3, va, acc, s2, c2, ra, q3⟩
        by_cases hlt : i < ds.length
        · refine .inr ⟨it.go i F2 H2 s2 c2.s hlt, fun H' => ∃ F e as va acc, Same F1 F ∧ Cf K mg pv F H' (wipe σ own) e as (.ol D (atoms va acc) :: held) ∧ Reps K mg F va acc ∧ loopC own g mt me (ds.drop (i + 1)) acc e = .ok accF eF,
            fun H' ⟨F, e, as, va, acc, z1, z2, z3, z4⟩ => ⟨ds.length - (i + 1), by omega, rfl, F, e, as, va, acc, z1, z2, z3, z4⟩, fun x H' y => ?_⟩
          obtain ⟨F3, d, s3, s3', gg, hd, rd⟩ := it.yld i F2 H2 x H' s2 c2.s hlt y
          have c3 : Cf K mg pv F3 H' (wipe σ own) e3 as3 (.ol D (atoms va acc) :: held) := ⟨s3', c2.r, gg _ c2.g⟩
          have e4 : ds.drop i = d :: ds.drop (i + 1) := by
            have hdd : ds[i] = d := by rw [List.getElem?_eq_getElem hlt] at hd; exact Option.some.inj hd
            rw [List.drop_eq_getElem_cons hlt, hdd]
          rw [e4] at q3
          unfold loopC at q3
          cases q4 : g d e3 with
          | none => simp only [q4] at q3; cases q3
          | some e5 =>
            simp only [q4] at q3
            refine hg pv F3 H' _ e3 as3 _ x d e5 _ c3 rd q4 fun σ4 as4 hw c4 => ?_
            refine ⟨(hw own hL).trans (wipe_wipe own σ), ?_⟩
            refine ht pv F3 H' σ4 e5 as4 _ _ c4 ?_
            cases q5 : mt e5 with
            | st => simp only [q5] at q3; cases q3
            | ex _ _ => simp only [q5] at q3; cases q3
            | ok b e6 =>
              simp only [q5] at q3
              intro F5 H5 as5 s5 c5
              have hwσ : wipe σ4 own = wipe σ own := (hw own hL).trans (wipe_wipe own σ)
              cases b with
              | false =>
                simp only at q3
                rw [if_neg (by decide)]
                by_cases hp2 : noPn own e6 = true
                · rw [if_pos hp2] at q3
                  have c6 := c5.wipe (vs := own) (noPn_ok hp2)
                  rw [hwσ] at c6
                  exact ⟨F5, _, _, va, acc, (s2.trans s3).trans s5, c6, Reps.same (s3.trans s5) ra, q3⟩
                · rw [if_neg hp2] at q3; cases q3
              | true =>
                simp only at q3
                rw [if_pos rfl]
                refine he pv F5 H5 σ4 e6 as5 _ _ c5 ?_
                cases q6 : me e6 with
                | st => simp only [q6] at q3; cases q3
                | ex _ _ => simp only [q6] at q3; cases q3
                | ok r e7 =>
                  simp only [q6] at q3
                  intro y6 F6 H6 as6 tr6 s6 c6 rr6
                  cases q7 : frzR r e7 with
                  | none => simp only [q7] at q3; cases q3
                  | some pr =>
                    obtain ⟨dy, e8⟩ := pr
                    simp only [q7] at q3
                    obtain ⟨F7, as7, s7, c7, ry⟩ := c6.frzR rr6 q7
                    have rva : Reps K mg F7 va acc := Reps.same (((s3.trans s5).trans s6).trans s7) ra
                    by_cases hp2 : (decide (acc.length < sizeLine) && noPn own e8) = true
                    · rw [if_pos hp2] at q3
                      obtain ⟨hp3, hp4⟩ := Bool.and_eq_true_iff.mp hp2
                      have hcell : H6 D = some (.lst va) := by
                        have gg : Good K mg F7 H6 (.ol D (atoms va acc) :: (opts as7 ++ held)) := c7.g.perm (List.perm_middle (l₁ := opts as7) (l₂ := held) (a := AT.ol D (atoms va acc)))
                        have := gg.cell.1
                        rwa [vals_atoms rva] at this
                      refine ⟨va, hcell, by rw [rva.length]; exact of_decide_eq_true hp3, ?_⟩
                      have rsn : Reps K mg F7 (va ++ [y6]) (acc ++ [dy]) := rva.append ⟨ry, trivial⟩
                      have c8 : Cf K mg pv F7 (upd H6 D (.lst (va ++ [y6]))) σ4 e8 as7 (.ol D (atoms (va ++ [y6]) (acc ++ [dy])) :: held) := by
                        have c8 := (c7.fzs ry).perm (List.Perm.swap (AT.ol D (atoms va acc)) (AT.fz y6 dy) held)
                        have c9 := c8.relistH (ys := atoms va acc ++ [.fz y6 dy]) (zs := held) (junk := []) (by simp)
                        rw [← atoms_snoc rva.length, vals_atoms rsn] at c9
                        exact c9
                      have c10 := c8.wipe (vs := own) (noPn_ok hp4)
                      rw [hwσ] at c10
                      exact ⟨F7, _, _, va ++ [y6], acc ++ [dy], ((((s2.trans s3).trans s5).trans s6).trans s7), c10, rsn, q3⟩
                    · rw [if_neg hp2] at q3; cases q3
        · refine .inl ⟨it.stop i F2 H2 s2 c2.s (by omega), ?_⟩
          rw [List.drop_eq_nil_of_le (by omega)] at q3
          unfold loopC at q3
          have q3' : R.ok acc e3 = R.ok accF eF := q3
          cases q3'
          obtain ⟨as4, c4⟩ := c2.rest (e0 := e1) (fun v d hv hz => by
            obtain ⟨t, ht, et⟩ := c1.r.slotOf hz
            have hσ := c1.r.at_ v t ht
            cases t with
            | fz u d' =>
              have ed : d' = d := by simpa [er] using et
              subst ed
              have ok : Rep K mg F1 u d' := Oks.mem.mp c1.g.ok _ (List.mem_append_left _ (mem_opts ht))
              exact ⟨u, hσ, Rep.same s2 ok⟩
            | ol _ _ => simp [er] at et
            | oo _ _ _ _ _ _ => simp [er] at et
            | od _ _ _ => simp [er] at et) q2
          refine w1 (.ref D) F2 H2 as4 [.ol D (atoms va accF)] (s1.trans s2) c4 ⟨_, rfl, rfl, ?_⟩
          show SV.ol (ers (atoms va accF)) = _
          rw [ers_atoms ra]
  · rw [if_neg hp] at w1; exact w1.elim
end
end VF
set_option maxRecDepth 100000
set_option maxHeartbeats 4000000
namespace VF
set_option autoImplicit false
open PySem PySem.Spec PyProof.Rows L2
open AT (cells cellsL er ers)
def fI (g : Int → Int → Int) : D → D → Option D := fun a b => match a, b with
  | .int i, .int j => some (.int (g i j))
  | _, _ => none
def fB (g : Int → Int → Bool) : D → D → Option D := fun a b => match a, b with
  | .int i, .int j => some (.bl (g i j))
  | _, _ => none
def inB (i : Int) (k : Nat) : Bool := decide (-(2 ^ k) < i ∧ i < 2 ^ k)
def fMul : D → D → Option D := fun a b => match a, b with
  | .int i, .int j => if (inB i 64 || inB j 64) = true then some (.int (i * j)) else none
  | _, _ => none
def fMod : D → D → Option D := fun a b => match a, b with
  | .int i, .int j => if 0 < j then some (.int (i % j)) else none
  | _, _ => none
def fDiv : D → D → Option D := fun a b => match a, b with
  | .int i, .int j => if 0 < j ∧ j < 1073741824 then some (.int (i / j)) else none
  | _, _ => none
def fPow : D → D → Option D := fun a b => match a, b with
  | .int i, .int j => if 0 ≤ j ∧ j ≤ 1000000 ∧ i.natAbs < 2 ^ 64 then some (.int (i ^ j.toNat)) else none
  | _, _ => none
section
variable {K : PySem.W.Frag} {mg : Str → Option Value}
theorem opd_I {g : Int → Int → Int} : OpD (rI0 fun i j => .int (g i j)) K mg (fI g) := by
  intro H x y a b d ra rb q
  cases a <;> first | (cases q; done) | (cases b <;> first | (cases q; done) | skip)
  rename_i i j
  cases q
  have e1 : x = .int i := ra
  have e2 : y = .int j := rb
  exact ⟨_, rfl, fun Q k => ⟨i, j, e1, e2, k⟩⟩
theorem opd_B {g : Int → Int → Bool} : OpD (rI0 fun i j => .bl (g i j)) K mg (fB g) := by
  intro H x y a b d ra rb q
  cases a <;> first | (cases q; done) | (cases b <;> first | (cases q; done) | skip)
  rename_i i j
  cases q
  have e1 : x = .int i := ra
  have e2 : y = .int j := rb
  exact ⟨_, rfl, fun Q k => ⟨i, j, e1, e2, k⟩⟩
theorem opd_C {C : Int → Int → Prop} {g : Int → Int → Int} {f : D → D → Option D} (h : ∀ a b d, f a b = some d → ∃ i j, a = .int i ∧ b = .int j ∧ C i j ∧ d = .int (g i j)) : OpD (rI C fun i j => .int (g i j)) K mg f := by
  intro H x y a b d ra rb q
  obtain ⟨i, j, rfl, rfl, c, rfl⟩ := h a b d q
  have e1 : x = .int i := ra
  have e2 : y = .int j := rb
  exact ⟨_, rfl, fun Q k => ⟨i, j, e1, e2, c, k⟩⟩
theorem opd_mul : OpD (rI CMul fun i j => .int (i * j)) K mg fMul := opd_C fun a b d q => by
  unfold fMul at q
  split at q
  · rename_i i j
    split at q
    · rename_i h
      cases q
      refine ⟨i, j, rfl, rfl, ?_, rfl⟩
      rcases Bool.or_eq_true_iff.mp h with h | h
      · exact .inl (of_decide_eq_true h)
      · exact .inr (of_decide_eq_true h)
    · cases q
  · cases q
theorem opd_mod : OpD (rI (fun _ j => 0 < j) fun i j => .int (i % j)) K mg fMod := opd_C fun a b d q => by
  unfold fMod at q
  split at q
  · rename_i i j
    split at q
    · rename_i h
      cases q
      exact ⟨i, j, rfl, rfl, h, rfl⟩
    · cases q
  · cases q
theorem opd_div : OpD (rI CDiv fun i j => .int (i / j)) K mg fDiv := opd_C fun a b d q => by
  unfold fDiv at q
  split at q
  · rename_i i j
    split at q
    · rename_i h
      cases q
      exact ⟨i, j, rfl, rfl, h, rfl⟩
    · cases q
  · cases q
theorem opd_pow : OpD (rI CPow fun i j => .int (i ^ j.toNat)) K mg fPow := opd_C fun a b d q => by
  unfold fPow at q
  split at q
  · rename_i i j
    split at q
    · rename_i h
      cases q
      exact ⟨i, j, rfl, rfl, h, rfl⟩
    · cases q
  · cases q
mutual
def toP : D → Option PyData
  | .non => some .none
  | .bl b => some (.bool b)
  | .int i => some (.int i)
  | .str s => some (.str s)
  | .lst ds => (toPs ds).map .list
  | .tup ds => (toPs ds).map .tuple
  | _ => none
def toPs : List D → Option (List PyData)
  | [] => some []
  | d :: ds => match toP d, toPs ds with
    | some p, some ps => some (p :: ps)
    | _, _ => none
end
mutual
theorem dp_of {H : Hp} : ∀ (d : D) {v : V} {p : PyData}, Rep K mg H v d → toP d = some p → Dp K H v p
  | .non, v, p, r, q => by
    have e : v = .non := r
    cases (show some PyData.none = some p from q); subst e; exact .non
  | .bl b, v, p, r, q => by
    have e : v = .bl b := r
    cases (show some (PyData.bool b) = some p from q); subst e; exact .bl b
  | .int i, v, p, r, q => by
    have e : v = .int i := r
    cases (show some (PyData.int i) = some p from q); subst e; exact .int i
  | .str s, v, p, r, q => by
    have e : v = .str s := r
    cases (show some (PyData.str s) = some p from q); subst e; exact .str s
  | .lst ds, v, p, ⟨a, vs, e, h1, h2⟩, q => by
    have q' : (toPs ds).map PyData.list = some p := q
    cases z : toPs ds with
    | none => rw [z] at q'; cases q'
    | some ps => rw [z] at q'; cases q'; subst e; exact .lst (SqL.of h1) (dps_of ds h2 z)
  | .tup ds, v, p, ⟨a, vs, e, h1, h2⟩, q => by
    have q' : (toPs ds).map PyData.tuple = some p := q
    cases z : toPs ds with
    | none => rw [z] at q'; cases q'
    | some ps => rw [z] at q'; cases q'; subst e; exact .tup h1 (dps_of ds h2 z)
  | .ty _, _, _, _, q => nomatch (show (none : Option PyData) = some _ from q)
  | .dct _ _, _, _, _, q => nomatch (show (none : Option PyData) = some _ from q)
  | .obj _ _ _, _, _, _, q => nomatch (show (none : Option PyData) = some _ from q)
  | .scr _, _, _, _, q => nomatch (show (none : Option PyData) = some _ from q)
theorem dps_of {H : Hp} : ∀ (ds : List D) {vs : List V} {ps : List PyData}, Reps K mg H vs ds → toPs ds = some ps → DpAll K H vs ps
  | [], [], ps, _, q => by cases (show some ([] : List PyData) = some ps from q); exact .nil
  | d :: ds, v :: vs, ps, ⟨h1, h2⟩, q => by
    have q' : (match toP d, toPs ds with | some p, some ps => some (p :: ps) | _, _ => none) = some ps := q
    cases z1 : toP d with
    | none => rw [z1] at q'; cases q'
    | some p => cases z2 : toPs ds with
      | none => rw [z1, z2] at q'; cases q'
      | some ps2 => rw [z1, z2] at q'; cases q'; exact .cons (dp_of d h1 z1) (dps_of ds h2 z2)
  | [], _ :: _, _, h, _ => h.elim
  | _ :: _, [], _, h, _ => h.elim
end
def shp (p : PyData) : Bool := p.plain && decide (p.depth ≤ 64)
theorem shp_ok {p : PyData} (h : shp p = true) : p.plain = true ∧ p.depth ≤ 64 := by
  obtain ⟨a, b⟩ := Bool.and_eq_true_iff.mp h
  exact ⟨a, of_decide_eq_true b⟩
def rEqP (K : PySem.W.Frag) : R2 := fun x y H Q => ∃ d e, Dp K H x d ∧ Dp K H y e ∧ shp d = true ∧ shp e = true ∧ Q (.bl (PyData.eqv d e)) H
def rNeP (K : PySem.W.Frag) : R2 := fun x y H Q => ∃ d e, Dp K H x d ∧ Dp K H y e ∧ shp d = true ∧ shp e = true ∧ Q (.bl (!PyData.eqv d e)) H
def rInP (K : PySem.W.Frag) : R2 := fun x y H Q => ∃ d ds, Dp K H x d ∧ Dp K H y (.list ds) ∧ shp d = true ∧ shp (.list ds) = true ∧ Q (.bl (ds.any fun z => PyData.eqv z d)) H
def rNotInP (K : PySem.W.Frag) : R2 := fun x y H Q => ∃ d ds, Dp K H x d ∧ Dp K H y (.list ds) ∧ shp d = true ∧ shp (.list ds) = true ∧ Q (.bl (!ds.any fun z => PyData.eqv z d)) H
section
variable {X : Cx}
theorem op_eqP (hu : X.A.units + 64 < cLine) : OpR X (compareOp .Eq) (rEqP X.K) := by
  intro pins s σ H x y v u Q I rx ry h
  obtain ⟨d, e, hd, he, sd, se, q⟩ := h
  obtain ⟨as, r1⟩ := Dp.reads I d x v hd rx
  obtain ⟨bs, r2⟩ := Dp.reads I e y u he ry
  have s1 := shp_ok sd
  have s2 := shp_ok se
  exact SeqAt.eq_plain r1 r2 s1.1 s2.1 (by omega) ⟨.bl _, H, I, rfl, q⟩
theorem op_neP (hu : X.A.units + 64 < cLine) : OpR X (compareOp .NotEq) (rNeP X.K) := by
  intro pins s σ H x y v u Q I rx ry h
  obtain ⟨d, e, hd, he, sd, se, q⟩ := h
  obtain ⟨as, r1⟩ := Dp.reads I d x v hd rx
  obtain ⟨bs, r2⟩ := Dp.reads I e y u he ry
  have s1 := shp_ok sd
  have s2 := shp_ok se
  exact SeqAt.ne_plain r1 r2 s1.1 s2.1 (by omega) ⟨.bl _, H, I, rfl, q⟩
theorem op_inP (hu : X.A.units + 65 < cLine) : OpR X (compareOp .In) (rInP X.K) := by
  intro pins s σ H x y v u Q I rx ry h
  obtain ⟨d, ds, hd, he, sd, se, q⟩ := h
  obtain ⟨as, r1⟩ := Dp.reads I d x v hd rx
  obtain ⟨bs, r2⟩ := Dp.reads I (.list ds) y u he ry
  have s1 := shp_ok sd
  have s2 := shp_ok se
  exact SeqAt.in_list_data r2 r1 (by simpa only [PyData.plain] using s2.1) s1.1 (by omega) ⟨.bl _, H, I, rfl, q⟩
theorem op_notInP (hu : X.A.units + 65 < cLine) : OpR X (compareOp .NotIn) (rNotInP X.K) := by
  intro pins s σ H x y v u Q I rx ry h
  obtain ⟨d, ds, hd, he, sd, se, q⟩ := h
  obtain ⟨as, r1⟩ := Dp.reads I d x v hd rx
  obtain ⟨bs, r2⟩ := Dp.reads I (.list ds) y u he ry
  have s1 := shp_ok sd
  have s2 := shp_ok se
  exact SeqAt.notIn_list_data r2 r1 (by simpa only [PyData.plain] using s2.1) s1.1 (by omega) ⟨.bl _, H, I, rfl, q⟩
end
def eqD (a b : D) : Option Bool := match toP a, toP b with
  | some p, some q => if (shp p && shp q) = true then some (PyData.eqv p q) else none
  | _, _ => none
def fEq : D → D → Option D := fun a b => (eqD a b).map .bl
def fNe : D → D → Option D := fun a b => (eqD a b).map fun k => .bl (!k)
theorem eqD_some {a b : D} {k : Bool} (h : eqD a b = some k) : ∃ p q, toP a = some p ∧ toP b = some q ∧ shp p = true ∧ shp q = true ∧ PyData.eqv p q = k := by
  unfold eqD at h
  cases z1 : toP a with
  | none => rw [z1] at h; cases h
  | some p => cases z2 : toP b with
    | none => rw [z1, z2] at h; cases h
    | some q =>
      rw [z1, z2] at h
      simp only at h
      split at h
      · rename_i hh
        obtain ⟨h1, h2⟩ := Bool.and_eq_true_iff.mp hh
        exact ⟨p, q, rfl, rfl, h1, h2, Option.some.inj h⟩
      · cases h
theorem opd_eq : OpD (rEqP K) K mg fEq := by
  intro H x y a b d ra rb q
  unfold fEq at q
  cases z : eqD a b with
  | none => rw [z] at q; cases q
  | some k =>
    rw [z] at q; cases q
    obtain ⟨p, q, h1, h2, h3, h4, h5⟩ := eqD_some z
    exact ⟨.bl k, rfl, fun Q hk => ⟨p, q, dp_of a ra h1, dp_of b rb h2, h3, h4, by rw [h5]; exact hk⟩⟩
theorem opd_ne : OpD (rNeP K) K mg fNe := by
  intro H x y a b d ra rb q
  unfold fNe at q
  cases z : eqD a b with
  | none => rw [z] at q; cases q
  | some k =>
    rw [z] at q; cases q
    obtain ⟨p, q, h1, h2, h3, h4, h5⟩ := eqD_some z
    exact ⟨.bl (!k), rfl, fun Q hk => ⟨p, q, dp_of a ra h1, dp_of b rb h2, h3, h4, by rw [h5]; exact hk⟩⟩
def fIsN : D → D → Option D := fun a b => match b with
  | .non => (match a with
    | .non => some (.bl true)
    | _ => some (.bl false))
  | _ => none
theorem rep_ne_non {H : Hp} {v : V} {a : D} (h : Rep K mg H v a) (n : a ≠ .non) : v ≠ .non := by
  intro e
  subst e
  cases a with
  | non => exact n rfl
  | bl b => cases (show V.non = .bl b from h)
  | int b => cases (show V.non = .int b from h)
  | str b => cases (show V.non = .str b from h)
  | ty b => cases (show V.non = .ty b from h)
  | lst ds => obtain ⟨_, _, e, _⟩ := h; cases e
  | tup ds => obtain ⟨_, _, e, _⟩ := h; cases e
  | dct ks ds => obtain ⟨_, _, e, _⟩ := h; cases e
  | obj c ns ds => obtain ⟨_, _, _, _, e, _⟩ := h; cases e
  | scr ns => obtain ⟨_, e, _⟩ := h; cases e
  | hl => obtain ⟨_, e⟩ := h; cases e
theorem opd_isN : OpD (fun x y H Q => y = .non ∧ Q (.bl (decide (x = .non))) H) K mg fIsN := by
  intro H x y a b d ra rb q
  cases b <;> first | (cases q; done) | skip
  have e2 : y = .non := rb
  by_cases n : a = .non
  · subst n
    have e1 : x = .non := ra
    cases q
    exact ⟨.bl true, rfl, fun Q k => ⟨e2, by rw [e1]; exact k⟩⟩
  · have hx := rep_ne_non ra n
    have q' : d = .bl false := by
      cases a <;> first | exact absurd rfl n | (cases q; rfl)
    subst q'
    exact ⟨.bl false, rfl, fun Q k => ⟨e2, by rw [decide_eq_false hx]; exact k⟩⟩
def flatD : D → Bool
  | .non => true
  | .bl _ => true
  | .int _ => true
  | .str _ => true
  | _ => false
def eqF : D → D → Bool
  | .non, .non => true
  | .bl a, .bl b => a == b
  | .bl a, .int b => (if a then 1 else 0) == b
  | .int a, .bl b => a == (if b then 1 else 0)
  | .int a, .int b => a == b
  | .str a, .str b => a == b
  | _, _ => false
def inD (a b : D) : Option Bool := match b with
  | .lst ds => if (flatD a && ds.all flatD) = true then some (ds.any fun y => eqF y a) else (match toP a, toPs ds with
    | some p, some ps => if (shp p && shp (.list ps)) = true then some (ps.any fun z => PyData.eqv z p) else none
    | _, _ => none)
  | .tup ds => if (flatD a && ds.all flatD) = true then some (ds.any fun y => eqF y a) else none
  | .str z => (match a with
    | .str y => some (!(Builtin.Str.occurrences z y 0 z.length 1).isEmpty)
    | _ => none)
  | _ => none
def fIn : D → D → Option D := fun a b => (inD a b).map .bl
def fNotIn : D → D → Option D := fun a b => (inD a b).map fun k => .bl (!k)
theorem flat_rep {H : Hp} {v : V} {a : D} (h : Rep K mg H v a) (f : flatD a = true) : flatV v = true := by
  cases a <;> first | (cases f; done) | (cases (show v = _ from h); rfl)
theorem eqF_rep {H : Hp} {v w : V} {a b : D} (h : Rep K mg H v a) (h' : Rep K mg H w b) (f : flatD a = true) (f' : flatD b = true) : eqV v w = eqF a b := by
  cases a <;> first | (cases f; done) | skip
  all_goals (cases b <;> first | (cases f'; done) | skip)
  all_goals (cases (show v = _ from h); cases (show w = _ from h'); rfl)
theorem flats_rep {H : Hp} : ∀ {vs : List V} {ds : List D}, Reps K mg H vs ds → ds.all flatD = true → vs.all flatV = true
  | [], [], _, _ => rfl
  | v :: vs, d :: ds, ⟨h1, h2⟩, f => by
    obtain ⟨f1, f2⟩ := Bool.and_eq_true_iff.mp (show (flatD d && ds.all flatD) = true from f)
    show (flatV v && vs.all flatV) = true
    rw [flat_rep h1 f1, flats_rep h2 f2]; rfl
  | [], _ :: _, h, _ => h.elim
  | _ :: _, [], h, _ => h.elim
theorem inV_rep {H : Hp} {x : V} {a : D} (hx : Rep K mg H x a) (fx : flatD a = true) : ∀ {vs : List V} {ds : List D}, Reps K mg H vs ds → ds.all flatD = true → inV x vs = ds.any fun y => eqF y a
  | [], [], _, _ => rfl
  | v :: vs, d :: ds, ⟨h1, h2⟩, f => by
    obtain ⟨f1, f2⟩ := Bool.and_eq_true_iff.mp (show (flatD d && ds.all flatD) = true from f)
    show (eqV v x || inV x vs) = (eqF d a || _)
    rw [eqF_rep h1 hx f1 fx, inV_rep hx fx h2 f2]
  | [], _ :: _, h, _ => h.elim
  | _ :: _, [], h, _ => h.elim
def rInA (K : PySem.W.Frag) : R2 := fun x y H Q => rIn K false x y H Q ∨ rInP K x y H Q ∨ (∃ i j, x = .str i ∧ y = .str j ∧ Q (.bl (!(Builtin.Str.occurrences j i 0 j.length 1).isEmpty)) H)
def rNotInA (K : PySem.W.Frag) : R2 := fun x y H Q => rIn K true x y H Q ∨ rNotInP K x y H Q ∨ (∃ i j, x = .str i ∧ y = .str j ∧ Q (.bl (!(!(Builtin.Str.occurrences j i 0 j.length 1).isEmpty))) H)
theorem op_inA {X : Cx} (hu : X.A.units + 65 < cLine) : OpR X (compareOp .In) (rInA X.K) := op_in_seq.or ((op_inP hu).or op_in_str)
theorem op_notInA {X : Cx} (hu : X.A.units + 65 < cLine) : OpR X (compareOp .NotIn) (rNotInA X.K) := op_notIn_seq.or ((op_notInP hu).or op_notin_str)
theorem inD_ok {H : Hp} {x y : V} {a b : D} {k : Bool} (ra : Rep K mg H x a) (rb : Rep K mg H y b) (q : inD a b = some k) : ∀ Q : VK, (Q (.bl k) H → rInA K x y H Q) ∧ (Q (.bl (!k)) H → rNotInA K x y H Q) := by
  intro Q
  cases b with
  | lst ds =>
    obtain ⟨p, vs, e, h1, h2⟩ := rb
    unfold inD at q
    simp only at q
    split at q
    · rename_i h
      obtain ⟨f1, f2⟩ := Bool.and_eq_true_iff.mp h
      have ek : (ds.any fun y => eqF y a) = k := Option.some.inj q
      have ei := inV_rep ra f1 h2 f2
      rw [ek] at ei
      exact ⟨fun hk => .inl ⟨p, vs, e, .inl (SqL.of h1), flat_rep ra f1, flats_rep h2 f2, by rw [ei]; exact hk⟩, fun hk => .inl ⟨p, vs, e, .inl (SqL.of h1), flat_rep ra f1, flats_rep h2 f2, by rw [ei]; exact hk⟩⟩
    · cases z1 : toP a with
      | none => rw [z1] at q; cases q
      | some pa =>
        cases z2 : toPs ds with
        | none => rw [z1, z2] at q; cases q
        | some ps =>
          rw [z1, z2] at q
          simp only at q
          split at q
          · rename_i h
            obtain ⟨f1, f2⟩ := Bool.and_eq_true_iff.mp h
            have ek : (ps.any fun z => PyData.eqv z pa) = k := Option.some.inj q
            subst e
            have d1 := dp_of a ra z1
            have d2 : Dp K H (.ref p) (.list ps) := .lst (SqL.of h1) (dps_of ds h2 z2)
            exact ⟨fun hk => .inr (.inl ⟨pa, ps, d1, d2, f1, f2, by rw [ek]; exact hk⟩), fun hk => .inr (.inl ⟨pa, ps, d1, d2, f1, f2, by rw [ek]; exact hk⟩)⟩
          · cases q
  | tup ds =>
    obtain ⟨p, vs, e, h1, h2⟩ := rb
    unfold inD at q
    simp only at q
    split at q
    · rename_i h
      obtain ⟨f1, f2⟩ := Bool.and_eq_true_iff.mp h
      have ek : (ds.any fun y => eqF y a) = k := Option.some.inj q
      have ei := inV_rep ra f1 h2 f2
      rw [ek] at ei
      exact ⟨fun hk => .inl ⟨p, vs, e, .inr h1, flat_rep ra f1, flats_rep h2 f2, by rw [ei]; exact hk⟩, fun hk => .inl ⟨p, vs, e, .inr h1, flat_rep ra f1, flats_rep h2 f2, by rw [ei]; exact hk⟩⟩
    · cases q
  | str z =>
    cases a with
    | str w =>
      have e1 : x = .str w := ra
      have e2 : y = .str z := rb
      have ek : (!(Builtin.Str.occurrences z w 0 z.length 1).isEmpty) = k := Option.some.inj q
      exact ⟨fun hk => .inr (.inr ⟨w, z, e1, e2, by rw [ek]; exact hk⟩), fun hk => .inr (.inr ⟨w, z, e1, e2, by rw [ek]; exact hk⟩)⟩
    | _ => cases q
  | _ => cases q
theorem opd_in : OpD (rInA K) K mg fIn := by
  intro H x y a b d ra rb q
  unfold fIn at q
  cases z : inD a b with
  | none => rw [z] at q; cases q
  | some k => rw [z] at q; cases q; exact ⟨.bl k, rfl, fun Q hk => (inD_ok ra rb z Q).1 hk⟩
theorem opd_notIn : OpD (rNotInA K) K mg fNotIn := by
  intro H x y a b d ra rb q
  unfold fNotIn at q
  cases z : inD a b with
  | none => rw [z] at q; cases q
  | some k => rw [z] at q; cases q; exact ⟨.bl (!k), rfl, fun Q hk => (inD_ok ra rb z Q).2 hk⟩
def lenD : List D → Option D
  | [.lst ds] => some (.int (ds.length : Nat))
  | [.tup ds] => some (.int (ds.length : Nat))
  | [.scr ns] => some (.int (ns.length : Nat))
  | [.str z] => if z.length ≤ sizeLine then some (.int (z.length : Nat)) else none
  | _ => none
theorem cbd_len : CbD (fun xs H Q => ∃ x n, xs = [x] ∧ LenV K x H n ∧ Q (.int n) H) K mg lenD := by
  intro H xs as d r q
  match as, r with
  | [a], r =>
    obtain ⟨v, e, rv⟩ := reps1 r
    subst e
    cases a with
    | lst ds =>
      obtain ⟨p, vs, e, h1, h2⟩ := rv
      subst e
      cases q
      exact ⟨_, rfl, fun Q k => ⟨_, ds.length, rfl, .inl ⟨vs, SqL.of h1, h2.length.symm⟩, k⟩⟩
    | tup ds =>
      obtain ⟨p, vs, e, h1, h2⟩ := rv
      subst e
      cases q
      exact ⟨_, rfl, fun Q k => ⟨_, ds.length, rfl, .inr ⟨vs, h1, h2.length.symm⟩, k⟩⟩
    | scr ns =>
      obtain ⟨p, e, h1⟩ := rv
      subst e
      cases q
      exact ⟨_, rfl, fun Q k => ⟨_, ns.length, rfl, .inl ⟨_, h1, (List.length_map _).symm⟩, k⟩⟩
    | str z =>
      have e : v = .str z := rv
      subst e
      have q' : (if z.length ≤ sizeLine then some (D.int (z.length : Nat)) else none) = some d := q
      split at q'
      · rename_i h
        cases q'
        exact ⟨_, rfl, fun Q k => ⟨_, z.length, rfl, ⟨h, rfl⟩, k⟩⟩
      · cases q'
    | _ => cases q
  | [], _ => simp [lenD] at q
  | _ :: _ :: _, _ => simp [lenD] at q
def intD : List D → Option D
  | [.int i] => some (.int i)
  | [.bl b] => some (.int (if b then 1 else 0))
  | _ => none
theorem cbd_int : CbD (fun xs H Q => (∃ i, xs = [.int i] ∧ Q (.int i) H) ∨ ∃ k, xs = [.bl k] ∧ Q (.int (if k then 1 else 0)) H) K mg intD := by
  intro H xs as d r q
  match as, r with
  | [a], r =>
    obtain ⟨v, e, rv⟩ := reps1 r
    subst e
    cases a with
    | int i => cases q; exact ⟨_, rfl, fun Q k => .inl ⟨i, by rw [show v = .int i from rv], k⟩⟩
    | bl b => cases q; exact ⟨_, rfl, fun Q k => .inr ⟨b, by rw [show v = .bl b from rv], k⟩⟩
    | _ => cases q
  | [], _ => simp [intD] at q
  | _ :: _ :: _, _ => simp [intD] at q
def intsOf : List D → Option (List Int)
  | [] => some []
  | .int i :: ds => (intsOf ds).map (i :: ·)
  | _ => none
theorem intsOf_eq : ∀ {ds : List D} {ns : List Int}, intsOf ds = some ns → ds = ns.map .int
  | [], ns, h => by cases h; rfl
  | d :: ds, ns, h => by
    cases d with
    | int i =>
      have h' : (intsOf ds).map (i :: ·) = some ns := h
      cases z : intsOf ds with
      | none => rw [z] at h'; cases h'
      | some ms => rw [z] at h'; cases h'; rw [intsOf_eq z]; rfl
    | _ => cases h
theorem intsOf_map (ns : List Int) : intsOf (ns.map .int) = some ns := by
  induction ns with
  | nil => rfl
  | cons n ns ih => show (intsOf (ns.map .int)).map (n :: ·) = _; rw [ih]; rfl
def intsL : List D → Option (List Int)
  | [.lst ds] => intsOf ds
  | _ => none
theorem intsL_ok {H : Hp} {xs : List V} {as : List D} {ns : List Int} (r : Reps K mg H xs as) (q : intsL as = some ns) : ∃ a, xs = [.ref a] ∧ H a = some (.lst (ns.map V.int)) := by
  match as, r with
  | [a], r =>
    obtain ⟨v, e, rv⟩ := reps1 r
    subst e
    cases a with
    | lst ds =>
      obtain ⟨p, vs, e, h1, h2⟩ := rv
      have q' : intsOf ds = some ns := q
      rw [intsOf_eq q'] at h2
      rw [h2.ints] at h1
      exact ⟨p, by rw [e], h1⟩
    | _ => cases q
  | [], _ => simp [intsL] at q
  | _ :: _ :: _, _ => simp [intsL] at q
def sumD (as : List D) : Option D := (intsL as).map fun ns => .int ns.sum
theorem cbd_sum : CbD (rSum K) K mg sumD := by
  intro H xs as d r q
  unfold sumD at q
  cases z : intsL as with
  | none => rw [z] at q; cases q
  | some ns =>
    rw [z] at q; cases q
    obtain ⟨a, e, h⟩ := intsL_ok r z
    exact ⟨_, rfl, fun Q k => ⟨a, ns, e, SqL.of h, k⟩⟩
def maxI : Int → List Int → Int
  | m, [] => m
  | m, n :: ns => maxI (if n > m then n else m) ns
theorem maxI_spec : ∀ (m : Int) (ns : List Int), (maxI m ns = m ∨ maxI m ns ∈ ns) ∧ m ≤ maxI m ns ∧ ∀ y ∈ ns, y ≤ maxI m ns
  | m, [] => ⟨.inl rfl, Int.le_refl _, fun _ h => absurd h List.not_mem_nil⟩
  | m, n :: ns => by
    obtain ⟨h1, h2, h3⟩ := maxI_spec (if n > m then n else m) ns
    have e : maxI m (n :: ns) = maxI (if n > m then n else m) ns := rfl
    rw [e]
    refine ⟨?_, ?_, fun y hy => ?_⟩
    · rcases h1 with h1 | h1
      · by_cases c : n > m
        · rw [if_pos c] at h1 ⊢; exact .inr (by rw [h1]; exact List.mem_cons_self)
        · rw [if_neg c] at h1 ⊢; exact .inl h1
      · exact .inr (List.mem_cons_of_mem _ h1)
    · by_cases c : n > m
      · rw [if_pos c] at h2 ⊢; omega
      · rw [if_neg c] at h2 ⊢; omega
    · rcases List.mem_cons.mp hy with q | q
      · subst q
        by_cases c : y > m
        · rw [if_pos c] at h2 ⊢; omega
        · rw [if_neg c] at h2 ⊢; omega
      · exact h3 y q
def maxD (as : List D) : Option D := match twoI as with
  | some (i, j) => some (.int (if j > i then j else i))
  | none => (match intsL as with
    | some (n :: ns) => some (.int (maxI n ns))
    | _ => none)
theorem twoI_ok {H : Hp} {xs : List V} {as : List D} {p : Int × Int} (r : Reps K mg H xs as) (q : twoI as = some p) : xs = [.int p.1, .int p.2] := by
  rw [twoI_some q] at r
  obtain ⟨v, v', e, r1, r2⟩ := reps2 r
  rw [e, show v = .int p.1 from r1, show v' = .int p.2 from r2]
theorem uniq_max {ns : List Int} {m m' : Int} (h1 : m ∈ ns) (h2 : ∀ y, y ∈ ns → y ≤ m) (h3 : m' ∈ ns) (h4 : ∀ y, y ∈ ns → y ≤ m') : m = m' := by
  have := h2 m' h3
  have := h4 m h1
  omega
theorem cbd_max : CbD (fun xs H Q => (∃ i j, xs = [.int i, .int j] ∧ Q (.int (if j > i then j else i)) H) ∨ rMax K xs H Q) K mg maxD := by
  intro H xs as d r q
  unfold maxD at q
  cases z : twoI as with
  | some p =>
    obtain ⟨i, j⟩ := p
    rw [z] at q; cases q
    exact ⟨_, rfl, fun Q k => .inl ⟨i, j, twoI_ok r z, k⟩⟩
  | none =>
    rw [z] at q
    cases z2 : intsL as with
    | none => simp only [z2] at q; cases q
    | some l =>
      cases l with
      | nil => simp only [z2] at q; cases q
      | cons n ns =>
        simp only [z2] at q; cases q
        obtain ⟨a, e, h⟩ := intsL_ok r z2
        refine ⟨_, rfl, fun Q k => .inr ⟨a, n :: ns, e, SqL.of h, Nat.succ_pos _, fun m hm hy => ?_⟩⟩
        obtain ⟨h1, h2, h3⟩ := maxI_spec n ns
        have : m = maxI n ns := uniq_max hm hy (by
          rcases h1 with q | q
          · rw [q]; exact List.mem_cons_self
          · exact List.mem_cons_of_mem _ q) fun y hy => by
            rcases List.mem_cons.mp hy with q | q
            · rw [q]; exact h2
            · exact h3 y q
        rw [this]; exact k
def tyName : D → Option String
  | .non => some "NoneType"
  | .bl _ => some "bool"
  | .int _ => some "int"
  | .str _ => some "str"
  | .lst _ => some "list"
  | .tup _ => some "tuple"
  | .dct _ _ => some "dict"
  | _ => none
def isiD : List D → Option D
  | [x, .ty n] => (match tyName x with
    | some t => (kitB t n).map .bl
    | none => none)
  | _ => none
def truD : D → Option Bool
  | .non => some false
  | .bl b => some b
  | .int i => some (i != 0)
  | .str y => if y.length ≤ sizeLine then some ((y.length : Int) != 0) else none
  | .lst ds => some !ds.isEmpty
  | .tup ds => some !ds.isEmpty
  | .dct ks _ => some !ks.isEmpty
  | _ => none
theorem isEmpty_len {α β : Type} {xs : List α} {ys : List β} (h : xs.length = ys.length) : xs.isEmpty = ys.isEmpty := by
  cases xs <;> cases ys <;> first | rfl | cases h
theorem truD_ok {H : Hp} {v : V} {d : D} {k : Bool} (r : Rep K mg H v d) (q : truD d = some k) : TruV K v H k := by
  cases d with
  | non => cases q; rw [show v = .non from r]; exact rfl
  | bl b => cases q; rw [show v = .bl _ from r]; exact rfl
  | int b => cases q; rw [show v = .int b from r]; exact rfl
  | str b =>
    rw [show v = .str b from r]
    have q' : (if b.length ≤ sizeLine then some ((b.length : Int) != 0) else none) = some k := q
    split at q'
    · rename_i h; cases q'; exact ⟨h, rfl⟩
    · cases q'
  | lst ds => obtain ⟨p, vs, e, h1, h2⟩ := r; cases q; subst e; exact .inl ⟨vs, SqL.of h1, by rw [isEmpty_len h2.length]⟩
  | tup ds => obtain ⟨p, vs, e, h1, h2⟩ := r; cases q; subst e; exact .inr (.inl ⟨vs, h1, by rw [isEmpty_len h2.length]⟩)
  | dct ks ds =>
    obtain ⟨p, vs, e, h1, h3, h2⟩ := r; cases q; subst e
    refine .inr (.inr ⟨_, h1, ?_⟩)
    rw [isEmpty_len (xs := ks.zip vs) (ys := ks) (by rw [List.length_zip]; omega)]
  | _ => cases q
end
end VF
set_option maxRecDepth 100000
set_option maxHeartbeats 4000000
namespace VF
set_option autoImplicit false
open PySem PySem.Spec PyProof.Rows L2
open AT (cells cellsL er ers)
section
variable {K : PySem.W.Frag} {mg : Str → Option Value} {E : XS}
theorem SE.imp {t t' : TE} {m : M RV} (h : SE K mg E t m) (k : ∀ σ H Q, t σ H Q → t' σ H Q) : SE K mg E t' m := fun pv F H σ e as held Q c w => k _ _ _ (h pv F H σ e as held Q c w)
def blOf : D → Option Bool
  | .bl b => some b
  | _ => none
def dChain (f g : D → D → Option D) (a b c : M RV) : M RV := a.bind fun r => b.bind fun q => fun e => match view e r, view e q with
  | some x, some y => (match (f x y).bind blOf with
    | some true => (c e).bind fun p e => (match view e q, view e p with
      | some y, some z => (match g y z with
        | some d => .ok (.fz d) e
        | none => .st)
      | _, _ => .st)
    | some false => .ok (.fz (.bl false)) e
    | none => .st)
  | _, _ => .st
theorem blOf_some {d : Option D} {k : Bool} (h : d.bind blOf = some k) : d = some (.bl k) := by
  cases d with
  | none => cases h
  | some d => cases d with
    | bl b => cases h; rfl
    | _ => cases h
theorem se_chain {r r' : R2} {f g : D → D → Option D} {ta tb tc : TE} {ma mb mc : M RV} (hr : OpD r K mg f) (hr' : OpD r' K mg g) (ha : SE K mg E ta ma) (hb : SE K mg E tb mb) (hc : SE K mg E tc mc) : SE K mg E (tChain r r' ta tb tc) (dChain f g ma mb mc) := by
  intro pv F H σ e as held Q c w
  refine ha pv F H σ e as held _ c (WE.bindE (W := WE K mg pv F held σ Q E) (fun z => z) w (fun _ _ z => z) fun r1 e1 v1 F1 H1 as1 tr1 s1 c1 rr1 w1 => ?_)
  refine hb pv F1 H1 σ e1 as1 (tr1 ++ held) _ c1 (WE.bindE (W := WE K mg pv F held σ Q E) (fun z => z) w1 (fun _ _ z => (WX.mono s1 z).drop) fun r2 e2 v2 F2 H2 as2 tr2 s2 c2 rr2 w2 => ?_)
  cases q1 : view e2 r1 with
  | none => simp only [q1] at w2; exact w2.elim
  | some x =>
    cases q2 : view e2 r2 with
    | none => simp only [q1, q2] at w2; exact w2.elim
    | some y =>
      simp only [q1, q2] at w2
      have p1 := c2.seen rr1 (fun t ht => List.mem_append_right _ (List.mem_append_left _ ht)) q1
      have p2 := c2.seen rr2 (fun t ht => List.mem_append_left _ ht) q2
      cases q3 : (f x y).bind blOf with
      | none => simp only [q3] at w2; exact w2.elim
      | some k =>
        simp only [q3] at w2
        obtain ⟨v, hv, kk⟩ := hr H2 v1 v2 x y _ p1 p2 (blOf_some q3)
        cases hv
        refine kk _ ⟨k, rfl, ?_⟩
        cases k with
        | false =>
          rw [if_neg (by decide)]
          exact w2 (.bl false) F2 H2 as2 _ (s1.trans s2) (c2.drop.drop.fz (show Rep K mg F2 (.bl false) (.bl false) from rfl)) rfl
        | true =>
          rw [if_pos rfl]
          have c2' : Cf K mg pv F2 H2 σ e2 as2 (tr2 ++ held) := (c2.perm (pswap tr2 tr1 held)).drop
          refine hc pv F2 H2 σ e2 as2 _ _ c2' (WE.bindE (W := WE K mg pv F held σ Q E) (fun z => z) w2 (fun _ _ z => (WX.mono (s1.trans s2) z).drop) fun r3 e3 v3 F3 H3 as3 tr3 s3 c3 rr3 w3 => ?_)
          cases q4 : view e3 r2 with
          | none => simp only [q4] at w3; exact w3.elim
          | some y' =>
            cases q5 : view e3 r3 with
            | none => simp only [q4, q5] at w3; exact w3.elim
            | some z =>
              simp only [q4, q5] at w3
              have p3 := c3.seen rr2 (fun t ht => List.mem_append_right _ (List.mem_append_left _ ht)) q4
              have p4 := c3.seen rr3 (fun t ht => List.mem_append_left _ ht) q5
              cases q6 : g y' z with
              | none => simp only [q6] at w3; exact w3.elim
              | some d =>
                simp only [q6] at w3
                obtain ⟨u, hu, kk2⟩ := hr' H3 v2 v3 y' z d p3 p4 q6
                exact kk2 Q (w3 u F3 H3 as3 _ ((s1.trans s2).trans s3) (c3.drop.drop.fz (rep_imm hu)) rfl)
def dIfE (t : M Bool) (a b : M RV) : M RV := t.bind fun k => match k with
  | true => a
  | false => b
def dBl (a : M RV) (k : Bool → M RV) : M RV := a.bind fun r => fun e => match (view e r).bind blOf with
  | some b => k b e
  | none => .st
theorem se_bl {ta : TE} {ma : M RV} {k : Bool → M RV} {tk : Bool → TE} (ha : SE K mg E ta ma) (hk : ∀ b, SE K mg E (tk b) (k b)) : SE K mg E (fun σ H Q => ta σ H fun x H1 => ∃ c, x = .bl c ∧ tk c σ H1 Q) (dBl ma k) := by
  intro pv F H σ e as held Q c w
  refine ha pv F H σ e as held _ c (WE.bindE (W := WE K mg pv F held σ Q E) (fun z => z) w (fun _ _ z => z) fun r1 e1 v1 F1 H1 as1 tr1 s1 c1 rr1 w1 => ?_)
  cases q : (view e1 r1).bind blOf with
  | none => simp only [q] at w1; exact w1.elim
  | some b =>
    simp only [q] at w1
    have p1 := c1.seen rr1 (fun t ht => List.mem_append_left _ ht) (blOf_some q)
    exact ⟨b, p1, hk b pv F1 H1 σ e1 as1 held Q c1.drop (WE.mono s1 w1)⟩
def dAndV (a b : M RV) : M RV := dBl a fun c => match c with
  | true => b
  | false => dC (.bl false)
def dOrV (a b : M RV) : M RV := dBl a fun c => match c with
  | true => dC (.bl true)
  | false => b
def dNotV (a : M RV) : M RV := dBl a fun c => dC (.bl (!c))
theorem se_andV {ta tb : TE} {ma mb : M RV} (ha : SE K mg E ta ma) (hb : SE K mg E tb mb) : SE K mg E (tAndV ta tb) (dAndV ma mb) := by
  refine (se_bl (tk := fun c => if c = true then tb else tC (.bl false)) ha fun b => ?_).imp fun σ H Q h => ?_
  · cases b with
    | true => rw [if_pos rfl]; exact hb
    | false => rw [if_neg (by decide)]; exact se_c
  · revert h
    have key : (fun (x : V) H1 => ∃ c, x = .bl c ∧ (if c = true then tb else tC (.bl false)) σ H1 Q) = (fun x H1 => ∃ c, x = .bl c ∧ if c = true then tb σ H1 Q else Q (.bl false) H1) := by
      funext x H1
      refine propext ⟨fun ⟨c, h1, h2⟩ => ⟨c, h1, ?_⟩, fun ⟨c, h1, h2⟩ => ⟨c, h1, ?_⟩⟩
      · cases c with
        | true => rw [if_pos rfl] at h2 ⊢; exact h2
        | false => rw [if_neg (by decide)] at h2 ⊢; exact h2
      · cases c with
        | true => rw [if_pos rfl] at h2 ⊢; exact h2
        | false => rw [if_neg (by decide)] at h2 ⊢; exact h2
    intro h
    show ta σ H (fun x H1 => ∃ c, x = .bl c ∧ if c = true then tb σ H1 Q else Q (.bl false) H1)
    rw [← key]; exact h
theorem se_orV {ta tb : TE} {ma mb : M RV} (ha : SE K mg E ta ma) (hb : SE K mg E tb mb) : SE K mg E (tOrV ta tb) (dOrV ma mb) := by
  refine (se_bl (tk := fun c => if c = true then tC (.bl true) else tb) ha fun b => ?_).imp fun σ H Q h => ?_
  · cases b with
    | true => rw [if_pos rfl]; exact se_c
    | false => rw [if_neg (by decide)]; exact hb
  · have key : (fun (x : V) H1 => ∃ c, x = .bl c ∧ (if c = true then tC (.bl true) else tb) σ H1 Q) = (fun x H1 => ∃ c, x = .bl c ∧ if c = true then Q (.bl true) H1 else tb σ H1 Q) := by
      funext x H1
      refine propext ⟨fun ⟨c, h1, h2⟩ => ⟨c, h1, ?_⟩, fun ⟨c, h1, h2⟩ => ⟨c, h1, ?_⟩⟩
      · cases c with
        | true => rw [if_pos rfl] at h2 ⊢; exact h2
        | false => rw [if_neg (by decide)] at h2 ⊢; exact h2
      · cases c with
        | true => rw [if_pos rfl] at h2 ⊢; exact h2
        | false => rw [if_neg (by decide)] at h2 ⊢; exact h2
    show ta σ H (fun x H1 => ∃ c, x = .bl c ∧ if c = true then Q (.bl true) H1 else tb σ H1 Q)
    rw [← key]; exact h
def dTru (a : M RV) : M Bool := a.bind fun r => fun e => match (view e r).bind truD with
  | some b => .ok b e
  | none => .st
theorem st_tru {ta : TE} {ma : M RV} (ha : SE K mg E ta ma) : ST K mg E (fun σ H Q => ta σ H fun x H' => ∃ k, TruV K x H' k ∧ Q k H') (dTru ma) := by
  intro pv F H σ e as held Q c w
  refine ha pv F H σ e as held _ c (WE.bindE (W := WT K mg pv F held σ Q E) (fun z => z) w (fun _ _ z => z) fun r1 e1 v1 F1 H1 as1 tr1 s1 c1 rr1 w1 => ?_)
  cases q1 : view e1 r1 with
  | none => simp only [q1] at w1; exact w1.elim
  | some x =>
    simp only [q1] at w1
    have p1 := c1.seen rr1 (fun t ht => List.mem_append_left _ ht) q1
    cases q2 : truD x with
    | none => simp only [Option.bind, q2] at w1; exact w1.elim
    | some b =>
      simp only [Option.bind, q2] at w1
      exact ⟨b, truD_ok p1 q2, w1 F1 H1 as1 s1 c1.drop⟩
end
section
variable {X : Cx} {E : XS} {a b c : Expr} {ma mb mc : M RV} {pos : Pos}
theorem v_var {i : Nat} {x : Str} {p : Pos} (hN : X.N[i]? = some x) (hv : Vis X.env.scope x) (hd : (x == ("__debug__" : Str)) = false := by decide) (hcd : (x == ("__classdict__" : Str)) = false := by decide) : VE X E (.Name x p) (dVar i) := .mk (pe_var hN hv hd hcd) se_var
theorem v_int {i : Int} {j} : VE X E (.Constant (.int i) j pos) (dC (.int i)) := .mk pe_int se_c
theorem v_bl {k : Bool} {j} : VE X E (.Constant (.bool k) j pos) (dC (.bl k)) := .mk pe_bl se_c
theorem v_non {j} : VE X E (.Constant .none j pos) (dC .non) := .mk pe_non se_c
theorem v_str {s : Str} {j} : VE X E (.Constant (.str s) j pos) (dC (.str s)) := .mk pe_str se_c
theorem v_sub (ha : VE X E a ma) (hb : VE X E b mb) : VE X E (.BinOp a .Sub b pos) (dOp (fI (· - ·)) ma mb) := .mk (pe_op op_sub ha hb) (se_op opd_I se_w se_w)
theorem v_mul (ha : VE X E a ma) (hb : VE X E b mb) : VE X E (.BinOp a .Mult b pos) (dOp fMul ma mb) := .mk (pe_op op_mul ha hb) (se_op opd_mul se_w se_w)
theorem v_mod (ha : VE X E a ma) (hb : VE X E b mb) : VE X E (.BinOp a .Mod b pos) (dOp fMod ma mb) := .mk (pe_op op_mod ha hb) (se_op opd_mod se_w se_w)
theorem v_div (ha : VE X E a ma) (hb : VE X E b mb) : VE X E (.BinOp a .FloorDiv b pos) (dOp fDiv ma mb) := .mk (pe_op op_fdiv ha hb) (se_op opd_div se_w se_w)
theorem v_pow (ha : VE X E a ma) (hb : VE X E b mb) : VE X E (.BinOp a .Pow b pos) (dOp fPow ma mb) := .mk (pe_op op_pow ha hb) (se_op opd_pow se_w se_w)
theorem v_addI (ha : VE X E a ma) (hb : VE X E b mb) : VE X E (.BinOp a .Add b pos) (dOp (fI (· + ·)) ma mb) := .mk (pe_op op_add ha hb) (se_op opd_I se_w se_w)
theorem v_neg {i : Int} {j p} : VE X E (.UnaryOp .USub (.Constant (.int i) j p) pos) (dC (.int (-i))) := .mk (t := tUn (rU fun i => .int (-i)) (tC (.int i))) (pe_un un_neg pe_int) fun pv F H σ e as held Q c w =>
  ⟨i, rfl, w (.int (-i)) F H as _ (Same.refl _) (c.fz (show Rep X.K X.mg F (.int (-i)) (.int (-i)) from rfl)) rfl⟩
theorem v_lt (ha : VE X E a ma) (hb : VE X E b mb) : VE X E (.Compare a [.Lt] [b] pos) (dOp (fB fun i j => decide (i < j)) ma mb) := .mk (pe_cmpR op_lt ha hb (nomark _)) (se_op opd_B se_w se_w)
theorem v_eq (hu : X.A.units + 64 < cLine) (ha : VE X E a ma) (hb : VE X E b mb) : VE X E (.Compare a [.Eq] [b] pos) (dOp fEq ma mb) := .mk (pe_cmpR (op_eqP hu) ha hb (nomark _)) (se_op opd_eq se_w se_w)
theorem v_ne (hu : X.A.units + 64 < cLine) (ha : VE X E a ma) (hb : VE X E b mb) : VE X E (.Compare a [.NotEq] [b] pos) (dOp fNe ma mb) := .mk (pe_cmpR (op_neP hu) ha hb (nomark _)) (se_op opd_ne se_w se_w)
theorem t_lt (ha : VE X E a ma) (hb : VE X E b mb) : VT X E (.Compare a [.Lt] [b] pos) (dT (dOp (fB fun i j => decide (i < j)) ma mb)) := .mk (pt_cmpR op_lt ha hb (nomark _)) (st_test (se_op opd_B se_w se_w))
theorem t_gt (ha : VE X E a ma) (hb : VE X E b mb) : VT X E (.Compare a [.Gt] [b] pos) (dT (dOp (fB fun i j => decide (j < i)) ma mb)) := .mk (pt_cmpR op_gt ha hb (nomark _)) (st_test (se_op opd_B se_w se_w))
theorem t_ge (ha : VE X E a ma) (hb : VE X E b mb) : VT X E (.Compare a [.GtE] [b] pos) (dT (dOp (fB fun i j => decide (j ≤ i)) ma mb)) := .mk (pt_cmpR op_ge ha hb (nomark _)) (st_test (se_op opd_B se_w se_w))
theorem t_eq (hu : X.A.units + 64 < cLine) (ha : VE X E a ma) (hb : VE X E b mb) : VT X E (.Compare a [.Eq] [b] pos) (dT (dOp fEq ma mb)) := .mk (pt_cmpR (op_eqP hu) ha hb (nomark _)) (st_test (se_op opd_eq se_w se_w))
theorem t_ne (hu : X.A.units + 64 < cLine) (ha : VE X E a ma) (hb : VE X E b mb) : VT X E (.Compare a [.NotEq] [b] pos) (dT (dOp fNe ma mb)) := .mk (pt_cmpR (op_neP hu) ha hb (nomark _)) (st_test (se_op opd_ne se_w se_w))
theorem t_isN (ha : VE X E a ma) (hb : VE X E b mb) : VT X E (.Compare a [.Is] [b] pos) (dT (dOp fIsN ma mb)) := .mk (pt_cmpR op_isN ha hb (nomark _)) (st_test (se_op opd_isN se_w se_w))
theorem t_in (hu : X.A.units + 65 < cLine) (ha : VE X E a ma) (hb : VE X E b mb) (hm : behindInMarks .In b = false) : VT X E (.Compare a [.In] [b] pos) (dT (dOp fIn ma mb)) := .mk (pt_cmpR (op_inA hu) ha hb hm) (st_test (se_op opd_in se_w se_w))
theorem t_notIn (hu : X.A.units + 65 < cLine) (ha : VE X E a ma) (hb : VE X E b mb) (hm : behindInMarks .NotIn b = false) : VT X E (.Compare a [.NotIn] [b] pos) (dT (dOp fNotIn ma mb)) := .mk (pt_cmpR (op_notInA hu) ha hb hm) (st_test (se_op opd_notIn se_w se_w))
theorem t_leLe (ha : VE X E a ma) (hb : VE X E b mb) (hc : VE X E c mc) (hm : lastMarks [.LtE, .LtE] [b, c] = false := by with_unfolding_all rfl) : VT X E (.Compare a [.LtE, .LtE] [b, c] pos) (dT (dChain (fB fun i j => decide (i ≤ j)) (fB fun i j => decide (i ≤ j)) ma mb mc)) := .mk (pt_chain op_le op_le ha hb hc hm) (st_test (se_chain opd_B opd_B se_w se_w se_w))
theorem t_tru (ha : VE X E a ma) (he : ∀ whole, isTrue a X.env whole = (do let v ← whole; standAt a.pos; holding [v] (truthy v)) := by intro _; rfl) : VT X E a (dTru ma) := .mk (pt_truth ha he) (st_tru se_w)
variable {es : List Expr} {ta tb : M Bool} {mr : M (List RV)} {rest : List Expr}
def VW (X : Cx) (E : XS) (e : Expr) (m : M Bool) : Prop := PW X e (wT X.K X.mg E m)
theorem VW.mk {e : Expr} {t : TT} {m : M Bool} (h : PW X e t) (s : ST X.K X.mg E t m) : VW X E e m := ⟨fun wh pins s0 σ H Q I ⟨pv, F, e0, as, held, c, w⟩ => h.run wh pins s0 σ H Q I (s pv F H σ e0 as held Q c w)⟩
theorem VW.t {e : Expr} {m : M Bool} (h : VW X E e m) : VT X E e m := PW.pt h
theorem w_and1 (ha : VT X E a ta) : VW X E (.BoolOp .And [a] pos) ta := pw_and1 ha
theorem w_or1 (ha : VT X E a ta) : VW X E (.BoolOp .Or [a] pos) ta := pw_or1 ha
theorem w_and (ha : VT X E a ta) (hb : VW X E (.BoolOp .And (b :: rest) pos) tb) : VW X E (.BoolOp .And (a :: b :: rest) pos) (dAnd ta tb) := .mk (pw_and ha hb) (st_and st_w st_w)
theorem w_or (ha : VT X E a ta) (hb : VW X E (.BoolOp .Or (b :: rest) pos) tb) : VW X E (.BoolOp .Or (a :: b :: rest) pos) (dOr ta tb) := .mk (pw_or ha hb) (st_or st_w st_w)
theorem t_not (ha : VT X E a ta) : VT X E (.UnaryOp .Not a pos) (dNot ta) := .mk (pt_not ha) (st_not st_w)
theorem v_one {op} (h : VE X E a ma) : VE X E (.BoolOp op [a] pos) ma := pe_one h
theorem v_and (ha : VE X E a ma) (hb : VE X E (.BoolOp .And (b :: rest) pos) mb) : VE X E (.BoolOp .And (a :: b :: rest) pos) (dAndV ma mb) := .mk (pe_and ha hb) (se_andV se_w se_w)
theorem v_or (ha : VE X E a ma) (hb : VE X E (.BoolOp .Or (b :: rest) pos) mb) : VE X E (.BoolOp .Or (a :: b :: rest) pos) (dOrV ma mb) := .mk (pe_or ha hb) (se_orV se_w se_w)
theorem a_nil : VA X E [] dNil := .mk pa_nil sa_nil
theorem a_cons (ha : VE X E a ma) (hr : VA X E es mr) (hs : starEach (a :: es) X.env = (false, eval a X.env) :: starEach es X.env := by rfl) : VA X E (a :: es) (dCons ma mr) := .mk (pa_cons ha hr hs) (sa_cons se_w sa_w)
theorem v_lst (ha : VA X E es mr) : VE X E (.List es pos) (dLst mr) := .mk (pe_lst ha) (se_lst sa_w)
theorem v_tup {x1} (ha : VA X E es mr) : VE X E (.Tuple es x1 pos) (dTup mr) := .mk (pe_tup ha) (se_tup sa_w)
theorem v_ix (ha : VE X E a ma) (hb : VE X E b mb) (hs : PlainIx b) : VE X E (.Subscript a b pos) (dIx ma mb) := .mk (pe_ix ix_seq ha hb hs) (se_ix se_w se_w)
theorem v_len {p : Pos} {es : List Expr} {mr : M (List RV)} (hg : Gl X "len") (hm : X.mg "len" = none) (ha : VA X E (a :: es) mr) (he : starEach (a :: es) X.env = (false, eval a X.env) :: starEach es X.env := by rfl) (hpl : (backTo pos (starEach es X.env)).any (·.1) = false := by rfl) :
    VE X E (.Call (.Name "len" p) (a :: es) [] pos) (dCB lenD mr) := .mk (pe_callB call_len hg hm (by decide +kernel) ha (by decide) (by decide) he hpl) (se_cb cbd_len sa_w)
theorem v_callInt {p : Pos} {es : List Expr} {mr : M (List RV)} (hg : Gl X "int") (hm : X.mg "int" = none) (ha : VA X E (a :: es) mr) (he : starEach (a :: es) X.env = (false, eval a X.env) :: starEach es X.env := by rfl) (hpl : (backTo pos (starEach es X.env)).any (·.1) = false := by rfl) :
    VE X E (.Call (.Name "int" p) (a :: es) [] pos) (dCB intD mr) := .mk (pe_callTy call_int1 hg hm (by decide +kernel) ha (by decide) (by decide) he hpl) (se_cb cbd_int sa_w)
theorem v_sum {p : Pos} {es : List Expr} {mr : M (List RV)} (hc : X.calm = true) (hg : Gl X "sum") (hm : X.mg "sum" = none) (ha : VA X E (a :: es) mr) (he : starEach (a :: es) X.env = (false, eval a X.env) :: starEach es X.env := by rfl) (hpl : (backTo pos (starEach es X.env)).any (·.1) = false := by rfl) :
    VE X E (.Call (.Name "sum" p) (a :: es) [] pos) (dCB sumD mr) := .mk (pe_callB (cr_sum hc) hg hm (by decide +kernel) ha (by decide) (by decide) he hpl) (se_cb cbd_sum sa_w)
theorem v_max {p : Pos} {es : List Expr} {mr : M (List RV)} (hc : X.calm = true) (hg : Gl X "max") (hm : X.mg "max" = none) (ha : VA X E (a :: es) mr) (he : starEach (a :: es) X.env = (false, eval a X.env) :: starEach es X.env := by rfl) (hpl : (backTo pos (starEach es X.env)).any (·.1) = false := by rfl) :
    VE X E (.Call (.Name "max" p) (a :: es) [] pos) (dCB maxD mr) := .mk (pe_callB ((call_max2 hc).or (cr_max hc)) hg hm (by decide +kernel) ha (by decide) (by decide) he hpl) (se_cb cbd_max sa_w)
theorem v_call {CX : CXT} {k : Nat} {f : Addr} {fd : FuncData} {ps : List Str} {x : Str} {p : Pos} {md : List Bool} {φ : Fn} (F : FnOk X.prog X.w X.K X.mg X.base CX k f fd ps (spF X.K X.mg md.length φ)) (hr : Room k X.A) (hg : Gl X x) (hm : X.mg x = some (.ref f)) (hk : PySem.W.keepIn X.K (.ref f) = true) (hb : Binds X.K fd ps []) (hx : ∀ σ, PassesAt CX X σ fun cls d H => E cls d σ H)
    (ha : VA X E (a :: es) mr) (hdb : (x == ("__debug__" : Str)) = false := by decide) (he : starEach (a :: es) X.env = (false, eval a X.env) :: starEach es X.env := by rfl) (hpl : (backTo pos (starEach es X.env)).any (·.1) = false := by rfl) :
    VE X E (.Call (.Name x p) (a :: es) [] pos) (dCall md φ mr) := .mk (pe_callS F hr hg hm hk hb hx ha hdb he hpl) (se_call sa_w)
theorem v_callB {CX : CXT} {k n : Nat} {f : Addr} {fd : FuncData} {ps : List Str} {x : Str} {p : Pos} {φ : Fn} (F : FnOk X.prog X.w X.K X.mg X.base CX k f fd ps (spF X.K X.mg n φ)) (hr : Room k X.A) (hg : Gl X x) (hm : X.mg x = some (.ref f)) (hk : PySem.W.keepIn X.K (.ref f) = true) (hb : Binds X.K fd ps []) (hx : ∀ σ, PassesAt CX X σ fun cls d H => E cls d σ H)
    (ha : VA X E (a :: es) mr) (hdb : (x == ("__debug__" : Str)) = false := by decide) (he : starEach (a :: es) X.env = (false, eval a X.env) :: starEach es X.env := by rfl) (hpl : (backTo pos (starEach es X.env)).any (·.1) = false := by rfl) :
    VE X E (.Call (.Name x p) (a :: es) [] pos) (dCallB n φ mr) := .mk (pe_callS F hr hg hm hk hb hx ha hdb he hpl) (se_callB sa_w)
theorem v_app {i : Nat} {x : Str} {p p1 : Pos} (hN : X.N[i]? = some x) (hv : Vis X.env.scope x) (ha : VE X E a ma) (hs : starEach [a] X.env = (false, eval a X.env) :: starEach [] X.env := by rfl) (hd : (x == ("__debug__" : Str)) = false := by decide) (hcd : (x == ("__classdict__" : Str)) = false := by decide)
    (h : ∀ {to : TE} {t : TA}, PE X (.Name x p) to → PA X [a] t → PE X (.Call (.Attribute (.Name x p) "append" p1) [a] [] pos) (tBM X.K "list" rAppend to t)) : VE X E (.Call (.Attribute (.Name x p) "append" p1) [a] [] pos) (dApp i ma) :=
  .mk (h (pe_var hN hv hd hcd) (pa_cons ha pa_nil hs)) (se_app se_w)
end
section
variable {X : Cx} {E : XS} {s : Stmt} {ss rest : List Stmt} {m m' : M Fl} {e a b c : Expr} {me ma mb : M RV} {mc : M Bool} {pos : Pos}
theorem b_nil : VB X E [] dNext := .mk pss_nil ss_next
theorem b_cons (h1 : VS X E s m) (h2 : VB X E rest m') : VB X E (s :: rest) (dSeq m m') := .mk (pss_cons h1 h2) (ss_seq ss_w ss_w)
theorem b_one (h1 : VS X E s m) : VB X E [s] m := pss_one h1
theorem s_if {x y : List Stmt} (hc : VT X E c mc) (ha : VB X E x m) (hb : VB X E y m') : VS X E (.If c x y pos) (dIf mc m m') := .mk (ps_if hc ha hb) (ss_if st_w ss_w ss_w)
theorem s_ret (he : VE X E e me) : VS X E (.Return (some e) pos) (dRet me) := .mk (ps_ret he) (ss_ret se_w)
theorem s_expr (he : VE X E e me) (hs : swapsWith e none pos.line X.env = pure false := by rfl) : VS X E (.Expr e pos) (dDrop me) := .mk (ps_expr he hs) (ss_drop se_w)
theorem s_set {i : Nat} {x : Str} {p : Pos} (hN : X.N.Nodup) (hi : X.N[i]? = some x) (hx : Loc X.env.scope x) (he : VE X E e me) (hs : swapsWith e (some (.Name x p)) pos.line X.env = pure false := by rfl) (hf : X.fn x = true ∨ X.env.scope.names.lookup x = some .local := by first | exact .inl rfl | exact .inr rfl | assumption) :
    VS X E (.Assign [.Name x p] e pos) (dSet i me) := .mk (ps_set hN hi hx he hs hf) (ss_set se_w)
theorem s_setIx {j : Nat} {x : Str} {p p1 : Pos} (hN : X.N[j]? = some x) (hv : Vis X.env.scope x) (hb : VE X E b mb) (ha : VE X E a ma)
    (hg : ∀ {to ti : TE}, PE X (.Name x p) to → PE X b ti → PG X (.Subscript (.Name x p) b p1) (gSub to ti rSetL))
    (hs : swapsWithSole [.Subscript (.Name x p) b p1] a pos.line X.env = pure false := by rfl) (hw : swappedStores [.Subscript (.Name x p) b p1] a X.env = pure none := by rfl)
    (h1 : (assignEach [.Subscript (.Name x p) b p1] X.env).map (·.2) = [assign (.Subscript (.Name x p) b p1) X.env] := by rfl) (hd : (x == ("__debug__" : Str)) = false := by decide) (hcd : (x == ("__classdict__" : Str)) = false := by decide) :
    VS X E (.Assign [.Subscript (.Name x p) b p1] a pos) (dSetIx j mb ma) := .mk (ps_asg ha (hg (pe_var hN hv hd hcd) hb) hs hw h1) (ss_setIx se_w se_w)
def VI (X : Cx) (E : XS) (tg it : Expr) (m : M (List D)) : Prop := ∃ t, PI X tg it t ∧ SI X.K X.mg E t m
def wG (K : PySem.W.Frag) (mg : Str → Option Value) (L : List Nat) (g : Tg) : TG := fun v σ H Q => ∃ pv F e as held d e', Cf K mg pv F H σ e as held ∧ Rep K mg F v d ∧ g d e = some e' ∧ ∀ σ' as', (∀ vs, (∀ i ∈ L, i ∈ vs) → wipe σ' vs = wipe σ vs) → Cf K mg pv F H σ' e' as' held → Q σ' H
theorem sg_w {K : PySem.W.Frag} {mg : Str → Option Value} {L : List Nat} {g : Tg} : SG K mg L (wG K mg L g) g := fun pv F H σ e as held v d e' Q c r q k => ⟨pv, F, e, as, held, d, e', c, r, q, k⟩
def VG (X : Cx) (L : List Nat) (tg : Expr) (g : Tg) : Prop := PG X tg (wG X.K X.mg L g)
theorem VG.mk {L : List Nat} {tg : Expr} {t : TG} {g : Tg} (h : PG X tg t) (s : SG X.K X.mg L t g) : VG X L tg g := ⟨fun pins s0 σ H v u Q I r ⟨pv, F, e, as, held, d, e', c, rp, q, k⟩ => h.run pins s0 σ H v u Q I r (s pv F H σ e as held v d e' Q c rp q k)⟩
variable {tg it : Expr} {mi : M (List D)} {g : Tg} {L : List Nat} {mr : M (List RV)} {es : List Expr}
theorem i_any (he : VE X E e me) : VI X E tg e (dIt me) := ⟨_, pi_any he, si_any se_w⟩
theorem i_rng1 {p : Pos} (hg : Gl X "range") (hm : X.mg "range" = none) (ha : VA X E [a] mr) (hs : starEach [a] X.env = [(false, eval a X.env)] := by rfl) : VI X E tg (.Call (.Name "range" p) [a] [] pos) (dRng1 mr) := ⟨_, pi_range1 hg hm ha hs, si_rng1 sa_w⟩
theorem i_rng2 {p : Pos} (hg : Gl X "range") (hm : X.mg "range" = none) (ha : VA X E [a, b] mr) (hs : starEach [a, b] X.env = [(false, eval a X.env), (false, eval b X.env)] := by rfl) (hs2 : starEach [b] X.env = [(false, eval b X.env)] := by rfl) : VI X E tg (.Call (.Name "range" p) [a, b] [] pos) (dRng2 mr) := ⟨_, pi_range2 hg hm ha hs hs2, si_rng2 sa_w⟩
theorem i_enum {p tpos : Pos} {elts : List Expr} {kk : Nat} (hg : Gl X "enumerate") (hm : X.mg "enumerate" = none) (ha : VA X E [a] mr) (hs : starEach [a] X.env = [(false, eval a X.env)] := by rfl) : VI X E (.Tuple elts kk tpos) (.Call (.Name "enumerate" p) [a] [] pos) (dEnum mr) := ⟨_, pi_enum hg hm ha hs, si_enum sa_w⟩
theorem g_name {i : Nat} {x : Str} {p : Pos} (hN : X.N.Nodup) (hi : X.N[i]? = some x) (hx : Loc X.env.scope x) (hf : X.fn x = true ∨ X.env.scope.names.lookup x = some .local := by first | exact .inl rfl | exact .inr rfl | assumption) : VG X [i] (.Name x p) (gN i) := .mk (pg_name hN hi hx hf) sg_name
def VGs (X : Cx) (L : List Nat) (tgs : List Expr) (g : Tgs) : Prop := ∃ t, PGs X tgs t ∧ SGs X.K X.mg L t g
theorem gs_nil : VGs X [] [] gNo := ⟨_, pgs_nil, sgs_nil⟩
theorem gs_cons {L' : List Nat} {h : Tgs} (h1 : VG X L e g) (h2 : VGs X L' es h) (hs : (assignEach (e :: es) X.env).map (·.2) = assign e X.env :: (assignEach es X.env).map (·.2) := by rfl) : VGs X (L ++ L') (e :: es) (gCo g h) := by
  obtain ⟨u, p', s'⟩ := h2
  exact ⟨_, pgs_cons h1 p' hs, sgs_cons sg_w s'⟩
theorem g_tup {n k : Nat} {h : Tgs} (hc : X.calm = true) (h1 : VGs X L es h) (hn : (assignEach es X.env).length = n := by rfl) (hst : (assignEach es X.env).findIdx? (·.1) = none := by rfl) : VG X L (.Tuple es k pos) (gTp n h) := by
  obtain ⟨t, p, s⟩ := h1
  exact .mk (pg_tup hc p hn hst) (sg_tup s)
theorem s_for {body : List Stmt} (hp : PassesOwn (model X.prog X.w) X.A X.env X.xe) (hc : X.calm = true) (hi : VI X E tg it mi) (hg : VG X L tg g) (hb : VB X E body m) (hs : ∀ x, foldedSetIterable it X.env x = pure x := by intro _; rfl) : VS X E (.For tg it body [] pos) (dFor mi g m) := by
  obtain ⟨t, p, s⟩ := hi
  exact .mk (ps_for hp hc p hg hb hs) (ss_for s sg_w ss_w)
def VTs (X : Cx) (E : XS) (ifs : List Expr) (m : M Bool) : Prop := PTs X ifs (wT X.K X.mg E m)
theorem VTs.mk {ifs : List Expr} {t : TT} {m : M Bool} (h : PTs X ifs t) (s : ST X.K X.mg E t m) : VTs X E ifs m := ⟨fun pins s0 σ H Q I ⟨pv, F, e0, as, held, c, w⟩ => h.run pins s0 σ H Q I (s pv F H σ e0 as held Q c w)⟩
theorem ts_nil : VTs X E [] dYes := .mk pts_nil st_yes
theorem ts_one (h : VT X E c mc) : VTs X E [c] mc := pts_one h
theorem v_comp {elt : Expr} {ifs : List Expr} {scope sc : Scope} {own : List (Str × Nat)} {mt : M Bool} (hc : X.calm = true) (hN : X.N.Nodup) (hsc : X.env.scope = sc) (ok : BlkOk X.N sc scope own) (hL : ∀ i ∈ L, i ∈ own.map (·.2)) (hi : VI X E tg it mi)
    (hg : ∀ (s : Shared) (H : Hp) (C : Addr) (cl : List (Str × Addr)) (fp : List Addr), VG (X.blk s H scope (compEnvC scope cl C X.env) fp) L tg g) (ht : ∀ (s : Shared) (H : Hp) (C : Addr) (cl : List (Str × Addr)) (fp : List Addr), VTs (X.blk s H scope (compEnvC scope cl C X.env) fp) E0 ifs mt)
    (he : ∀ (s : Shared) (H : Hp) (C : Addr) (cl : List (Str × Addr)) (fp : List Addr), VE (X.blk s H scope (compEnvC scope cl C X.env) fp) E0 elt me) (hs : ∀ x, foldedSetIterable it X.env x = pure x := by intro _; rfl) :
    VE X E (.ListComp elt [⟨tg, it, ifs, 0⟩] scope pos) (dComp (own.map (·.2)) mi g mt me) := by
  subst hsc
  obtain ⟨t, p, s⟩ := hi
  exact .mk (pe_lc (g := wG X.K X.mg L g) (tt := wT X.K X.mg E0 mt) (te := wE X.K X.mg E0 me) hc hN p ok hg ht he hs) (se_comp s sg_w hL st_w se_w)
theorem s_setComp {i : Nat} {y : Str} {py spos : Pos} {elt : Expr} {ifs : List Expr} {scope sc : Scope} {own : List (Str × Nat)} {mt : M Bool} (hc : X.calm = true) (hN : X.N.Nodup) (hy : X.N[i]? = some y) (hyl : X.env.scope.names.lookup y = some .local)
    (hsw : swapsWith (.ListComp elt [⟨tg, it, ifs, 0⟩] scope pos) (some (.Name y py)) spos.line X.env = pure true) (hsc : X.env.scope = sc) (ok : BlkOk X.N sc scope own) (hL : ∀ i ∈ L, i ∈ own.map (·.2)) (hi : VI X E tg it mi)
    (hg : ∀ (s : Shared) (H : Hp) (C : Addr) (cl : List (Str × Addr)) (fp : List Addr), VG (X.blk s H scope (compEnvC scope cl C X.env) fp) L tg g) (ht : ∀ (s : Shared) (H : Hp) (C : Addr) (cl : List (Str × Addr)) (fp : List Addr), VTs (X.blk s H scope (compEnvC scope cl C X.env) fp) E0 ifs mt)
    (he : ∀ (s : Shared) (H : Hp) (C : Addr) (cl : List (Str × Addr)) (fp : List Addr), VE (X.blk s H scope (compEnvC scope cl C X.env) fp) E0 elt me) (hs : ∀ x, foldedSetIterable it X.env x = pure x := by intro _; rfl) :
    VS X E (.Assign [.Name y py] (.ListComp elt [⟨tg, it, ifs, 0⟩] scope pos) spos) (dSet i (dComp (own.map (·.2)) mi g mt me)) := by
  subst hsc
  obtain ⟨t, p, s⟩ := hi
  exact .mk (ps_setLc (g := wG X.K X.mg L g) (tt := wT X.K X.mg E0 mt) (te := wE X.K X.mg E0 me) hc hN hy hyl hsw p ok hg ht he hs) (ss_set (se_comp s sg_w hL st_w se_w))
end
end VF
set_option maxRecDepth 100000
set_option maxHeartbeats 4000000
namespace VF
set_option autoImplicit false
open PySem PySem.Spec PyProof.Rows L2
open AT (cells cellsL er ers)
theorem u64 {k : Nat} {A : Around} (r : Room k A) : A.units + 64 < cLine := by have := r.un; omega
theorem u65 {k : Nat} {A : Around} (r : Room k A) : A.units + 65 < cLine := by have := r.un; omega
theorem law_sp {K : PySem.W.Frag} {mg : Str → Option Value} {φ : Fn} {ns : List Int} {H : Hp} {a : Addr} {E : XK} (h : ∃ as', φ [.fz (.scr ns)] = .ok (.fz (.bl true)) as') (hS : SqL K H a (ns.map V.int)) : spF K mg 1 φ [.ref a] H (fun v _ => v = .bl true) E := by
  obtain ⟨as', h⟩ := h
  refine ⟨H, [.fz (.ref a) (.scr ns)], [], rfl, rfl, Same.refl _, ⟨fun c hc => absurd (show c ∈ ([] : List (Addr × HO)) from hc) List.not_mem_nil, ⟨⟨a, rfl, hS⟩, trivial⟩, List.nodup_nil⟩, ?_⟩
  rw [show ers [AT.fz (.ref a) (.scr ns)] = [SV.fz (.scr ns)] from rfl, h]
  intro v F' H' t ts' s s' e1 e2 _ _ g
  cases t with
  | fz u d =>
    have e3 : d = .bl true := by simpa [er] using e2
    subst e3
    have : u = .bl true := g.unfz.2
    rw [← e1]; exact this
  | ol _ _ => simp [er] at e2
  | oo _ _ _ _ _ _ => simp [er] at e2
  | od _ _ _ => simp [er] at e2
theorem passN {X : Cx} {E : L2.St → XK} : ∀ σ, PassesAt CX0 X σ (E σ) := fun _ _ _ _ _ _ _ c => False.elim c
end VF
set_option maxRecDepth 100000
set_option maxHeartbeats 4000000
namespace VF
set_option autoImplicit false
open PySem PySem.Spec PyProof.Rows L2
open AT (cells cellsL er ers)
variable {K : PySem.W.Frag} {mg : Str → Option Value} {E : XS}
def WO (K : PySem.W.Frag) (mg : Str → Option Value) (pv : List (Nat × V)) (F : Hp) (held : List AT) (σ : L2.St) (Q : Option Int → Hp → Prop) (E : XS) : R (Option Int) → Prop
  | .st => False
  | .ok o e' => ∀ F' H' as', Same F F' → Cf K mg pv F' H' σ e' as' held → Q o H'
  | .ex x e' => WX K mg pv F held E x e'
def SO (K : PySem.W.Frag) (mg : Str → Option Value) (E : XS) (t : TO) (m : M (Option Int)) : Prop :=
  ∀ (pv : List (Nat × V)) (F H : Hp) (σ : L2.St) (e : VF.Env) (as : List (Option AT)) (held : List AT) (Q : Option Int → Hp → Prop), Cf K mg pv F H σ e as held → WO K mg pv F held σ Q E (m e) → t σ H Q
theorem WO.bindO {pv : List (Nat × V)} {F : Hp} {held : List AT} {σ : L2.St} {e : VF.Env} {α : Type} {f : Option Int → M α} {m : M (Option Int)} {W : R α → Prop} (hs : ¬ W .st) (h : W ((m e).bind f)) {P : Option Int → Hp → Prop}
    (hx : ∀ x e', W (.ex x e') → WX K mg pv F held E x e')
    (k : ∀ b e' F' H' as', Same F F' → Cf K mg pv F' H' σ e' as' held → W (f b e') → P b H') : WO K mg pv F held σ P E (m e) := by
  cases q : m e with
  | st => rw [q] at h; exact absurd h hs
  | ok r e' => rw [q] at h; exact fun F' H' as' s c => k r e' F' H' as' s c h
  | ex x e' => rw [q] at h; exact hx x e' h
def dNoPart : M (Option Int) := fun e => .ok none e
def dPart (a : M RV) : M (Option Int) := a.bind fun r e => match view e r with
  | some (.int i) => .ok (some i) e
  | _ => .st
theorem so_none : SO K mg E tNoPart dNoPart := fun pv F H σ e as held Q c w => w F H as (Same.refl _) c
theorem so_some {t : TE} {m : M RV} (h : SE K mg E t m) : SO K mg E (tPart t) (dPart m) := by
  intro pv F H σ e as held Q c w
  refine h pv F H σ e as held _ c (WE.bindE (W := WO K mg pv F held σ Q E) (fun z => z) w (fun _ _ z => z) fun r1 e1 v1 F1 H1 as1 tr1 s1 c1 rr1 w1 => ?_)
  cases q1 : view e1 r1 with
  | none => simp only [q1] at w1; exact w1.elim
  | some x =>
    cases x with
    | int i =>
      simp only [q1] at w1
      have p1 := c1.seen rr1 (fun t ht => List.mem_append_left _ ht) q1
      exact ⟨i, p1, w1 F1 H1 as1 s1 c1.drop⟩
    | _ => simp only [q1] at w1; exact w1.elim
def cutD (ds : List D) (lo hi : Option Int) : List D := (ds.drop (HT.sIx ds.length 0 lo)).take (HT.sIx ds.length ds.length hi - HT.sIx ds.length 0 lo)
theorem reps_cut {F : Hp} {vs : List V} {ds : List D} (h : Reps K mg F vs ds) (lo hi : Option Int) : Reps K mg F (cutV vs lo hi) (cutD ds lo hi) := by
  unfold cutV cutD
  rw [h.length]
  exact (h.drop _).take _
def dSl (a : M RV) (l h : M (Option Int)) : M RV := a.bind fun r e => match frzR r e with
  | some (.lst ds, e1) => (l e1).bind fun lo e2 => (h e2).bind fun hi e3 => .ok (.own (.ol ((cutD ds lo hi).map .fz))) e3
  | _ => .st
theorem se_slice {te : TE} {tl th : TO} {ma : M RV} {ml mh : M (Option Int)} (ha : SE K mg E te ma) (hl : SO K mg E tl ml) (hh : SO K mg E th mh) : SE K mg E (tSl (rSlL K) te tl th) (dSl ma ml mh) := by
  intro pv F H σ e as held Q c w
  refine ha pv F H σ e as held _ c (WE.bindE (W := WE K mg pv F held σ Q E) (fun z => z) w (fun _ _ z => z) fun r e1 v1 F1 H1 as1 tr1 s1 c1 rr1 w1 => ?_)
  cases q : frzR r e1 with
  | none => simp only [q] at w1; exact w1.elim
  | some pr =>
    obtain ⟨d, e2⟩ := pr
    cases d with
    | lst ds =>
      simp only [q] at w1
      obtain ⟨F2, as2, s2, c2, rv⟩ := c1.frzR rr1 q
      refine hl pv F2 H1 σ e2 as2 held _ c2 (WO.bindO (W := WE K mg pv F held σ Q E) (fun z => z) w1 (fun _ _ z => WX.mono (s1.trans s2) z) fun lo e3 F3 H3 as3 s3 c3 w3 => ?_)
      refine hh pv F3 H3 σ e3 as3 held _ c3 (WO.bindO (W := WE K mg pv F held σ Q E) (fun z => z) w3 (fun _ _ z => WX.mono ((s1.trans s2).trans s3) z) fun hi e4 F4 H4 as4 s4 c4 w4 => ?_)
      obtain ⟨a, vs, e, h1, h2⟩ := Rep.same (s3.trans s4) rv
      refine ⟨a, vs, e, SqL.of (c4.s _ _ h1), fun p hp => ?_⟩
      obtain ⟨t, e1, e2', c5⟩ := c4.newL (reps_cut h2 lo hi) hp
      exact w4 (.ref p) F4 _ as4 [t] (((s1.trans s2).trans s3).trans s4) c5 ⟨t, rfl, e1, e2'⟩
    | _ => simp only [q] at w1; exact w1.elim
section
variable {X : Cx} {a b c : Expr} {ma mb mc : M RV} {pos : Pos}
theorem v_slTo {p2 : Pos} (ha : VE X E a ma) (hb : VE X E b mb) : VE X E (.Subscript a (.Slice none (some b) none p2) pos) (dSl ma dNoPart (dPart mb)) := .mk (pe_slice sl_list ha po_none (po_some hb)) (se_slice se_w so_none (so_some se_w))
theorem v_slFrom {p2 : Pos} (ha : VE X E a ma) (hb : VE X E b mb) : VE X E (.Subscript a (.Slice (some b) none none p2) pos) (dSl ma (dPart mb) dNoPart) := .mk (pe_slice sl_list ha (po_some hb) po_none) (se_slice se_w (so_some se_w) so_none)
end
end VF
set_option maxRecDepth 100000
set_option maxHeartbeats 4000000
namespace VF
set_option autoImplicit false
open PySem PySem.Spec PyProof.Rows L2
open AT (cells cellsL er ers)
section
variable {K : PySem.W.Frag} {mg : Str → Option Value} {E : XS}
def dAddL (a b : M RV) : M RV := a.bind fun r e => match frzR r e with
  | some (.lst ds, e1) => (b e1).bind fun q e2 => (match frzR q e2 with
    | some (.lst es, e3) => if ds.length + es.length ≤ sizeLine then .ok (.own (.ol ((ds ++ es).map .fz))) e3 else .st
    | _ => .st)
  | _ => .st
theorem se_addL {ta tb : TE} {ma mb : M RV} (ha : SE K mg E ta ma) (hb : SE K mg E tb mb) : SE K mg E (tOp rCat ta tb) (dAddL ma mb) := by
  intro pv F H σ e as held Q c w
  refine ha pv F H σ e as held _ c (WE.bindE (W := WE K mg pv F held σ Q E) (fun z => z) w (fun _ _ z => z) fun r e1 v1 F1 H1 as1 tr1 s1 c1 rr1 w1 => ?_)
  cases q : frzR r e1 with
  | none => simp only [q] at w1; exact w1.elim
  | some pr =>
    obtain ⟨d, e2⟩ := pr
    cases d with
    | lst ds =>
      simp only [q] at w1
      obtain ⟨F2, as2, s2, c2, rv⟩ := c1.frzR rr1 q
      refine hb pv F2 H1 σ e2 as2 held _ c2 (WE.bindE (W := WE K mg pv F held σ Q E) (fun z => z) w1 (fun _ _ z => WX.mono (s1.trans s2) z) fun r3 e3 v3 F3 H3 as3 tr3 s3 c3 rr3 w3 => ?_)
      cases q3 : frzR r3 e3 with
      | none => simp only [q3] at w3; exact w3.elim
      | some pr3 =>
        obtain ⟨d3, e4⟩ := pr3
        cases d3 with
        | lst es =>
          simp only [q3] at w3
          obtain ⟨F4, as4, s4, c4, rv4⟩ := c3.frzR rr3 q3
          by_cases hz : ds.length + es.length ≤ sizeLine
          · rw [if_pos hz] at w3
            obtain ⟨a, vs, e, h1, h2⟩ := Rep.same (s3.trans s4) rv
            obtain ⟨b, us, e', k1, k2⟩ := rv4
            refine ⟨a, b, vs, us, e, e', c4.s _ _ h1, c4.s _ _ k1, by rw [h2.length, k2.length]; exact hz, fun p hp => ?_⟩
            obtain ⟨t, g1, g2, c5⟩ := c4.newL (h2.append k2) hp
            exact w3 (.ref p) F4 _ as4 [t] (((s1.trans s2).trans s3).trans s4) c5 ⟨t, rfl, g1, g2⟩
          · rw [if_neg hz] at w3; exact w3.elim
        | _ => simp only [q3] at w3; exact w3.elim
    | _ => simp only [q] at w1; exact w1.elim
end
section
variable {X : Cx} {E : XS} {a b : Expr} {ma mb : M RV} {pos : Pos} {mr : M (List RV)}
theorem v_addL (ha : VE X E a ma) (hb : VE X E b mb) : VE X E (.BinOp a .Add b pos) (dAddL ma mb) := .mk (pe_op op_cat ha hb) (se_addL se_w se_w)
end
end VF
set_option maxRecDepth 100000
set_option maxHeartbeats 4000000
namespace VF
set_option autoImplicit false
open PySem PySem.Spec PyProof.Rows L2
open NdefX (NF NScope CellsAt startF envF ncx inv_startN)
abbrev mwO (a : Addr) : Obj := PySem.W.kxs_mw "ValueError.__init__" a
section
variable {X : Cx} {pins : List (Addr × Obj)} {σ : L2.St} {H : Hp} {s : Shared} {a C u : Addr} {A : Around} {E : Value → Shared → Prop}
theorem inv_tail {p : Addr × Obj} (I : Inv X (p :: pins) σ H s) : Inv X pins σ H s := I.pins_of fun q hq => I.pin q (List.mem_append_right _ (List.mem_cons_of_mem _ hq))
theorem mw_call {us : List Value} {Q : Value → Shared → Prop} (T : OexC X.K C) (I : Inv X pins σ H s) (ea : H a = some (exo a C none)) (hu : s.heap.get? u = some (mwO a)) (hl : us.length ≤ sizeLine) (h : ∀ s', Inv X pins σ H s' → Q .none s') :
    wpAny (model X.prog X.w) A (call (.ref u) us) Q E s := by
  obtain ⟨nm, q, N, bs, bm, sn, sub, ab, col, dd, k0, k1, k2, k3, k5, hC, hbm⟩ := T.cls
  obtain ⟨t1, ho⟩ := exo_at I.hok ea
  have hCh := I.kIn _ _ hC
  obtain ⟨hp, g, d, t, os⟩ := s
  have fin : ∀ h', (∀ b o, b ≠ a → hp.get? b = some o → h'.get? b = some o) → h'.get? a = some (HandSPX.excO C hp.objs.size) → Q .none ⟨h', g, d, t, os⟩ := fun h' k hx => by
    have J := I.write (t' := t) (x := a) (e := a) (o := exo a C none) (by rw [ea]; exact True.intro) (.inl rfl) k ⟨_, hx⟩ (exo_ok hx)
    have eu : upd H a (exo a C none) = H := funext fun b => by
      by_cases hb : b = a
      · subst hb; rw [upd_same, ea]
      · rw [upd_ne hb]
    rw [eu] at J
    exact h _ J
  refine wpAny_call (codeAny_of_tree ?_)
  show wpAny _ A.in1 (callAny (.ref u) ⟨us, []⟩) _ _ _
  unfold callAny
  refine wpAny_bind (wpAny_load hu ?_)
  have c1 : (Value.type "method-wrapper" == Value.type "method" || Value.type "method-wrapper" == Value.type "builtin_function_or_method" || Value.type "method-wrapper" == Value.type "method-wrapper") = true := by decide
  simp only [mwO, PySem.W.kxs_mw, c1, if_true]
  refine PySem.W.KFB.if_so (by decide) ?_
  refine wpAny_bind (PySem.W.check_bound_init F.excBase_ValueError.toExcCallFacts hCh ho rfl ?_)
  refine wpAny_bind (wpAny_pure (wpAny_pure ⟨plainId_quiet F.excBase_ValueError.init.plain _, codeAny_builtin F.excBase_ValueError.initEntry ?_⟩))
  exact PySem.W.exc_init_tree (cls := .ref C) (t0 := t1) (dv := none) (c2 := .none) (c3 := .none) (b4 := .bool false) ho hl fun h' k e' _ => fin h' k e'
end
structure IniK (P : Program) (K : PySem.W.Frag) (mg : Str → Option Value) (C fI cc cda : Addr) (F : NF) : Prop where
  T : OexC K C
  lk : ∃ oc od dV kV doc pm an ct osl, K.lookup fI = some ⟨oc, od, .func (PySem.W.fnX F.name F.qual F.params F.body F.scope [(("__class__" : Str), cc)] dV kV doc pm an (.ref cda) ct), osl⟩
  hcd : PySem.W.codeIn K (.ref cda) F.qual = true
  code : ∃ ccl cdd vs ccs file tf, K.lookup cda = some ⟨ccl, cdd, .fields vs, ccs⟩ ∧ vs[2]? = some (.str file tf) ∧ ((P.main.file : Str) == file) = true
  cell : ∃ cl cld csl, K.lookup cc = some ⟨cl, cld, .cell (some (.ref C)), csl⟩
  isC : ∃ cd, PySem.W.clsIn K C = some cd
  sub : PySem.W.mroIn K C (.ref C) = some true
  sup : mg "super" = none
  top : (P.main.scope.names.lookup ("super" : Str)).isSome = false
  opq : PySem.W.nsIn K cStatics "thirdparty.any" = some none
  mro : PySem.W.ks_superIn K C C "__init__" = some (some (.builtin "ValueError.__init__"))
  subV : PySem.W.subIn K (.ref C) (.type "ValueError") = some true
  iC : PySem.W.findIn K (.ref C) "__init__" = some (some (.ref fI))
  tI : PySem.W.typeIn K (.ref fI) = some (.type "function")
  cl : F.cl = [(("__class__" : Str), cc)]
  c : F.c = cda
section
variable {X : Cx} {pins : List (Addr × Obj)} {σ : L2.St} {H : Hp} {s : Shared} {a C fI cc cda : Addr} {F : NF} {D : Ends} {e : Expr} {te : TE} {p0 p1 p2 pos pos' : Pos} {body : List Stmt} {ar : Arg}
theorem super_init (T : IniK X.prog X.K X.mg C fI cc cda F) (hp : (F.params.posonlyargs ++ F.params.args).head? = some ar) (har : ar.arg = "self") (hfu : X.env.func = some fI) (hco : X.env.code = .ref cda)
    (hks : X.env.kindOf "super" = some .globalImplicit) (hkc : X.env.kindOf "__class__" = some .free) (hka : X.env.kindOf "self" = some .local) (h0 : X.N[0]? = some ("self" : Str))
    (hc : X.env.cells.lookup ("__class__" : Str) = some cc) (s0 : σ[0]? = some (some (.ref a))) (I : Inv X pins σ H s) (ea : H a = some (exo a C none)) (he : PE X e te) (h : te σ H fun _ H1 => H1 a = some (exo a C none) ∧ D.nx σ H1)
    (hse : starEach [e] X.env = (false, eval e X.env) :: starEach [] X.env := by rfl)
    {pl : Sem Bool} (hev : eval (.Call (.Attribute (.Call (.Name "super" p0) [] [] p1) "__init__" p2) [e] [] pos) X.env = (do
      let ov ← attributeBase (.Call (.Name "super" p0) [] [] p1) "__init__" X.env (eval (.Call (.Name "super" p0) [] [] p1) X.env)
      standAt p2.atName
      let (f, first) ← holding [ov] (getMethod ov "__init__" pl)
      callWith pos f first (backTo pos (starEach [e] X.env)) []) := by rfl) :
    PySem.wpAt (model X.prog X.w) X.A (.func body X.env) (exec (.Expr (.Call (.Attribute (.Call (.Name "super" p0) [] [] p1) "__init__" p2) [e] [] pos) pos') X.env) (SP X pins D) X.xe s := by
  obtain ⟨oc, od, dV, kV, doc, pm, an, ct, osl, lk⟩ := T.lk
  obtain ⟨ccl, cdd, vs, ccs, file, tf, lc, hvs, hfile⟩ := T.code
  obtain ⟨cl, cld, csl, lcell⟩ := T.cell
  obtain ⟨cd, hcd⟩ := T.isC
  have KX := I.kIn
  obtain ⟨oC, hC1, hC2⟩ : ∃ oC, s.heap.get? C = some oC ∧ oC.data = .cls cd := by
    have hcd' := hcd
    unfold PySem.W.clsIn at hcd'
    split at hcd'
    · rename_i z1 z2 z3 z4 z5
      cases hcd'
      exact ⟨_, KX _ _ z5, rfl⟩
    · cases hcd'
  refine ks_wpAt_Expr_any ?_ I.quiet (by rfl)
  refine ks_wpAt_MethodCall ?_ hev
  refine ks_wpAt_super_base hks hkc rfl hfu (KX _ _ lk) rfl hp hco (KX _ _ lc) rfl hvs hfile T.top ?_
  obtain ⟨mb, hb1, hb2⟩ := I.mod.blt
  refine PySem.W.ks_loadName_global I.ok.kind hks (Calls.loadGlobal_builtin (by rw [I.ok.glob]; exact I.mod.glob.keeps I.bk) T.sup (by rw [I.ok.blt]; exact hb1.keeps I.bk) ((hb2 "super" (by decide)).trans (show bootBuiltins "super" = some (.type "super") by decide +kernel)) ⟨rfl, ?_⟩)
  refine wpAny_loadName_free I.ok.kind hkc hc ⟨_, KX _ _ lcell, rfl⟩ ?_
  rw [har]
  obtain ⟨m, hn, hl⟩ := I.loc
  obtain ⟨us, rs, lo⟩ := hl 0 "self" (.ref a) h0 s0 (.inl hka)
  obtain rfl : us = Value.ref a := rs
  have hm : m "self" = some (.ref a) := by
    rcases lo with ⟨_, z⟩ | ⟨z, _⟩
    · exact z
    · rw [hka] at z; rcases z with z | z <;> cases z
  refine wpAny_loadName_local I.ok.kind hka hn hm ?_
  refine ks_wpAny_isType_cls hC1 hC2 ⟨rfl, ?_⟩
  obtain ⟨t1, ho⟩ := exo_at I.hok ea
  have m1 : PySem.W.alongIn X.K "__init__" ((cd.mro.dropWhile (· != .ref C)).drop 1) = some (some (.builtin "ValueError.__init__")) := by
    have z := T.mro
    unfold PySem.W.ks_superIn at z
    rw [hcd] at z
    exact z
  obtain ⟨hp0, g, d, t, os⟩ := s
  refine ks_wpAny_call_super hC1 hC2 ho rfl (fun c z => nomatch z) (PySem.W.looks_mroIn KX T.sub) fun h' e' k => ?_
  have I1 : Inv X pins σ H ⟨h', g, d, t, os⟩ := I.kept (t' := t) k
  have J : PySem.W.InstAt h' a _ C none := ⟨k _ _ ho, rfl, rfl, trivial⟩
  refine PySem.W.kxs_getMethod PySem.W.kxs_ValueError e' (PySem.W.looks_opaque I1.kIn T.opq) ((PySem.W.looks_clsIn I1.kIn hcd).andThen .now) rfl I1.kIn m1 (J.type.andThen (PySem.W.looks_subIn I1.kIn T.subV)) (PySem.W.ks_ne I1.kIn J hcd) (by decide) ?_
  have kp : ∀ b o, h'.get? b = some o → (h'.push (mwO a)).get? b = some o := fun b o e => Heap.get?_push_of_some _ e
  have hu : (h'.push (mwO a)).get? h'.objs.size = some (mwO a) := Heap.get?_push_at rfl rfl
  have I2 : Inv X pins σ H ⟨h'.push (mwO a), g, d, t + 1, os⟩ := I1.kept (t' := t + 1) kp
  have I3 : Inv X ((h'.objs.size, mwO a) :: pins) σ H ⟨h'.push (mwO a), g, d, t + 1, os⟩ := I2.pins_of fun p hpm => (List.mem_cons.mp hpm).elim
    (fun z => by
      rw [z]
      exact ⟨hu, I1.hok.fresh (Nat.le_refl _), Nat.ne_of_gt I1.lt, fun hm => by
        obtain ⟨_, o, ho', _⟩ := I1.funs.mem hm
        exact absurd (Heap.lt_size ho') (Nat.lt_irrefl _), fun v z => nomatch z⟩)
    fun z => I2.pin p (List.mem_append_right _ z)
  show wpAny _ _ (callWith pos (.ref h'.objs.size) [] (backTo pos (starEach [e] X.env)) []) _ _ _
  refine PySem.W.kxs_callWith (i := "ValueError.__init__") (x := a) (by rw [hse]; rfl) ?_
  have run := he.run ((h'.objs.size, mwO a) :: pins) _ σ H _ I3 h
  rw [hse]
  refine Calls.evalArgs_plain ?_
  refine Calls.spliced_cons (thn run fun u s3 hh => ?_)
  obtain ⟨v, H1, I4, r4, ea1, q⟩ := hh
  refine Calls.spliced_nil ?_
  have hu4 := (I4.pin (h'.objs.size, mwO a) (List.mem_append_right _ List.mem_cons_self)).1
  exact ⟨hu4, mw_call T.T I4 ea1 hu4 (by show 1 ≤ sizeLine; rw [sizeLine_eq]; omega) fun s' J => ⟨σ, H1, inv_tail J, q⟩⟩
end
section
variable {CX : CXT} {P : Program} {w : World} {K : PySem.W.Frag} {mg : Str → Option Value} {base : Heap} {N ps : List Str} {F : NF} {k : Nat} {sp : Sp} {C fI cc cda : Addr} {fd : FuncData} {e : Expr} {rest : List Stmt} {p0 p1 p2 pos pos' : Pos} {ar : Arg}
theorem lookup1 {x y : Str} {c d : Addr} (h : List.lookup y [(x, c)] = some d) : y = x ∧ d = c := by
  by_cases q : y = x
  · subst q
    simp [List.lookup] at h
    exact ⟨rfl, h.symm⟩
  · have z : (y == x) = false := by simpa using q
    simp [List.lookup, z] at h
theorem ini_fn (T : IniK P K mg C fI cc cda F) (S : NScope N ps ["__class__"] F.scope) {oc dV kV doc pm ct : Value} {od an : Option Addr} {osl : Array (Option Value)} (hfd : fd = PySem.W.fnX F.name F.qual F.params F.body F.scope [(("__class__" : Str), cc)] dV kV doc pm an (.ref cda) ct) (lk : K.lookup fI = some ⟨oc, od, .func fd, osl⟩)
    (hp : (F.params.posonlyargs ++ F.params.args).head? = some ar) (har : ar.arg = "self") (hks : F.scope.names.lookup ("super" : Str) = some .globalImplicit) (hka : F.scope.names.lookup ("self" : Str) = some .local) (h0 : N[0]? = some ("self" : Str))
    (hb : F.body = .Expr (.Call (.Attribute (.Call (.Name "super" p0) [] [] p1) "__init__" p2) [e] [] pos) pos' :: rest) (len : ∀ vs H Q E, sp vs H Q E → vs.length = ps.length)
    (hse : ∀ env : PySem.Env, starEach [e] env = (false, eval e env) :: starEach [] env) {pl : PySem.Env → Sem Bool} (hev : ∀ env : PySem.Env, eval (.Call (.Attribute (.Call (.Name "super" p0) [] [] p1) "__init__" p2) [e] [] pos) env = (do
      let ov ← attributeBase (.Call (.Name "super" p0) [] [] p1) "__init__" env (eval (.Call (.Name "super" p0) [] [] p1) env)
      standAt p2.atName
      let (f, first) ← holding [ov] (getMethod ov "__init__" (pl env))
      callWith pos f first (backTo pos (starEach [e] env)) []))
    (hbody : ∀ (A : Around) (outer : List PySem.Env) (s : Shared) (H : Hp) (vs : List V) (Q : VK) (E : XK), sp vs H Q E → ∃ (a : Addr) (te : TE) (u : TS), vs[0]? = some (.ref a) ∧ H a = some (exo a C none) ∧ PE (ncx CX P w K mg base N F fI A outer s H E) e te ∧ PSs (ncx CX P w K mg base N F fI A outer s H E) rest u ∧
      te (startF N vs [some (.ref C)]) H fun _ H1 => H1 a = some (exo a C none) ∧ u { nx := fun _ H' => Q .non H', rt := Q } (startF N vs [some (.ref C)]) H1) :
    FnOk P w K mg base CX (k + 1) fI fd ps sp := by
  subst hfd
  refine ⟨len, fun A outer s H args us vs Q E hr e0 hbd rv hsp => ?_⟩
  have hl := len _ _ _ _ hsp
  have KX : K.In s.heap := e0.mod.kin.keeps fun b o e => (e0.bs b o e).1
  have lim : s.heap.NoLimit := e0.mod.nolimit.keeps fun b o e => (e0.bs b o e).1
  obtain ⟨cl, cld, csl, lcell⟩ := T.cell
  have C0 : CellsAt F.cl ["__class__"] [some (.ref C)] s.heap H := by
    rw [T.cl]
    have hcell : s.heap.IsCell cc (some (.ref C)) := ⟨_, KX _ _ lcell, rfl⟩
    refine ⟨rfl, fun y c e => ?_, fun x y c e1 e2 => ?_, fun i y e => ?_⟩
    · obtain ⟨_, rfl⟩ := lookup1 e
      exact ⟨(e0.bs _ _ (e0.mod.kin _ _ lcell)).2, _, hcell⟩
    · rw [(lookup1 e1).1, (lookup1 e2).1]
    · cases i with
      | succ i => simp at e
      | zero =>
        have e' : y = "__class__" := by simpa using e.symm
        subst e'
        refine ⟨cc, by simp [List.lookup], fun v hv => ?_⟩
        have hv' : v = .ref C := by simpa using hv.symm
        subst hv'
        exact ⟨.ref C, rfl, hcell⟩
  refine codeAny_call_function hr.depth (KX _ _ lk) rfl S.co S.gen rfl (PySem.W.codeRec_of KX T.hcd) (hbd _ _ _ _ ?_)
  refine wpAny_newFunctionEnv S.nocell (fun ⟨n, _⟩ hy => S.par n (List.of_mem_zip hy).1) (fun h₁ hns hsb => ⟨lim.fresh _ hsb, ?_⟩) S.kind
  have ecx : callEnv (PySem.W.fnX F.name F.qual F.params F.body F.scope [(("__class__" : Str), cc)] dV kV doc pm an (.ref cda) ct) s.heap.objs.size fI = envF F fI s.heap.objs.size := by
    show PySem.W.envX F.qual F.scope s.heap.objs.size fI (.ref cda) [(("__class__" : Str), cc)] = PySem.W.envX F.qual F.scope s.heap.objs.size fI (.ref F.c) F.cl
    rw [T.cl, T.c]
  show codeAny _ _ (.func F.body (callEnv (PySem.W.fnX F.name F.qual F.params F.body F.scope [(("__class__" : Str), cc)] dV kV doc pm an (.ref cda) ct) s.heap.objs.size fI)) _ _
  rw [ecx]
  refine ks_codeAny_funcAt ?_
  have kp : ∀ b o, s.heap.get? b = some o → h₁.get? b = some o := fun b o e => hsb.extBut b o (Nat.ne_of_lt (Heap.lt_size e)) (Heap.get?_push_of_some _ e)
  obtain ⟨a, te, u, ha, ea, he, hrest, hq⟩ := hbody A outer s H vs Q E hsp
  have I : Inv (ncx CX P w K mg base N F fI A outer s H E) [] (startF N vs [some (.ref C)]) H { s with heap := h₁, toks := s.toks + (ps.zip us).length } := inv_startN S hr.hd e0 hl rv C0 hns kp
  have fin : ∀ {σ' : L2.St} {H' : Hp} {v : V} {u : Value} {s' : Shared}, Inv (ncx CX P w K mg base N F fI A outer s H E) [] σ' H' s' → L2.RelV v u → Q v H' → CE outer P w H s Q u s' :=
    fun {σ' H' v u s'} J rv q => ⟨v, H', J.os, J.bare, J.base, J.hok, rv, q⟩
  have s0 : (startF N vs [some (.ref C)])[0]? = some (some (.ref a)) := by
    unfold startF
    have hlt : 0 < vs.length := (List.getElem?_eq_some_iff.mp ha).1
    rw [List.getElem?_append_left (by rw [List.length_map]; exact hlt), List.getElem?_map, ha]
    rfl
  have first := super_init (X := ncx CX P w K mg base N F fI A outer s H E) (D := { nx := u { nx := fun _ H' => Q .non H', rt := Q }, rt := Q }) (body := F.body) (p0 := p0) (p1 := p1) (p2 := p2) (pos := pos) (pos' := pos') T hp har rfl (by show Value.ref F.c = _; rw [T.c])
    hks (S.frk _ (List.mem_singleton.mpr rfl)) hka h0 (by show List.lookup _ F.cl = _; rw [T.cl]; simp [List.lookup]) s0 I ea he hq (hse _) (hev _)
  show PySem.wpAt _ _ _ (execs F.body _) _ _ _
  rw [hb] at first ⊢
  refine ks_wpAt_execs_cons (ks_wpAt_mono first (fun fl s' hs => ?_) fun e s' hs => hs)
  cases fl with
  | ret u => obtain ⟨v, σ', H', J, rv, q⟩ := hs; exact fin J rv q
  | brk => obtain ⟨_, _, _, q⟩ := hs; exact False.elim q
  | cont => obtain ⟨_, _, _, q⟩ := hs; exact False.elim q
  | next =>
    obtain ⟨σ', H', J, q⟩ := hs
    refine PySem.wpAt_of_wpAny (wpAny_mono (hrest.run [] _ σ' H' _ J q) (fun fl s' hs => ?_) fun e s' hs => hs)
    cases fl with
    | ret u => obtain ⟨v, σ', H', J, rv, q⟩ := hs; exact fin J rv q
    | next => obtain ⟨σ', H', J, q⟩ := hs; exact fin (v := V.non) (u := Value.none) J rfl q
    | brk => obtain ⟨_, _, _, q⟩ := hs; exact False.elim q
    | cont => obtain ⟨_, _, _, q⟩ := hs; exact False.elim q
end
def okV (v : V) : Prop := v = .non ∨ (∃ i : Int, v = .int i ∧ i.natAbs.log2 < 1920) ∨ ∃ y : Str, v = .str y ∧ y.length ≤ 4000
def tPt (js : List Nat) : TE := fun σ H Q => (∀ j ∈ js, ∃ v, σ[j]? = some (some v) ∧ okV v) ∧ ∀ y : Str, y.length ≤ 4000 → Q (.str y) H
section
variable {X : Cx} {js : List Nat} {j : Nat} {x m : Str} {p pos : Pos} {kd : Nat}
theorem len_int {i : Int} (h : i.natAbs.log2 < 1920) : (Str.ofString (toString i)).length ≤ 4000 := by
  have e := int_text_length_le (k := 1920) (by decide) h
  rw [PySem.ofString_length]; omega
theorem pe_ptC (h : m.length ≤ 4000) : PE X (.Constant (.str m) kd pos) (tPt js) := ⟨fun pins s σ H Q I q => (pe_str (X := X) (pos := pos)).run pins s σ H Q I (q.2 m h)⟩
theorem pe_ptV (hj : j ∈ js) (hN : X.N[j]? = some x) (hv : Vis X.env.scope x) (hd : (x == ("__debug__" : Str)) = false := by decide) (hcd : (x == ("__classdict__" : Str)) = false := by decide) : PE X (.FormattedValue (.Name x p) (-1) none pos) (tPt js) := by
  refine ⟨fun pins s σ H Q I h => ?_⟩
  obtain ⟨v, hs, ov⟩ := h.1 j hj
  have run := (pe_var (X := X) (pos := p) hN hv hd hcd).run pins s σ H (fun v' H' => v' = v ∧ H' = H) I ⟨v, hs, rfl, rfl⟩
  refine wpAny_FormattedValue_plain (thn run fun u s1 hu => ?_)
  obtain ⟨v', H1, I1, r1, rfl, rfl⟩ := hu
  rcases ov with rfl | ⟨i, rfl, hi⟩ | ⟨y, rfl, hy⟩
  · cases r1
    exact wpAny_formatField_none ⟨.str "None", H1, I1.tok _, ⟨_, rfl⟩, h.2 _ (by decide)⟩
  · obtain ⟨t, rfl⟩ := r1
    exact wpAny_formatField_int hi ⟨.str (toString i), H1, I1.tok _, ⟨_, rfl⟩, h.2 _ (len_int hi)⟩
  · obtain ⟨t, rfl⟩ := r1
    exact wpAny_formatField_str ⟨.str y, H1, I1, ⟨t, rfl⟩, h.2 _ hy⟩ ⟨.str y, H1, I1.tok _, ⟨_, rfl⟩, h.2 _ hy⟩ (by rw [sizeLine_eq]; omega)
inductive Pts (X : Cx) (js : List Nat) : List Expr → Prop
  | nil : Pts X js []
  | cons {e : Expr} {es : List Expr} (h : PE X e (tPt js)) (r : Pts X js es) : Pts X js (e :: es)
theorem Pts.pj {es : List Expr} (h : Pts X js es) : L2.PJ X es (List.replicate es.length (tPt js)) := by
  induction h with
  | nil => exact .nil
  | cons h r ih => exact .cons h ih
theorem pts_j {σ : L2.St} {H : Hp} {Q : Str → Hp → Prop} (hj : ∀ j ∈ js, ∃ v, σ[j]? = some (some v) ∧ okV v) (hq : ∀ y, Q y H) : ∀ (n : Nat) (acc : Str), acc.length + 4000 * n ≤ sizeLine → tJs (List.replicate n (tPt js)) acc σ H Q
  | 0, acc, _ => hq acc
  | n + 1, acc, h => ⟨hj, fun y hy => ⟨y, rfl, by
      have e : (acc ++ y).length = acc.length + y.length := by show (acc.cps ++ y.cps).size = _; rw [Array.size_append]; rfl
      have h2 : (acc ++ y).length + 4000 * n ≤ sizeLine := by rw [e]; omega
      exact ⟨by omega, pts_j hj hq n _ h2⟩⟩⟩
def tFs (js : List Nat) : TE := fun σ H Q => (∀ j ∈ js, ∃ v, σ[j]? = some (some v) ∧ okV v) ∧ ∀ y : Str, Q (.str y) H
theorem pe_fs {v1 v2 : Expr} {es : List Expr} (h : Pts X js (v1 :: v2 :: es)) (hl : es.length ≤ 100) : PE X (.JoinedStr (v1 :: v2 :: es) pos) (tFs js) :=
  ⟨fun pins s σ H Q I q => (pe_joined (pos := pos) h.pj).run pins s σ H Q I (pts_j q.1 (fun y => q.2 y) _ _ (by
    show 0 + 4000 * (es.length + 1 + 1) ≤ sizeLine
    rw [sizeLine_eq]; omega))⟩
end
def spI1 (C : Addr) (f : Str) : Sp := fun vs H Q _ => ∃ (a : Addr) (y : V), vs = [.ref a, y] ∧ H a = some (exo a C none) ∧ okV y ∧ ∀ dx, H dx = none → dx ≠ a → Q .non (upd (upd H dx (exd dx [(f, y)])) a (exo a C (some dx)))
def spI2 (C : Addr) (f g : Str) : Sp := fun vs H Q _ => ∃ (a : Addr) (y z : V), vs = [.ref a, y, z] ∧ H a = some (exo a C none) ∧ okV y ∧ okV z ∧ ∀ dx, H dx = none → dx ≠ a → Q .non (upd (upd (upd H dx (exd dx [(f, y)])) a (exo a C (some dx))) dx (exd dx [(g, z), (f, y)]))
section
variable {CX : CXT} {P : Program} {w : World} {K : PySem.W.Frag} {mg : Str → Option Value} {base : Heap} {F : NF} {k : Nat} {C fI cc cda : Addr} {fd : FuncData} {e v1 v2 : Expr} {es : List Expr} {f g : Str} {p0 p1 p2 pos pos' q0 q1 q2 q3 r0 r1 r2 r3 jp : Pos} {ar : Arg}
theorem ini1 (T : IniK P K mg C fI cc cda F) (S : NScope [("self" : Str), f, "__class__"] [("self" : Str), f] [("__class__" : Str)] F.scope) {oc dV kV doc pm ct : Value} {od an : Option Addr} {osl : Array (Option Value)} (hfd : fd = PySem.W.fnX F.name F.qual F.params F.body F.scope [(("__class__" : Str), cc)] dV kV doc pm an (.ref cda) ct) (lk : K.lookup fI = some ⟨oc, od, .func fd, osl⟩)
    (hp : (F.params.posonlyargs ++ F.params.args).head? = some ar) (har : ar.arg = "self") (hks : F.scope.names.lookup ("super" : Str) = some .globalImplicit)
    (hb : F.body = [.Expr (.Call (.Attribute (.Call (.Name "super" p0) [] [] p1) "__init__" p2) [.JoinedStr (v1 :: v2 :: es) jp] [] pos) pos', .Assign [.Attribute (.Name "self" q0) f q1] (.Name f q2) q3])
    {pl : PySem.Env → Sem Bool} (hev : ∀ env : PySem.Env, eval (.Call (.Attribute (.Call (.Name "super" p0) [] [] p1) "__init__" p2) [.JoinedStr (v1 :: v2 :: es) jp] [] pos) env = (do
      let ov ← attributeBase (.Call (.Name "super" p0) [] [] p1) "__init__" env (eval (.Call (.Name "super" p0) [] [] p1) env)
      standAt p2.atName
      let (f, first) ← holding [ov] (getMethod ov "__init__" (pl env))
      callWith pos f first (backTo pos (starEach [.JoinedStr (v1 :: v2 :: es) jp] env)) []))
    (hes : es.length ≤ 100) (hpt : ∀ (X : Cx), X.N = [("self" : Str), f, "__class__"] → X.env.scope = F.scope → Pts X [1] (v1 :: v2 :: es))
    (hno : PySem.W.findIn K (.ref C) f = some none) (hd1 : (f == ("__debug__" : Str)) = false := by decide) (hd2 : (f == ("__classdict__" : Str)) = false := by decide) :
    FnOk P w K mg base CX (k + 1) fI fd [("self" : Str), f] (spI1 C f) := by
  have hself := S.par "self" List.mem_cons_self
  have hf := S.par f (List.mem_cons_of_mem _ List.mem_cons_self)
  refine ini_fn (rest := [.Assign [.Attribute (.Name "self" q0) f q1] (.Name f q2) q3]) T S hfd lk hp har hks hself rfl hb (fun vs H Q E h => ?_) (fun _ => rfl) hev fun A outer s H vs Q E h => ?_
  · obtain ⟨a, y, rfl, _⟩ := h; rfl
  · obtain ⟨a, y, rfl, ea, oy, hq⟩ := h
    refine ⟨a, _, _, rfl, ea, pe_fs (hpt _ rfl rfl) hes, pss_one (ps_ost (pe_var (i := 0) rfl (.inl hself)) (pe_var (i := 1) rfl (.inl hf) hd1 hd2)), ?_⟩
    refine ⟨fun j hj => ?_, fun y' => ⟨ea, ?_⟩⟩
    · have : j = 1 := by simpa using hj
      subst this
      exact ⟨y, rfl, oy⟩
    · refine ⟨y, rfl, .ref a, rfl, a, C, rfl, T.T, hno, .inl ⟨ea, fun dx n ne => hq dx n ne⟩⟩
end
end VF
set_option maxRecDepth 100000
set_option maxHeartbeats 4000000
namespace VF
set_option autoImplicit false
open PySem PySem.Spec PyProof.Rows L2
open AT (cells cellsL er ers)
section
variable {X : Cx} {K : PySem.W.Frag} {mg : Str → Option Value}
end
section
variable {X : Cx} {E : XS} {a b : Expr} {ma mb : M RV} {pos : Pos}
end
section
variable {X : Cx} {E : XS} {pos : Pos}
theorem takesE0 : Takes X E0 := fun _ _ x => by
  obtain ⟨_, _, _, _, _, _, _, _, _, _, _, _, _, _, _, _, z⟩ := x
  exact z.elim
theorem passT (tk : Takes X E) : ∀ σ, PassesAt (L2.CX X.prog X.w) X σ (fun cls d H => E cls d σ H) := fun σ => passAt tk σ
structure OwnX (K : PySem.W.Frag) (mg : Str → Option Value) (x : Str) (C : Addr) : Prop where
  g : mg x = some (.ref C)
  e : PySem.W.excIn K C He.veBase "ValueError.__new__" = true
  k : PySem.W.keepIn K (.ref C) = true
  s : PySem.W.subIn K (.ref C) (.type "BaseException") = some true
  t : PySem.W.typeIn K (.ref C) = some (.type "type")
def hIs (t : List (Str × Bool)) : Str → Option D := fun c => (t.lookup c).map D.bl
inductive TryT (K : PySem.W.Frag) (mg : Str → Option Value) (Cc : Value) : List (Str × Bool) → Prop
  | nil : TryT K mg Cc []
  | cons {x : Str} {b : Bool} {C : Addr} {t : List (Str × Bool)} (g : mg x = some (.ref C)) (e : ExcC K C) (k : PySem.W.kitOne K (.ref C) Cc = some b) (r : TryT K mg Cc t) : TryT K mg Cc ((x, b) :: t)
theorem TryT.at {K : PySem.W.Frag} {mg : Str → Option Value} {Cc : Value} {t : List (Str × Bool)} (T : TryT K mg Cc t) {x : Str} {v : D} {C : Addr} (h : hIs t x = some v) (g : mg x = some (.ref C)) :
    ExcC K C ∧ ∃ b, v = .bl b ∧ PySem.W.kitOne K (.ref C) Cc = some b := by
  induction T with
  | nil => cases h
  | @cons x' b C' t g' e k r ih =>
    unfold hIs at h ih
    rw [List.lookup_cons] at h
    by_cases q : (x == x') = true
    · rw [q] at h
      have q' : x = x' := eq_of_beq q
      subst q'
      have e2 : C' = C := by rw [g] at g'; cases g'; rfl
      subst e2
      cases h
      exact ⟨e, b, rfl, k⟩
    · rw [Bool.eq_false_iff.mpr q] at h
      exact ih h
end
def okD : D → Bool
  | .non => true
  | .int i => small62 i
  | .str y => decide (y.length ≤ 4000)
  | _ => false
def okDs (n : Nat) (ds : List D) : Bool := ds.all okD && ds.length == n
def dRaiseF (c : Str) (ns : List Str) (a : M (List RV)) : M Fl := a.bind fun rs e => match rs.mapM (view e) with
  | some ds => if okDs ns.length ds = true then .ex ⟨c, ns.reverse, ds.reverse⟩ e else .st
  | none => .st
theorem okD_imm {d : D} (h : okD d = true) : ∃ v, imm d = some v ∧ okV v := by
  cases d with
  | non => exact ⟨_, rfl, .inl rfl⟩
  | int i =>
    refine ⟨_, rfl, .inr (.inl ⟨i, rfl, ?_⟩)⟩
    have h' : -(2 ^ 62) ≤ i ∧ i < 2 ^ 62 := of_decide_eq_true h
    have : i.natAbs < 2 ^ 63 := by omega
    by_cases z : i.natAbs = 0
    · rw [z]; decide
    · have := (Nat.log2_lt z).mpr this
      omega
  | str y => exact ⟨_, rfl, .inr (.inr ⟨y, rfl, of_decide_eq_true h⟩)⟩
  | _ => cases h
theorem rep_eq {K : PySem.W.Frag} {mg : Str → Option Value} {F : Hp} {d : D} {v u : V} (r : Rep K mg F v d) (h : imm d = some u) : v = u := by
  cases d <;> first | (cases h; exact r) | cases h
def spI (C : Addr) : List Str → Sp
  | [f] => spI1 C f
  | [f, g] => spI2 C f g
  | _ => fun _ _ _ _ => False
structure ErrF (P : Program) (w : World) (K : PySem.W.Frag) (mg : Str → Option Value) (base : Heap) (x : Str) (C : Addr) (fs : List Str) : Prop where
  g : mg x = some (.ref C)
  T : OexC K C
  ini : ∃ fI fd, PySem.W.findIn K (.ref C) "__init__" = some (some (.ref fI)) ∧ PySem.W.typeIn K (.ref fI) = some (.type "function") ∧ Binds K fd (("self" : Str) :: fs) [] ∧ FnOk P w K mg base CX0 1 fI fd (("self" : Str) :: fs) (spI C fs)
section
variable {X : Cx} {E : XS} {pos : Pos}
theorem passC0 : Passes CX0 X (fun _ _ _ => False) := fun _ _ _ _ _ _ _ c => False.elim c
theorem upd_del {H1 H2 : Hp} {a d : Addr} {o : HO} (ha : H1 a = none) (hd : H1 d = none) (hk : ∀ b, b ≠ a → b ≠ d → H2 b = H1 b) : Same H1 (upd (L2.del H2 a) d o) := fun b u q => by
  have n1 : b ≠ a := fun z => by rw [z, ha] at q; cases q
  have n2 : b ≠ d := fun z => by rw [z, hd] at q; cases q
  rw [upd_ne n2, del_ne n1, hk b n1 n2]; exact q
theorem s_raiseF1 {C : Addr} {x f : Str} {p p2 : Pos} {e1 : Expr} {ma : M (List RV)} (T : ErrF X.prog X.w X.K X.mg X.base x C [f]) (hc : X.calm = true) (hr : Room 2 X.A) (tk : Takes X E) (hg : Gl X x) (ha : VA X E [e1] ma) (hdb : (x == ("__debug__" : Str)) = false := by decide)
    (he : starEach [e1] X.env = (false, eval e1 X.env) :: starEach [] X.env := by rfl) : VS X E (.Raise (some (.Call (.Name x p) [e1] [] p2)) none pos) (dRaiseF x [f] ma) := by
  obtain ⟨fI, fd, iC, tI, hb, hF⟩ := T.ini
  refine .mk (ps_raise hc tk (pmk_oex T.T iC tI hF hr hb .nil passC0 hg T.g ha hdb he (by rfl))) fun pv F H σ e as held D c w => ?_
  refine ⟨pv, F, e, as, held, c, WA.bindA (W := WS X.K X.mg pv F held E D) (fun z => z) w (fun _ _ z => z) fun rs e1 vs F1 H1 as1 tr1 s1 c1 rr1 w1 => ?_⟩
  cases q : rs.mapM (view e1) with
  | none => rw [q] at w1; exact w1.elim
  | some ds =>
    rw [q] at w1
    simp only at w1
    by_cases hk : okDs 1 ds = true
    · rw [show [f].length = 1 from rfl, if_pos hk] at w1
      have rp := RRs.seen (rs := rs) c1 rr1 (fun t ht => List.mem_append_left _ ht) q
      have k1 := Bool.and_eq_true_iff.mp hk
      match ds, vs, rp, k1 with
      | [d], [v], ⟨r1, _⟩, k1 =>
        obtain ⟨u, hu, ou⟩ := okD_imm (d := d) (by simpa using k1.1)
        have ev := rep_eq r1 hu
        subst ev
        refine ⟨Nat.le_of_ble_eq_true rfl, fun a na => ⟨a, v, rfl, upd_same, ou, fun dx n ne => ⟨rfl, dx, [(f, v)], upd_same, by rw [upd_ne ne, upd_same], by rw [upd_ne ne] at n; exact n, ?_⟩⟩⟩
        have nd : H1 dx = none := by rw [upd_ne ne] at n; exact n
        have w2 : WX X.K X.mg pv F held E ⟨x, [f], [d]⟩ e1 := w1
        exact w2 (.ref C) (some dx) F1 _ σ as1 s1 (c1.drop.same (upd_del na nd fun b h1 h2 => by rw [upd_ne h1, upd_ne h2, upd_ne h1])) ⟨C, T.g, rfl, .inr ⟨by simp, dx, [v], rfl, upd_same, rfl, by simp [hu]⟩⟩ fun dd e => by
          cases e
          exact none_le (s1.trans c1.s) nd
      | [], _, _, k1 => simp at k1
      | _ :: _ :: _, _, _, k1 => simp at k1
    · rw [show [f].length = 1 from rfl, if_neg hk] at w1; exact w1.elim
end
theorem rd_x {F F' : Hp} (s : ∀ p o, F p = some o → (∀ fs, o ≠ .xd fs) → F' p = some o) {K : PySem.W.Frag} {a : Addr} {vs : List V} (h : SqT K F a vs) : SqT K F' a vs := by
  rcases h with h | h
  · rcases h with h | ⟨o, h⟩
    · exact .inl (.inl (s _ _ h fun _ z => nomatch z))
    · exact .inl (.inr ⟨o, s _ _ h fun _ z => nomatch z⟩)
  · exact .inr h
theorem rdl_x {F F' : Hp} (s : ∀ p o, F p = some o → (∀ fs, o ≠ .xd fs) → F' p = some o) {K : PySem.W.Frag} {a : Addr} {vs : List V} (h : SqL K F a vs) : SqL K F' a vs := by
  rcases h with h | h
  · rcases h with h | ⟨o, h⟩
    · exact .inl (.inl (s _ _ h fun _ z => nomatch z))
    · exact .inl (.inr ⟨o, s _ _ h fun _ z => nomatch z⟩)
  · exact .inr h
section
variable {K : PySem.W.Frag} {mg : Str → Option Value} {F F' H H' : Hp} {σ : L2.St} {pv : List (Nat × V)} {e : Env} {as : List (Option AT)} {held : List AT}
mutual
theorem rep_x (s : ∀ p o, F p = some o → (∀ fs, o ≠ .xd fs) → F' p = some o) : ∀ {d : D} {v : V}, Rep K mg F v d → Rep K mg F' v d
  | .non, _, h => h
  | .bl _, _, h => h
  | .int _, _, h => h
  | .str _, _, h => h
  | .ty _, _, h => h
  | .lst ds, _, ⟨p, vs, e, h1, h2⟩ => ⟨p, vs, e, s _ _ h1 (fun _ z => nomatch z), reps_x s h2⟩
  | .tup ds, _, ⟨p, vs, e, h1, h2⟩ => ⟨p, vs, e, rd_x s h1, reps_x s h2⟩
  | .dct ks ds, _, ⟨p, vs, e, h1, h3, h2⟩ => ⟨p, vs, e, s _ _ h1 (fun _ z => nomatch z), h3, reps_x s h2⟩
  | .obj c ns ds, _, ⟨p, C, dx, vs, e, h0, h1, h3, h2⟩ => ⟨p, C, dx, vs, e, h0, s _ _ h1 (fun _ z => nomatch z), h3, reps_x s h2⟩
  | .scr ns, _, ⟨p, e, h1⟩ => ⟨p, e, rdl_x s h1⟩
  | .hl, _, h => h
theorem reps_x (s : ∀ p o, F p = some o → (∀ fs, o ≠ .xd fs) → F' p = some o) : ∀ {ds : List D} {vs : List V}, Reps K mg F vs ds → Reps K mg F' vs ds
  | [], [], _ => trivial
  | _ :: _, _ :: _, ⟨h1, h2⟩ => ⟨rep_x s h1, reps_x s h2⟩
  | [], _ :: _, h => h.elim
  | _ :: _, [], h => h.elim
end
mutual
theorem ok_x (s : ∀ p o, F p = some o → (∀ fs, o ≠ .xd fs) → F' p = some o) : ∀ {t : AT}, Ok K mg F t → Ok K mg F' t
  | .fz _ _, h => rep_x s h
  | .ol _ xs, h => oks_x s h
  | .oo _ _ _ _ _ xs, ⟨h1, h2, h3⟩ => ⟨h1, h2, oks_x s h3⟩
  | .od _ _ xs, ⟨h2, h3⟩ => ⟨h2, oks_x s h3⟩
theorem oks_x (s : ∀ p o, F p = some o → (∀ fs, o ≠ .xd fs) → F' p = some o) : ∀ {ts : List AT}, Oks K mg F ts → Oks K mg F' ts
  | [], _ => trivial
  | _ :: _, ⟨h1, h2⟩ => ⟨ok_x s h1, oks_x s h2⟩
end
theorem Cf.del {dd : Addr} {fs : List (Str × V)} (c : Cf K mg pv F H σ e as held) (h : H dd = some (.xd fs)) : Cf K mg pv (L2.del F dd) (L2.del H dd) σ e as held := by
  refine ⟨fun b o q => ?_, c.r, ⟨fun x hx => ?_, ?_, c.g.nd⟩⟩
  · by_cases z : b = dd
    · rw [z, del_same] at q; cases q
    · rw [del_ne z] at q ⊢; exact c.s _ _ q
  · have hx' := c.g.at_ x hx
    have ne : x.1 ≠ dd := fun z => by
      rw [z, h] at hx'
      have hx2 := hx
      rw [cellsL_eq] at hx2
      obtain ⟨t, _, ht⟩ := List.mem_flatMap.mp hx2
      exact cell_kind t x ht fs (Option.some.inj hx'.1).symm
    rw [del_ne ne, del_ne ne]; exact hx'
  · refine oks_x (fun p o q hn => ?_) c.g.ok
    by_cases z : p = dd
    · subst z
      have := c.s _ _ q
      rw [h] at this
      exact absurd (Option.some.inj this).symm (hn fs)
    · rw [del_ne z]; exact q
end
structure InSu (X : Cx) (a : Addr) (x : Exc) (C : Addr) : Prop where
  g : X.mg x.c = some (.ref C)
  ex : ∃ (oe : Obj) (od : Option Obj), (∀ pins σ H s, Inv X pins σ H s → PySem.W.InstAt s.heap a oe C od) ∧ ∀ f d, (x.ns.zip x.ds).lookup f = some d → ∃ (o : Obj) (u : Value) (v : V), od = some o ∧ imm d = some v ∧ RelV v u ∧ PySem.W.lookIn f o = some (some u)
def tAt (i : Nat) (a : Addr) (v : V) : TE := fun σ H Q => σ[i]? = some (some (.ref a)) ∧ Q v H
def SuE (X : Cx) (i : Nat) (e : Expr) (g : Exc → Option D) : Prop := ∀ (a : Addr) (x : Exc) (C : Addr) (pn : List (Addr × Obj)) (d : D), InSu (X.suite a pn) a x C → g x = some d → ∃ v, imm d = some v ∧ PE (X.suite a pn) e (tAt i a v)
def tRes (s : SV) (W : Ends) (H : Hp) : Prop := match s with
  | .fz (.tup ds) => ∃ vs, ds.mapM imm = some vs ∧ vs.length ≤ 1000 ∧ ∀ p, H p = none → W.rt (.ref p) (upd H p (.tup vs))
  | .fz d => ∃ v, imm d = some v ∧ W.rt v H
  | .ol [.fz d] => ∃ v, imm d = some v ∧ ∀ p, H p = none → W.rt (.ref p) (upd H p (.lst [v]))
  | _ => False
def tSuR (i : Nat) (a : Addr) (s : SV) : TS := fun W σ H => σ[i]? = some (some (.ref a)) ∧ tRes s W H
def SuB (X : Cx) (i : Nat) (ss : List Stmt) (h : Exc → Option SV) : Prop := ∀ (a : Addr) (x : Exc) (C : Addr) (pn : List (Addr × Obj)) (s : SV), InSu (X.suite a pn) a x C → h x = some s → PSs (X.suite a pn) ss (tSuR i a s)
def gC (d : D) : Exc → Option D := fun _ => some d
def gSub (g h : Exc → Option D) : Exc → Option D := fun x => match g x, h x with
  | some (.int m), some (.int n) => some (.int (m - n))
  | _, _ => none
def gNil : Exc → Option (List D) := fun _ => some []
def gCons (g : Exc → Option D) (h : Exc → Option (List D)) : Exc → Option (List D) := fun x => match g x, h x with
  | some d, some ds => some (d :: ds)
  | _, _ => none
def gRetT (g : Exc → Option (List D)) : Exc → Option SV := fun x => (g x).map fun ds => .fz (.tup ds)
section
variable {X : Cx} {i : Nat} {pos p p1 p2 p3 : Pos} {n y f : Str} {e a b : Expr} {rest : List Expr}
theorem su_c {d : D} {v : V} (hd : imm d = some v) (he : ∀ (a : Addr) (pn : List (Addr × Obj)), PE (X.suite a pn) e (tC v)) : SuE X i e (gC d) := fun a x C pn d' I q => by
  cases q
  exact ⟨v, hd, ⟨fun pins s σ H Q J h => (he a pn).run pins s σ H Q J h.2⟩⟩
inductive FldT (K : PySem.W.Frag) (mg : Str → Option Value) (f : Str) : List Str → Prop
  | nil : FldT K mg f []
  | cons {y : Str} {C : Addr} {t : List Str} (g : mg y = some (.ref C)) (xf : XfC K C) (no : PySem.W.findIn K (.ref C) f = some none) (r : FldT K mg f t) : FldT K mg f (y :: t)
theorem FldT.at {K : PySem.W.Frag} {mg : Str → Option Value} {t : List Str} (T : FldT K mg f t) {y : Str} {C : Addr} (h : y ∈ t) (g : mg y = some (.ref C)) : XfC K C ∧ PySem.W.findIn K (.ref C) f = some none := by
  induction T with
  | nil => cases h
  | @cons y' C' t g' xf no r ih =>
    rcases List.mem_cons.mp h with q | q
    · subst q
      rw [g] at g'
      cases g'
      exact ⟨xf, no⟩
    · exact ih q
def gFld (t : List Str) (f : Str) (x : Exc) : Option D := if x.c ∈ t then (x.ns.zip x.ds).lookup f else none
theorem su_fld {t : List Str} (T : FldT X.K X.mg f t) (hi : X.N[i]? = some n) (hv : Vis X.env.scope n) (hb : ∀ env, attributeBase (.Name n p1) f env (eval (.Name n p1) env) = eval (.Name n p1) env)
    (hd1 : (n == ("__debug__" : Str)) = false := by decide) (hd2 : (n == ("__classdict__" : Str)) = false := by decide) : SuE X i (.Attribute (.Name n p1) f pos) (gFld t f) := fun a x C pn d I q => by
  unfold gFld at q
  by_cases hm : x.c ∈ t
  · rw [if_pos hm] at q
    obtain ⟨xf, no⟩ := T.at hm I.g
    obtain ⟨oe, od, hat, hf⟩ := I.ex
    obtain ⟨o, u, v, rfl, hv', ru, hl⟩ := hf f d q
    refine ⟨v, hv', ⟨fun pins s σ H Q J h => ?_⟩⟩
    refine attr_of (hb _) (thn ((pe_var (X := X.suite a pn) (pos := p1) hi hv hd1 hd2).run pins s σ H (fun w H' => w = .ref a ∧ H' = H) J ⟨_, h.1, rfl, rfl⟩) fun w s1 hh => ?_)
    obtain ⟨w', H1, I1, rx, rfl, rfl⟩ := hh
    obtain rfl : w = Value.ref a := rx
    exact HandSPX.exc_get I1.kIn (hat _ _ _ _ I1) xf.ga xf.gg xf.exC (PySem.W.findObj_own xf.hdC no rfl hl) (handed_of ru) ⟨v, H1, I1.tok _, ru, h.2⟩
  · rw [if_neg hm] at q; cases q
inductive SuA (X : Cx) (i : Nat) : List Expr → (Exc → Option (List D)) → Prop
  | nil : SuA X i [] gNil
  | cons {e : Expr} {es : List Expr} {g : Exc → Option D} {h : Exc → Option (List D)} (he : SuE X i e g) (hs : ∀ env, starEach (e :: es) env = (false, eval e env) :: starEach es env) (r : SuA X i es h) : SuA X i (e :: es) (gCons g h)
theorem su_a {es : List Expr} {g : Exc → Option (List D)} (h : SuA X i es g) : ∀ (a : Addr) (x : Exc) (C : Addr) (pn : List (Addr × Obj)) (ds : List D), InSu (X.suite a pn) a x C → g x = some ds → ∃ vs, ds.mapM imm = some vs ∧ PA (X.suite a pn) es (fun σ H Q => σ[i]? = some (some (.ref a)) ∧ Q vs H) := by
  induction h with
  | nil =>
    intro a x C pn ds I q
    cases q
    exact ⟨[], rfl, ⟨fun pos pins s σ H Q J k => pa_nil.run pos pins s σ H Q J k.2⟩⟩
  | @cons e es g h he hs r ih =>
    intro a x C pn ds I q
    unfold gCons at q
    cases z1 : g x with
    | none => rw [z1] at q; cases q
    | some d =>
      cases z2 : h x with
      | none => rw [z1, z2] at q; cases q
      | some ds' =>
        rw [z1, z2] at q
        cases q
        obtain ⟨v, hv, p1⟩ := he a x C pn d I z1
        obtain ⟨vs, hvs, p2⟩ := ih a x C pn ds' I z2
        exact ⟨v :: vs, by simp [hv, hvs], ⟨fun pos pins s σ H Q J k => (pa_cons p1 p2 (hs _)).run pos pins s σ H Q J ⟨k.1, k.1, k.2⟩⟩⟩
theorem su_retT {p0 : Nat} {es : List Expr} {g : Exc → Option (List D)} (h : SuA X i es g) : SuB X i [.Return (some (.Tuple es p0 p)) pos] (gRetT g) := fun a x C pn s I q => by
  unfold gRetT at q
  cases z : g x with
  | none => rw [z] at q; cases q
  | some ds =>
    rw [z] at q
    cases q
    obtain ⟨vs, hvs, hp⟩ := su_a h a x C pn ds I z
    refine ⟨fun pins s0 σ H W J k => (pss_one (ps_ret (pe_tup hp))).run pins s0 σ H W J ⟨k.1, ?_⟩⟩
    obtain ⟨vs', hvs', hl, r⟩ := k.2
    rw [hvs] at hvs'
    cases hvs'
    exact ⟨by rw [sizeLine_eq]; omega, r⟩
end
def okRes : SV → Bool
  | .fz (.tup ds) => (ds.mapM imm).isSome && decide (ds.length ≤ 1000)
  | .fz d => (imm d).isSome
  | .ol [.fz d] => (imm d).isSome
  | _ => false
def dTryX (h : Exc → Option SV) (m : M Fl) : M Fl := fun e => match m e with
  | .st => .st
  | .ok f e1 => .ok f e1
  | .ex x e1 => match h x with
    | some s => if okRes s = true then .ok (.rt (svR s)) e1 else .st
    | none => .st
def hDel (d : Option Addr) (H : Hp) : Hp := match d with
  | some dd => L2.del H dd
  | none => H
def tSx (mg : Str → Option Value) (h : Exc → Option SV) (i : Nat) (a : Addr) (cls : Value) (d : Option Addr) : TS := fun W σ H =>
  ∃ (x : Exc) (s : SV) (σ' : L2.St), h x = some s ∧ RX mg H x cls d ∧ σ = σ'.set i (some (.ref a)) ∧ tRes s W (hDel d H)
section
variable {X : Cx} {pins : List (Addr × Obj)} {σ : L2.St} {H : Hp} {s : Shared}
theorem inv_del {a dd : Addr} {fs : List (Str × V)} {pn : List (Addr × Obj)} {od : Obj} (I : Inv (X.suite a pn) pins σ H s) (hd : H dd = some (.xd fs)) (ho : s.heap.get? dd = some od) (hc : ∀ v, od.data ≠ .cell v) : Inv (X.suite a ((dd, od) :: pn)) pins σ (L2.del H dd) s := by
  have ok := I.ok
  have ne : ∀ b, H b = none → b ≠ dd := fun b q z => by rw [z, hd] at q; cases q
  have dn : ∀ b, H b = none → L2.del H dd b = none := fun b q => by rw [del_ne (ne b q)]; exact q
  refine ⟨⟨ok.mod, ok.kind, ok.glob, ok.blt, ok.above, ok.inj, ok.has, ok.cab, (fun z => nomatch z), ok.frames, ok.stk, ok.exf, ok.bs, ok.bsz, ok.noex, ok.exfs, ok.funs, ok.frf⟩, I.os, I.bare, ⟨I.base.keep, I.base.slot, fun b o e n hx => dn b (I.base.free b o e n hx), I.base.there, fun b xs e => ?_, fun b o u e => ?_, fun b ps e => ?_⟩, I.loc, I.cell, dn _ I.free, fun y c e => dn _ (I.freeC y c e), fun p hp => ?_, fun b u e => ?_, I.len⟩
  · have q := I.base.tups b xs e
    rw [del_ne fun z => by rw [z, hd] at q; cases q]; exact q
  · have q := I.base.frzs b o u e
    rw [del_ne fun z => by rw [z, hd] at q; cases q]; exact q
  · obtain ⟨m, q⟩ := I.base.tbls b ps e
    exact ⟨m, by rw [del_ne fun z => by rw [z, hd] at q; cases q]; exact q⟩
  · have hp' : p ∈ (dd, od) :: (pn ++ pins) := hp
    rcases List.mem_cons.mp hp' with e | h
    · rw [e]
      refine ⟨ho, del_same, fun z => ?_, fun hm => ?_, hc⟩
      · have z' : dd = X.env.locals := z
        have q := I.free
        rw [← z', hd] at q; cases q
      · obtain ⟨_, o, ho', _⟩ := I.ok.funs.mem hm
        have q := I.base.free _ o ho' (I.ok.frf _ hm) fun z => I.ok.exfs _ z hm
        rw [hd] at q; cases q
    · obtain ⟨e, n, nl, nf, d⟩ := I.pin p h
      exact ⟨e, dn _ n, nl, nf, d⟩
  · have hb : b ≠ dd := fun z => by rw [z, del_same] at e; cases e
    rw [del_ne hb] at e
    refine (I.hok b u e).stay (fun c v _ q => q) (fun c q => ?_) fun c xs q => ?_
    · rw [del_ne fun z => by rw [z, hd] at q; cases q]; exact q
    · rw [del_ne fun z => by rw [z, hd] at q; cases q]; exact q
theorem inv_less {a : Addr} {p : Addr × Obj} {pn : List (Addr × Obj)} (I : Inv (X.suite a (p :: pn)) pins σ H s) : Inv (X.suite a pn) pins σ H s := by
  have ok := I.ok
  exact ⟨⟨ok.mod, ok.kind, ok.glob, ok.blt, ok.above, ok.inj, ok.has, ok.cab, (fun z => nomatch z), ok.frames, ok.stk, ok.exf, ok.bs, ok.bsz, ok.noex, ok.exfs, ok.funs, ok.frf⟩, I.os, I.bare, I.base, I.loc, I.cell, I.free, I.freeC, fun q hq => I.pin q (List.mem_cons_of_mem _ hq), I.hok, I.len⟩
end
section
variable {X : Cx} {E : XS}
theorem look_zip : ∀ {ns : List Str} {ds : List D} {vs : List V} {f : Str} {d : D}, ns.length = vs.length → ds.mapM imm = some vs → (ns.zip ds).lookup f = some d → ∃ v, imm d = some v ∧ (ns.zip vs).lookup f = some v
  | [], _, _, _, _, _, _, h => by simp [List.lookup] at h
  | n :: ns, [], _, _, _, _, _, h => by simp [List.lookup] at h
  | n :: ns, d0 :: ds, [], _, _, hl, _, _ => by simp at hl
  | n :: ns, d0 :: ds, v0 :: vs, f, d, hl, hm, h => by
    have hm' : imm d0 = some v0 ∧ ds.mapM imm = some vs := by
      cases q1 : imm d0 with
      | none => simp [q1] at hm
      | some z =>
        cases q2 : ds.mapM imm with
        | none => simp [q1, q2] at hm
        | some zs =>
          have : z = v0 ∧ zs = vs := by simpa [q1, q2] using hm
          exact ⟨by rw [this.1], by rw [this.2]⟩
    rw [List.zip_cons_cons, List.lookup_cons] at h
    rw [List.zip_cons_cons, List.lookup_cons]
    cases q : (f == n) with
    | true =>
      rw [q] at h
      cases h
      exact ⟨v0, hm'.1, rfl⟩
    | false =>
      rw [q] at h
      exact look_zip (by simpa using hl) hm'.2 h
theorem reps_mk {K : PySem.W.Frag} {mg : Str → Option Value} {F : Hp} : ∀ {ds : List D} {vs : List V}, ds.mapM imm = some vs → Reps K mg F vs ds
  | [], vs, h => by cases h; trivial
  | d :: ds, vs, h => by
    cases z1 : imm d with
    | none => simp [z1] at h
    | some v0 =>
      cases z2 : ds.mapM imm with
      | none => simp [z1, z2] at h
      | some vs0 =>
        have : vs = v0 :: vs0 := by simpa [z1, z2] using h.symm
        subst this
        exact ⟨rep_imm z1, reps_mk z2⟩
theorem s_tryX {body suite : List Stmt} {b0 : Stmt} {h : Exc → Option SV} {m : M Fl} {i : Nat} {n x : Str} {c : Value} {np pos' pos : Pos} (hs : X.stack = X.env :: X.outer) (hf : X.env.frame = some X.env.locals) (hN : X.N.Nodup) (hi : X.N[i]? = some n) (hln : X.env.kindOf n = some .local) (hc : Names X x c) (tk : Takes X E)
    (hm : ∀ (y : Exc) (s : SV) (C : Addr), h y = some s → X.mg y.c = some (.ref C) → PySem.W.exmOne X.K (.ref C) c = some true)
    (hb : ∀ (E : XS) (pn : List (Addr × Obj)) (xe : Value → Shared → Prop), Takes (X.tr pn xe) E → PassesOwn (model X.prog X.w) X.A X.env xe → VB (X.tr pn xe) E body m)
    (hsu : SuB X i (b0 :: suite) h) :
    VS X E (.Try body [.ExceptHandler (some (.Name x np)) (some n) (b0 :: suite) pos'] [] [] pos) (dTryX h m) := by
  refine .mk (ps_try_as (tb := fun W => wS X.K X.mg W m) (ts := tSx X.mg h i) hs hf hN hi hln hc tk (fun W pn xe t p => hb W pn xe t p) fun a oe cls d pn hz hfl => ⟨fun pins s σ H D I hh => ?_⟩) fun pv F H σ e as held D c0 w => ?_
  · obtain ⟨x0, sv, σ', hx, ⟨C, g, rfl, rx⟩, hσ, res⟩ := hh
    have hl : i < σ'.length := by
      have l1 := I.len
      have l2 := (List.getElem?_eq_some_iff.mp hi).1
      rw [hσ, List.length_set] at l1
      rw [l1]; exact l2
    have s0 : σ[i]? = some (some (.ref a)) := by rw [hσ, List.getElem?_set_self hl]
    obtain ⟨fv, hfv⟩ := hfl
    obtain ⟨oc, odd, odt, osl⟩ := oe
    obtain ⟨z1, z2⟩ := hz
    dsimp only at z1 z2 hfv
    subst z1 z2 hfv
    rcases rx with ⟨hn, rfl⟩ | ⟨hn, dd, vs, rfl, hd, hlen, hm2⟩
    · have In : InSu (X.suite a ((a, ({ cls := .ref C, dict := none, data := .fields fv, slots := osl } : Obj)) :: pn)) a x0 C := ⟨g, _, none, fun pins s σ H I => ⟨(I.pin _ (List.mem_append_left _ List.mem_cons_self)).1, rfl, rfl, trivial⟩, fun f d q => by rw [hn] at q; simp [List.lookup] at q⟩
      exact (hsu a x0 C _ sv In hx).run pins s σ H D I ⟨s0, res⟩
    · have hob : ObjOk X.prog X.w H s.heap dd (.xd (x0.ns.zip vs)) := I.hok dd _ hd
      obtain ⟨mA, hns, hr⟩ := hob
      obtain ⟨od, ho, hlk⟩ := lookIn_ns hns
      have hnc : ∀ v, od.data ≠ .cell v := fun v z => by
        obtain ⟨o, es, ep, e1, e2, _⟩ := hns
        rw [ho] at e1
        cases e1
        rw [z] at e2
        cases e2
      have I2 := inv_del I hd ho hnc
      have In : InSu (X.suite a ((dd, od) :: (a, ({ cls := .ref C, dict := some dd, data := .fields fv, slots := osl } : Obj)) :: pn)) a x0 C := by
        refine ⟨g, _, some od, fun pins s σ H I => ⟨(I.pin _ (List.mem_append_left _ (List.mem_cons_of_mem _ List.mem_cons_self))).1, rfl, rfl, (I.pin _ (List.mem_append_left _ List.mem_cons_self)).1⟩, fun f d q => ?_⟩
        obtain ⟨v, hv, hl2⟩ := look_zip hlen hm2 q
        have r := hr f
        rw [hl2] at r
        cases z : mA f with
        | none => rw [z] at r; exact r.elim
        | some u =>
          rw [z] at r
          exact ⟨od, u, v, rfl, hv, r, by rw [hlk, z]⟩
      refine wpAny_mono ((hsu a x0 C _ sv In hx).run pins s σ _ D I2 ⟨s0, res⟩) (fun f s1 r => ?_) fun _ _ z => z
      cases f with
      | ret u => obtain ⟨v, σ2, H2, J, rv, q⟩ := r; exact ⟨v, σ2, H2, inv_less J, rv, q⟩
      | next => obtain ⟨σ2, H2, J, q⟩ := r; exact ⟨σ2, H2, inv_less J, q⟩
      | brk => obtain ⟨σ2, H2, J, q⟩ := r; exact ⟨σ2, H2, inv_less J, q⟩
      | cont => obtain ⟨σ2, H2, J, q⟩ := r; exact ⟨σ2, H2, inv_less J, q⟩
  · refine ⟨pv, F, e, as, held, c0, ?_⟩
    unfold dTryX at w
    cases q : m e with
    | st => rw [q] at w; exact w.elim
    | ok f e1 =>
      rw [q] at w
      cases f <;> exact w
    | ex y e1 =>
      rw [q] at w
      simp only at w
      intro cls d F' H' σ' as' s' c' rx hn
      cases q2 : h y with
      | none => rw [q2] at w; exact w.elim
      | some sv =>
        rw [q2] at w
        simp only at w
        obtain ⟨C, g, rfl, rx'⟩ := id rx
        refine ⟨true, hm y sv C q2 g, fun _ a na => ⟨y, sv, σ', q2, rx, rfl, ?_⟩, fun z => nomatch z⟩
        obtain ⟨F1, H1, e1', s1, c1⟩ : ∃ F1 H1, hDel d H' = H1 ∧ Same F F1 ∧ Cf X.K X.mg pv F1 H1 σ' e1 as' held := by
          cases d with
          | none => exact ⟨F', H', rfl, s', c'⟩
          | some dd =>
            rcases rx' with ⟨_, z⟩ | ⟨_, dd', vs, z, hd, _⟩
            · cases z
            · cases z
              refine ⟨L2.del F' dd, _, rfl, fun b o q => ?_, c'.del hd⟩
              rw [del_ne fun z => by rw [z, hn dd rfl] at q; cases q]
              exact s' _ _ q
        rw [e1']
        by_cases hok : okRes sv = true
        · rw [if_pos hok] at w
          have fz : ∀ {d : VF.D} {v : V}, imm d = some v → sv = .fz d → D.rt v H1 := fun {d v} hv e => by
            subst e
            exact w v σ' F1 H1 as' [.fz v d] s1 (c1.fz (rep_imm hv)) rfl
          have one : ∀ {d : VF.D}, sv = .fz d → (imm d).isSome = true → ∃ v, imm d = some v ∧ D.rt v H1 := fun {d} e h => by
            obtain ⟨v, hv⟩ := Option.isSome_iff_exists.mp h
            exact ⟨v, hv, fz hv e⟩
          cases sv with
          | fz dd =>
            cases dd with
            | tup ds =>
              have h2 : (ds.mapM imm).isSome = true ∧ decide (ds.length ≤ 1000) = true := Bool.and_eq_true_iff.mp hok
              obtain ⟨vs, hv⟩ := Option.isSome_iff_exists.mp h2.1
              have rp : Reps X.K X.mg F1 vs ds := by
                exact reps_mk hv
              refine ⟨vs, hv, by rw [rp.length]; exact of_decide_eq_true h2.2, fun p hp => ?_⟩
              obtain ⟨F2, s2, c2⟩ := c1.newT rp hp
              exact w (.ref p) σ' F2 _ as' _ (s1.trans s2) c2 rfl
            | _ => first | exact one rfl hok | cases hok
          | ol xs =>
            match xs, hok with
            | [.fz d0], hok =>
              obtain ⟨v, hv⟩ := Option.isSome_iff_exists.mp (show (imm d0).isSome = true from hok)
              refine ⟨v, hv, fun p hp => ?_⟩
              obtain ⟨t, t1, t2, c2⟩ := c1.newL (vs := [v]) (ds := [d0]) ⟨rep_imm hv, trivial⟩ hp
              exact w (.ref p) σ' F1 _ as' [t] s1 c2 ⟨t, rfl, t1, t2⟩
          | oo _ _ _ => cases hok
          | od _ _ => cases hok
        · rw [if_neg hok] at w; exact w.elim
end
end VF
set_option maxRecDepth 100000
set_option maxHeartbeats 4000000
namespace VF
set_option autoImplicit false
open PySem PySem.Spec PyProof.Rows L2
open AT (cells cellsL er ers)
def shownOk (p : PyData) : Bool := p.showable && (!p.hasDict && (decide (p.depth ≤ 60) && decide (p.shown.length ≤ sizeLine)))
def reprD : List D → Option D
  | [d] => (match toP d with
    | some p => if shownOk p = true then some (.str p.shown) else none
    | none => none)
  | _ => none
section
variable {X : Cx}
def rRepr (K : PySem.W.Frag) : List V → Hp → VK → Prop := fun xs H Q => ∃ v p, xs = [v] ∧ Dp K H v p ∧ shownOk p = true ∧ Q (.str p.shown) H
theorem call_reprD (hg : X.A.guards = some []) (hu : X.A.units + 64 < cLine) : CallR X (.builtin "repr") (rRepr X.K) := by
  intro pins s σ H xs us Q I r h
  obtain ⟨v, p, rfl, dp, ok, q⟩ := h
  obtain ⟨u, rfl, ru⟩ := vals1 r
  unfold shownOk at ok
  obtain ⟨h1, ok⟩ := Bool.and_eq_true_iff.mp ok
  obtain ⟨h2, ok⟩ := Bool.and_eq_true_iff.mp ok
  obtain ⟨h3, h4⟩ := Bool.and_eq_true_iff.mp ok
  have h2' : p.hasDict = false := by simpa using h2
  have h3' : p.depth ≤ 60 := of_decide_eq_true h3
  have h4' : p.shown.length ≤ sizeLine := of_decide_eq_true h4
  obtain ⟨as, rd⟩ := Dp.reads I p v u dp ru
  have big : ∀ a, u = .ref a → wpAny (model X.prog X.w) X.A (call (.builtin "repr") [u]) (EP X pins σ Q) X.xe s := fun a e => by
    subst e
    exact repr_of_reads' rd h1 (PyData.noDict_hsm h2') hg (by omega) (fun _ _ z => z) (fun h' u tk k => ⟨.str p.shown, H, I.kept (t' := tk) k, ⟨_, rfl⟩, q⟩) h4'
  cases dp with
  | non => cases ru; exact PySem.P.repr_of_none ⟨.str _, H, I.tok _, ⟨_, rfl⟩, q⟩
  | bl b => cases ru; exact PySem.P.repr_of_bool ⟨.str _, H, I.tok _, ⟨_, rfl⟩, q⟩
  | int i =>
    obtain ⟨t, rfl⟩ := ru
    exact PySem.P.repr_of_int (of_decide_eq_true h1) ⟨.str _, H, I.tok _, ⟨_, rfl⟩, q⟩
  | str x =>
    obtain ⟨t, rfl⟩ := ru
    exact PySem.P.repr_of_str ⟨.str _, H, I.tok _, ⟨_, rfl⟩, q⟩ h4'
  | lst _ _ => exact big _ ru
  | tup _ _ => exact big _ ru
end
section
variable {K : PySem.W.Frag} {mg : Str → Option Value}
theorem cbd_repr : CbD (rRepr K) K mg reprD := by
  intro H xs as d r q
  unfold reprD at q
  split at q
  · rename_i d0
    cases z : toP d0 with
    | none => rw [z] at q; cases q
    | some p =>
      rw [z] at q
      simp only at q
      by_cases ok : shownOk p = true
      · rw [if_pos ok] at q
        cases q
        cases xs with
        | nil => exact r.elim
        | cons x xs =>
          cases xs with
          | nil => exact ⟨.str p.shown, rfl, fun Q k => ⟨x, p, rfl, dp_of d0 r.1 z, ok, k⟩⟩
          | cons _ _ => exact r.2.elim
      · rw [if_neg ok] at q; cases q
  · cases q
end
section
variable {X : Cx} {E : XS} {a : Expr} {pos : Pos}
theorem v_repr {p : Pos} {es : List Expr} {mr : M (List RV)} (hgd : X.A.guards = some []) (hu : X.A.units + 64 < cLine) (hg : Gl X "repr") (hm : X.mg "repr" = none) (ha : VA X E (a :: es) mr) (he : starEach (a :: es) X.env = (false, eval a X.env) :: starEach es X.env := by rfl) (hpl : (backTo pos (starEach es X.env)).any (·.1) = false := by rfl) :
    VE X E (.Call (.Name "repr" p) (a :: es) [] pos) (dCB reprD mr) := .mk (pe_callB (call_reprD hgd hu) hg hm (by decide +kernel) ha (by decide) (by decide) he hpl) (se_cb cbd_repr sa_w)
end
def fEqS : D → D → Option D := fun a b => match a, b with
  | .str x, .str y => some (.bl (decide (x = y)))
  | _, _ => none
section
variable {X : Cx} {K : PySem.W.Frag} {mg : Str → Option Value}
theorem op_eqTx : OpR X (compareOp .Eq) (fun x y H Q => ∃ a b : Str, x = .str a ∧ y = .str b ∧ Q (.bl (decide (a = b))) H) := by
  intro pins s σ H x y v u Q I rx ry h
  obtain ⟨a, b, rfl, rfl, q⟩ := h
  obtain ⟨t, rfl⟩ := rx
  obtain ⟨t', rfl⟩ := ry
  refine PySem.P.eq_str (fin_bl I q ?_)
  by_cases c : a = b
  · subst c
    rw [decide_eq_true rfl, beq_self_eq_true]
  · have n : ¬ a.cps.toList = b.cps.toList := fun e => c (by
      cases a; cases b
      congr 1
      exact Array.toList_inj.mp e)
    rw [decide_eq_false c, beq_eq_false_iff_ne.mpr n]
theorem opd_eqS : OpD (fun x y H Q => ∃ a b : Str, x = .str a ∧ y = .str b ∧ Q (.bl (decide (a = b))) H) K mg fEqS := by
  intro H x y a b d ra rb q
  cases a <;> first | (cases b <;> cases q; done) | skip
  cases b <;> first | (cases q; done) | skip
  rename_i i j
  cases q
  exact ⟨.bl (decide (i = j)), rfl, fun Q k => ⟨i, j, ra, rb, k⟩⟩
end
section
variable {X : Cx} {E : XS} {a b : Expr} {ma mb : M RV} {pos : Pos}
theorem v_eqS (ha : VE X E a ma) (hb : VE X E b mb) : VE X E (.Compare a [.Eq] [b] pos) (dOp fEqS ma mb) := .mk (pe_cmpR op_eqTx ha hb (nomark _)) (se_op opd_eqS se_w se_w)
end
structure FnOkG (P : Program) (w : World) (K : PySem.W.Frag) (mg : Str → Option Value) (base : Heap) (k : Nat) (f : Addr) (fd : FuncData) (ps : List Str) (sp : Sp) : Prop where
  len : ∀ vs H Q, sp vs H Q L2.E0 → vs.length = ps.length
  run : ∀ (A : Around) (outer : List PySem.Env) (s : Shared) (H : Hp) (args : Args) (us : List Value) (vs : List V) (Q : VK), Room k A → A.guards = some [] → Env0 P w K mg base A outer s H → BindsTo s fd args (ps.zip us) → Vals vs us → sp vs H Q L2.E0 →
    codeAny (model P w) A (.call (.ref f) args) (CR CX0 outer P w H s Q L2.E0) s
theorem FnOkG.mono {P : Program} {w : World} {K : PySem.W.Frag} {mg : Str → Option Value} {base : Heap} {j k : Nat} {f : Addr} {fd : FuncData} {ps : List Str} {sp : Sp} (F : FnOkG P w K mg base j f fd ps sp) (h : j ≤ k) : FnOkG P w K mg base k f fd ps sp :=
  ⟨F.len, fun A outer s H args us vs Q hr => F.run A outer s H args us vs Q (hr.mono h)⟩
section
variable {X : Cx} {k : Nat} {f : Addr} {fd : FuncData} {ps : List Str} {sp : Sp} {x : Str} {p pos : Pos} {e : Expr} {es : List Expr} {t : TA}
theorem pe_callG (F : FnOkG X.prog X.w X.K X.mg X.base k f fd ps sp) (hr : Room k X.A) (hgd : X.A.guards = some []) (hg : Gl X x) (hm : X.mg x = some (.ref f)) (hk : PySem.W.keepIn X.K (.ref f) = true) (hb : Binds X.K fd ps [])
    (ha : PA X (e :: es) t) (hdb : (x == ("__debug__" : Str)) = false := by decide) (he : starEach (e :: es) X.env = (false, eval e X.env) :: starEach es X.env := by rfl) (hpl : (backTo pos (starEach es X.env)).any (·.1) = false := by rfl) :
    PE X (.Call (.Name x p) (e :: es) [] pos) (tCallS sp (fun σ cls d H => E0 cls d σ H) t) := by
  refine ⟨fun pins s σ H Q I h => wpAny_Call_Name_kw (ld_glob I hg hm ?_ hdb)⟩
  refine PySem.W.callWith_K (h₀ := X.base) I.ok.mod.kin hk (thn (ha.run pos pins s σ H _ I h) fun us s1 hh => ?_) he hpl
  obtain ⟨vs, H1, I1, rv, q⟩ := hh
  have q' : sp vs H1 Q L2.E0 := q
  refine ⟨I1.kIn, ?_⟩
  have hl : us.length = ps.length := by rw [← rv.length]; exact F.len _ _ _ q'
  have b := hb s1 us I1.kIn (by rw [List.append_nil]; exact hl)
  rw [List.append_nil] at b
  refine wpAny_call (codeAny_mono (F.run X.A X.stack s1 H1 ⟨us, []⟩ us vs Q hr hgd I1.env0 b rv q') fun r s' hq => ?_)
  cases r with
  | error _ => exact False.elim hq
  | ok fl =>
    cases fl with
    | ret u => exact I1.after hq
    | next => exact False.elim hq
    | brk => exact False.elim hq
    | cont => exact False.elim hq
end
section
variable {X : Cx} {a : Expr} {pos : Pos} {es : List Expr} {mr : M (List RV)}
theorem v_callBG {k n : Nat} {f : Addr} {fd : FuncData} {ps : List Str} {x : Str} {p : Pos} {φ : Fn} (F : FnOkG X.prog X.w X.K X.mg X.base k f fd ps (spF X.K X.mg n φ)) (hr : Room k X.A) (hgd : X.A.guards = some []) (hg : Gl X x) (hm : X.mg x = some (.ref f)) (hk : PySem.W.keepIn X.K (.ref f) = true) (hb : Binds X.K fd ps [])
    (ha : VA X E0 (a :: es) mr) (hdb : (x == ("__debug__" : Str)) = false := by decide) (he : starEach (a :: es) X.env = (false, eval a X.env) :: starEach es X.env := by rfl) (hpl : (backTo pos (starEach es X.env)).any (·.1) = false := by rfl) :
    VE X E0 (.Call (.Name x p) (a :: es) [] pos) (dCallB n φ mr) := .mk (pe_callG F hr hgd hg hm hk hb ha hdb he hpl) (se_callB sa_w)
end
end VF
set_option maxRecDepth 100000
set_option maxHeartbeats 4000000
namespace VF
set_option autoImplicit false
open PySem PySem.Spec PyProof.Rows L2
open AT (cells cellsL er ers)
theorem fn_okG {P : Program} {w : World} {K : PySem.W.Frag} {mg : Str → Option Value} {base : Heap} {x qual : Str} {params : Arguments} {body : List Stmt} {scope : Scope} {dvs : List V} {kws : List (Str × V)} {f : Addr} {fd : FuncData} {N ps : List Str} {k : Nat}
    (F : FunD K x qual params body scope dvs kws f fd) (S : FnScope N ps scope) (md : List Bool) (hl : md.length = ps.length) {m : M Fl} {n : Nat} (hN : N.length = n)
    (hb : ∀ (cdv : Value) (A : Around) (outer : List PySem.Env) (s : Shared) (H : Hp) (E : XK), Room k (A.deeper (envOfC qual scope s.heap.objs.size f cdv)) → A.guards = some [] → VB (cxOf CX0 P w K mg base N qual scope f cdv A outer s H E).nox E0 body m) :
    FnOkG P w K mg base (k + 1) f fd ps (spF K mg md.length (mkFn0 md n m)) := by
  subst hN
  obtain ⟨oc, od, dV, kV, doc, pm, an, cdv, ct, osl, rfl, lk, hcd, _, _⟩ := F.ex
  have hlen : ∀ vs H Q, spF K mg md.length (mkFn0 md N.length m) vs H Q L2.E0 → vs.length = ps.length := fun vs H Q h => by
    obtain ⟨_, ts, _, rfl, lt, _⟩ := h
    rw [← hl, ← lt]; exact List.length_map _
  refine ⟨hlen, fun A outer s H args us vs Q hr hgd e0 hbd rv h => ?_⟩
  have old : ∀ b o, base.get? b = some o → s.heap.get? b = some o := fun b o e => (e0.bs b o e).1
  have KX : K.In s.heap := e0.mod.kin.keeps old
  have kinds : ∀ y ∈ ps.zip us, scope.names.lookup y.1 = some .local ∨ (scope.names.lookup y.1 = some .cell ∧ ((cellsFrom (s.heap.objs.size + 1) scope.names []).lookup y.1).isSome = true) := fun ⟨y, z⟩ hy =>
    (S.par y (List.of_mem_zip hy).1).imp id fun q => ⟨q, PySem.W.cellsFrom_some _ _ _ (.inl q)⟩
  have h' : spF K mg md.length (mkFn md N.length m) vs H Q L2.E0 := by
    obtain ⟨F1, ts, held, e1, lt, s1, g, w1⟩ := h
    refine ⟨F1, ts, held, e1, lt, s1, g, ?_⟩
    unfold mkFn0 at w1
    cases q : mkFn md N.length m (ers ts) with
    | st => rw [q] at w1; exact w1
    | ok r as => rw [q] at w1; exact w1
    | ex x as => rw [q] at w1; exact w1.elim
  refine codeAny_call_function hr.depth (KX _ _ lk) rfl S.co S.gen rfl (PySem.W.codeRec_of KX hcd) (hbd _ _ _ _ ?_)
  refine wpAny_newFunctionEnv_cells S.kind kinds fun env he s1 y => ?_
  subst he
  refine ⟨(e0.mod.nolimit.keeps old).keeps y.toInCall.keep, codeAny_func ?_⟩
  have B := (hb cdv A outer s H L2.E0 (hr.deeper _) hgd).nox
  have I : Inv (cxOf CX0 P w K mg base N qual scope f cdv A outer s H L2.E0) [] (start N vs) H s1 := inv_start S hr.hd e0 (hlen _ _ _ h) rv y
  refine wpAny_mono (B.run [] s1 (start N vs) H _ I (body_ok (Ef := L2.E0) ss_w h')) (fun fl s' hs => ?_) fun _ _ hs => hs
  have fin : ∀ {σ' : L2.St} {H' : Hp} {v : V} {u : Value}, Inv (cxOf CX0 P w K mg base N qual scope f cdv A outer s H L2.E0) [] σ' H' s' → RelV v u → Q v H' → CE outer P w H s Q u s' :=
    fun {σ' H' v u} J r q => ⟨v, H', J.os, J.bare, J.base, J.hok, r, q⟩
  cases fl with
  | ret u => obtain ⟨v, σ', H', J, r, q⟩ := hs; exact fin J r q
  | next => obtain ⟨σ', H', J, q⟩ := hs; exact fin (v := .non) (u := .none) J rfl q
  | brk => obtain ⟨_, _, _, q⟩ := hs; exact q.elim
  | cont => obtain ⟨_, _, _, q⟩ := hs; exact q.elim
theorem law_coreG {P : Program} {w : World} {K : PySem.W.Frag} {mg mb : Str → Option Value} {k : Nat} {fa a : Addr} {fd : FuncData} {x : Str} {sp : Sp} {s : Shared} {vs : List Value} {H : Hp}
    (KX : K.In s.heap) (hns : s.heap.Ns mainGlobals mg) (hb : s.heap.Ns builtinsNs mb) (hbb : ∀ x : Str, x ≠ "__name__" → mb x = bootBuiltins x) (hlim : s.heap.NoLimit) (hg : s.gens = #[])
    (ha : s.heap.get? a = some { cls := .type "list", data := .seq vs.toArray }) (hr : Room k callerA)
    (F : ∀ base : Heap, K.In base → base.Ns mainGlobals mg → FnOkG P w K mg base k fa fd [x] sp) (hbind : BindsTo s fd ⟨[.ref a], []⟩ [(x, .ref a)])
    (hO : Only H) (hok : HOk P w H s.heap) (hA : ∀ b, H b ≠ none → b = a) (hK : H a ≠ none → K.lookup a = none) (hsp : sp [.ref a] H (fun v _ => v = .bl true) L2.E0) :
    codeAny (model P w) callerA (.call (.ref fa) ⟨[.ref a], []⟩) (fun r s' => r = .ok (.ret (.bool true)) ∧ OldK s.heap s'.heap ∧ s'.os = s.os ∧ AllBare s'.gens) s := by
  have off : ∀ {b : Addr} {o : Obj}, s.heap.get? b = some o → (∀ es, o.data ≠ .seq vs.toArray es) → H b = none := fun {b o} e n => by
    cases q : H b with
    | none => rfl
    | some u =>
      have eb := hA b (by rw [q]; exact Option.some_ne_none _)
      subst eb
      rw [ha] at e
      cases e
      exact absurd rfl (n _)
  have stays : ∀ {b : Addr} {m : Str → Option Value}, s.heap.Ns b m → (hidT s.heap H).Ns b m := fun {b m} ⟨o, es, ep, e, d, r⟩ => ⟨o, es, ep, hidT_get e (off e fun n z => by rw [d] at z; cases z), d, r⟩
  have kin : K.In (hidT s.heap H) := fun b o e => hidT_get (KX b o e) (by
    cases q : H b with
    | none => rfl
    | some u =>
      have eb := hA b (by rw [q]; exact Option.some_ne_none _)
      subst eb
      rw [hK (by rw [q]; exact Option.some_ne_none _)] at e
      cases e)
  have lim : (hidT s.heap H).NoLimit := by
    obtain ⟨mc, h1, h2⟩ := hlim
    exact ⟨mc, stays h1, h2⟩
  have e0 : Env0 P w K mg (hidT s.heap H) callerA [] s H := ⟨rfl, ⟨kin, stays hns, ⟨mb, stays hb, hbb⟩, lim⟩, fun b o e => of_hidT e, Nat.le_of_eq (hidT_size _ _), trivial, fun b h => absurd h List.not_mem_nil, hok, .of_eq hg⟩
  refine codeAny_mono ((F _ kin (stays hns)).run callerA [] s H ⟨[.ref a], []⟩ [.ref a] [.ref a] _ hr rfl e0 hbind (.cons rfl .nil) hsp) fun r s' h => ?_
  cases r with
  | error e => exact False.elim h
  | ok fl =>
    cases fl with
    | next => exact False.elim h
    | brk => exact False.elim h
    | cont => exact False.elim h
    | ret u =>
      obtain ⟨v, H', os, bare, un, hok', rv, q⟩ := h
      have q' : v = .bl true := q
      subst q'
      cases rv
      refine ⟨rfl, OldK.of_keep fun b o e => ?_, os, bare⟩
      cases z : H b with
      | none => exact un.keep b o e z (fun z => absurd z List.not_mem_nil) List.not_mem_nil
      | some u =>
        rcases hO b with z1 | ⟨ob, xs, z1⟩
        · rw [z] at z1; cases z1
        · obtain ⟨e1, _⟩ := hok b _ z1
          obtain ⟨e2, _⟩ := hok' b _ (un.frzs b ob _ z1)
          rw [e] at e1
          cases e1
          exact e2
theorem law_callG {P : Program} {w : World} {K : PySem.W.Frag} {mg mb : Str → Option Value} {k : Nat} {fa a : Addr} {fd : FuncData} {x : Str} {sp : Sp} {s : Shared} {vs : List Value} {ns : List Int}
    (KX : K.In s.heap) (hns : s.heap.Ns mainGlobals mg) (hb : s.heap.Ns builtinsNs mb) (hbb : ∀ x : Str, x ≠ "__name__" → mb x = bootBuiltins x) (hlim : s.heap.NoLimit) (hg : s.gens = #[])
    (ha : s.heap.get? a = some { cls := .type "list", data := .seq vs.toArray }) (hi : IntsAre vs ns) (hz : ns.length ≤ sizeLine) (hr : Room k callerA)
    (F : ∀ base : Heap, K.In base → base.Ns mainGlobals mg → FnOkG P w K mg base k fa fd [x] sp) (hbind : BindsTo s fd ⟨[.ref a], []⟩ [(x, .ref a)])
    (hsp : ∀ H : Hp, Only H → SqL K H a (ns.map V.int) → sp [.ref a] H (fun v _ => v = .bl true) L2.E0) :
    codeAny (model P w) callerA (.call (.ref fa) ⟨[.ref a], []⟩) (fun r s' => r = .ok (.ret (.bool true)) ∧ OldK s.heap s'.heap ∧ s'.os = s.os ∧ AllBare s'.gens) s := by
  have rv := vals_ints hi
  have core := fun (H : Hp) hO hok hA hK hS => law_coreG (sp := sp) (H := H) KX hns hb hbb hlim hg ha hr F hbind hO hok hA hK (hsp H hO hS)
  cases hk : K.lookup a with
  | some o =>
    have e := KX a o hk
    rw [ha] at e
    cases e
    exact core (fun _ => none) (fun _ => .inl rfl) (fun b u z => nomatch (show (none : Option HO) = some u from z)) (fun b z => absurd rfl z) (fun z => absurd rfl z)
      (.inr ⟨_, vs.toArray, _, hk, rfl, rfl, rfl, by rw [List.size_toArray, hi.length]; exact hz, by simpa using rv⟩)
  | none =>
    refine core (fun b => if b = a then some (.frz { cls := .type "list", data := .seq vs.toArray } (.lst (ns.map V.int))) else none) (fun b => ?_) (fun b u z => ?_) (fun b z => ?_) (fun _ => hk) (.inl (.inr ⟨{ cls := .type "list", data := .seq vs.toArray }, if_pos rfl⟩))
    · by_cases c : b = a
      · exact .inr ⟨_, _, if_pos c⟩
      · exact .inl (if_neg c)
    · by_cases c : b = a
      · cases (if_pos c).symm.trans z
        subst c
        exact ⟨ha, by rw [List.length_map]; exact hz, vs, _, rv, ha⟩
      · cases (if_neg c).symm.trans z
    · by_cases c : b = a
      · exact c
      · exact absurd (if_neg c) z
theorem walk_G {l : PySem.W.OpenLaw} {n k : Nat} {q : Program} {loose : List Str} {XP : (Str → Option Value) → Heap → Prop} {YP : World → Heap → Prop} {d : DefRec} {x : Str}
    (hn : l.most = some n) (hn2 : n ≤ sizeLine) (hdf : d.params.defaults = []) (hr : Room k callerA)
    (F : ∀ (w : World) (mg : Str → Option Value) (fa : Addr) (h : Heap), YP w h → h.Ns mainGlobals mg → mg d.name = some (.ref fa) →
      ∃ (K : PySem.W.Frag) (fd : FuncData) (sp : Sp), K.In h ∧ (∀ (s : Shared) (u : Value), BindsTo s fd ⟨[u], []⟩ [(x, u)]) ∧
        (∀ (H : Hp) (a : Addr) (ns : List Int), SqL K H a (ns.map V.int) → sp [.ref a] H (fun v _ => v = .bl true) L2.E0) ∧
        ∀ base : Heap, K.In base → base.Ns mainGlobals mg → FnOkG l.prog w K mg base k fa fd [x] sp) :
    PySem.W.WalkO q loose XP YP l.row.toRowW d [] (fun f vs => PySem.call f vs) :=
  Att.attach_call hn hdf fun w s₀ s₁ mg mb fa o pm cd doc a vs ns G Y ho hd hcd hmg hobj hints hlen hg => by
    obtain ⟨K, fd, sp, KX, hb, hsp, hF⟩ := F w mg fa _ Y G.T.g hmg
    exact law_callG KX G.T.g G.T.b G.T.builtins G.T.nolimit hg hobj hints (Nat.le_trans hlen hn2) hr hF (hb s₁ (.ref a)) fun H _ hS => hsp H a ns hS
end VF
set_option maxRecDepth 100000
set_option maxHeartbeats 4000000
namespace VF
set_option autoImplicit false
open PySem PySem.Spec PyProof.Rows L2
open AT (cells cellsL er ers)
section
variable {K : PySem.W.Frag} {mg : Str → Option Value} {F : Hp} {E : XS}
end
section
variable {X : Cx} {E : XS} {a b : Expr} {pos : Pos} {mr : M (List RV)}
end
end VF
set_option maxRecDepth 100000
set_option maxHeartbeats 4000000
namespace VF
set_option autoImplicit false
open PySem PySem.Spec PyProof.Rows L2
open NdefX (NF NScope)
theorem oex_ok {K : PySem.W.Frag} {C : Addr} (h : oexB K C = true) (h' : oexB2 K C = true) : OexC K C := by
  obtain ⟨a1, h'⟩ := ba h'
  obtain ⟨a2, h'⟩ := ba h'
  obtain ⟨a3, a4⟩ := ba h'
  refine ⟨?_, of_decide_eq_true a1, of_decide_eq_true a2, of_decide_eq_true a3, a4⟩
  unfold oexB at h
  split at h
  · rename_i dd cd sl q
    split at h
    · rename_i C' bm k0 k1 k2 k3 n k5 hm hs
      obtain ⟨h1, h⟩ := ba h
      obtain ⟨h2, h⟩ := ba h
      obtain ⟨h3, h⟩ := ba h
      obtain ⟨h4, h5⟩ := ba h
      obtain ⟨nm, bs, mro, ns, qn, hd, sn, sub, ab, col, del⟩ := cd
      dsimp only at hm h3 h4
      have e1 := of_decide_eq_true h1
      have e2 := of_decide_eq_true h2
      have e3 : del = false := by simpa using h3
      subst e1 e2 e3 h4 hm
      have hsl : sl = #[k0, k1, k2, k3, some (.builtin "ValueError.__new__"), k5] := by
        obtain ⟨l⟩ := sl
        simp only at hs
        rw [hs]
      subst hsl
      exact ⟨nm, qn, ns, bs, bm, sn, sub, ab, col, dd, k0, k1, k2, k3, k5, q, h5⟩
    · cases h
  · cases h
theorem ini_ok {P : Program} {K : PySem.W.Frag} {mg : Str → Option Value} {C f : Addr} {d : IniD} (h : iniB P K C f d.qual = true) (e : fnZ K f = d.val) (hs : mg "super" = none) :
    ∃ (cc cda : Addr) (fd : FuncData) (oc kV doc pm ct : Value) (od an : Option Addr) (osl : Array (Option Value)), IniK P K mg C f cc cda ⟨"__init__", d.qual, d.params, d.body, d.scope, [(("__class__" : Str), cc)], cda⟩ ∧
      fd = PySem.W.fnX "__init__" d.qual d.params d.body d.scope [(("__class__" : Str), cc)] .none kV doc pm an (.ref cda) ct ∧ K.lookup f = some ⟨oc, od, .func fd, osl⟩ := by
  unfold iniB at h
  obtain ⟨h1, h⟩ := ba h
  obtain ⟨h2, h⟩ := ba h
  obtain ⟨h3, h⟩ := ba h
  obtain ⟨h4, h⟩ := ba h
  obtain ⟨h5, h⟩ := ba h
  obtain ⟨h6, h⟩ := ba h
  obtain ⟨h7, h⟩ := ba h
  obtain ⟨h8, h⟩ := ba h
  obtain ⟨h9, h⟩ := ba h
  obtain ⟨h10, h11⟩ := ba h
  unfold cellB at h3
  unfold fnZ at e
  cases q : K.lookup f with
  | none => rw [q] at h3; cases h3
  | some o =>
    obtain ⟨oc, od, dt, osl⟩ := o
    rw [q] at h3 e
    cases dt with
    | func fd =>
      obtain ⟨n1, n2, n3, n4, n5, n6, n7, n8, n9, n10, n11, n12, n13, n14, n15⟩ := fd
      have e2 : (some (n1, n2, n3, n4, n5, n6, n7.map (·.1), n15) : FnZ) = some (("__init__" : Str), d.qual, d.params, FuncBody.stmts d.body, d.scope, mainGlobals, [("__class__" : Str)], builtinsNs) := e
      simp only [Option.some.injEq, Prod.mk.injEq] at e2
      obtain ⟨r1, r2, r3, r4, r5, r6, r7, r8⟩ := e2
      subst r1 r2 r3 r4 r5 r6 r8
      dsimp only at h3
      match n7, n13, n8, h3, r7, q with
      | [(x, cc)], .ref cda, .none, h3, r7, q =>
        obtain ⟨k1, h3⟩ := ba h3
        obtain ⟨k2, k3⟩ := ba h3
        have ex : x = ("__class__" : Str) := by simpa using r7
        subst ex
        refine ⟨cc, cda, _, oc, n9, n10, n11, n14, od, n12, osl, ⟨oex_ok h1 h2, ⟨oc, od, .none, n9, n10, n11, n12, n14, osl, q⟩, k1, ?_, ?_, ?_, of_decide_eq_true h5, hs, by simpa using h6, of_decide_eq_true h7, of_decide_eq_true h8, of_decide_eq_true h9, of_decide_eq_true h10, of_decide_eq_true h11, rfl, rfl⟩, rfl, rfl⟩
        · split at k2
          · rename_i z1 z2 vs z3 z4
            split at k2
            · rename_i file tf z5
              exact ⟨_, _, vs, _, file, tf, z4, z5, k2⟩
            · cases k2
          · cases k2
        · split at k3
          · rename_i z1 z2 D z3 z4
            have := of_decide_eq_true k3
            subst this
            exact ⟨_, _, _, z4⟩
          · cases k3
        · exact Option.isSome_iff_exists.mp h4
    | _ => cases h3
def ErrK (P : Program) (K : PySem.W.Frag) (mg : Str → Option Value) (C : Addr) (d : IniD) : Prop := ∃ (f cc cda : Addr) (fd : FuncData) (oc kV doc pm ct : Value) (od an : Option Addr) (osl : Array (Option Value)), IniK P K mg C f cc cda ⟨"__init__", d.qual, d.params, d.body, d.scope, [(("__class__" : Str), cc)], cda⟩ ∧
      fd = PySem.W.fnX "__init__" d.qual d.params d.body d.scope [(("__class__" : Str), cc)] .none kV doc pm an (.ref cda) ct ∧ K.lookup f = some ⟨oc, od, .func fd, osl⟩
theorem errK {P : Program} {K : PySem.W.Frag} {mg : Str → Option Value} {C f : Addr} {d : IniD} (h : iniB P K C f d.qual = true) (e : fnZ K f = d.val) (hs : mg "super" = none) : ErrK P K mg C d := ⟨f, ini_ok h e hs⟩
section
variable {P : Program} {w : World} {K : PySem.W.Frag} {mg : Str → Option Value} {base : Heap} {C : Addr} {d : IniD} {x f g : Str} {v1 v2 : Expr} {es : List Expr} {p0 p1 p2 pos pos' q0 q1 q2 q3 r0 r1 r2 r3 jp : Pos} {ar : Arg}
theorem errF1 (T : ErrK P K mg C d) (hg : mg x = some (.ref C)) (S : NScope [("self" : Str), f, "__class__"] [("self" : Str), f] [("__class__" : Str)] d.scope) (hp : (d.params.posonlyargs ++ d.params.args).head? = some ar) (har : ar.arg = "self") (hks : d.scope.names.lookup ("super" : Str) = some .globalImplicit)
    (hb : d.body = [.Expr (.Call (.Attribute (.Call (.Name "super" p0) [] [] p1) "__init__" p2) [.JoinedStr (v1 :: v2 :: es) jp] [] pos) pos', .Assign [.Attribute (.Name "self" q0) f q1] (.Name f q2) q3])
    {pl : PySem.Env → Sem Bool} (hev : ∀ env : PySem.Env, eval (.Call (.Attribute (.Call (.Name "super" p0) [] [] p1) "__init__" p2) [.JoinedStr (v1 :: v2 :: es) jp] [] pos) env = (do
      let ov ← attributeBase (.Call (.Name "super" p0) [] [] p1) "__init__" env (eval (.Call (.Name "super" p0) [] [] p1) env)
      standAt p2.atName
      let (f, first) ← holding [ov] (getMethod ov "__init__" (pl env))
      callWith pos f first (backTo pos (starEach [.JoinedStr (v1 :: v2 :: es) jp] env)) []))
    (hes : es.length ≤ 100) (hpt : ∀ (X : Cx), X.N = [("self" : Str), f, "__class__"] → X.env.scope = d.scope → Pts X [1] (v1 :: v2 :: es)) (hno : PySem.W.findIn K (.ref C) f = some none)
    (hbd : ∀ (cc cda : Addr) (kV doc pm ct : Value) (an : Option Addr) (us : List Value), us.length = 2 → bindArgs (PySem.W.fnX "__init__" d.qual d.params d.body d.scope [(("__class__" : Str), cc)] .none kV doc pm an (.ref cda) ct) ⟨us, []⟩ = pure ([("self" : Str), f].zip us))
    (hd1 : (f == ("__debug__" : Str)) = false := by decide) (hd2 : (f == ("__classdict__" : Str)) = false := by decide) : ErrF P w K mg base x C [f] := by
  obtain ⟨fI, cc, cda, fd, oc, kV, doc, pm, ct, od, an, osl, T, hfd, lk⟩ := T
  refine ⟨hg, T.T, fI, fd, T.iC, T.tI, .all fun us hl => ?_, ini1 (k := 0) T S hfd lk hp har hks hb hev hes hpt hno hd1 hd2⟩
  subst hfd
  exact hbd cc cda kV doc pm ct an us hl
end
inductive CatT (K : PySem.W.Frag) (mg : Str → Option Value) (c : Value) : List Str → Prop
  | nil : CatT K mg c []
  | cons {y : Str} {C : Addr} {t : List Str} (g : mg y = some (.ref C)) (m : PySem.W.exmOne K (.ref C) c = some true) (r : CatT K mg c t) : CatT K mg c (y :: t)
theorem CatT.at {K : PySem.W.Frag} {mg : Str → Option Value} {c : Value} {t : List Str} (T : CatT K mg c t) {y : Str} {C : Addr} (h : y ∈ t) (g : mg y = some (.ref C)) : PySem.W.exmOne K (.ref C) c = some true := by
  induction T with
  | nil => cases h
  | @cons y' C' t g' m r ih =>
    rcases List.mem_cons.mp h with q | q
    · subst q
      rw [g] at g'
      cases g'
      exact m
    · exact ih q
def gOn (t : List Str) (h : Exc → Option SV) : Exc → Option SV := fun x => if x.c ∈ t then h x else none
theorem CatT.hm {K : PySem.W.Frag} {mg : Str → Option Value} {c : Value} {t : List Str} (T : CatT K mg c t) (h : Exc → Option SV) : ∀ (y : Exc) (s : SV) (C : Addr), gOn t h y = some s → mg y.c = some (.ref C) → PySem.W.exmOne K (.ref C) c = some true := fun y s C q g => by
  unfold gOn at q
  by_cases z : y.c ∈ t
  · exact T.at z g
  · rw [if_neg z] at q; cases q
theorem su_on {X : Cx} {i : Nat} {ss : List Stmt} {h : Exc → Option SV} (t : List Str) (H : SuB X i ss h) : SuB X i ss (gOn t h) := fun a x C pn s I q => by
  unfold gOn at q
  by_cases z : x.c ∈ t
  · rw [if_pos z] at q; exact H a x C pn s I q
  · rw [if_neg z] at q; cases q
end VF
set_option maxRecDepth 100000
set_option maxHeartbeats 4000000
namespace VF
set_option autoImplicit false
open PySem PySem.Spec PyProof.Rows L2
section
variable {X : Cx} {E : XS} {a b : Expr} {ma mb : M RV} {pos : Pos}
end
end VF
set_option maxRecDepth 100000
set_option maxHeartbeats 4000000
namespace VF
set_option autoImplicit false
open PySem PySem.Spec PyProof.Rows L2
open AT (cells cellsL er ers)
section
variable {K : PySem.W.Frag} {mg : Str → Option Value} {pv : List (Nat × V)} {F F' H H' : Hp} {σ : L2.St} {e e' : Env} {as as' : List (Option AT)} {held tr ts us : List AT} {E : XS}
end
section
variable {X : Cx} {E : XS} {a : Expr} {ma : M RV} {pos : Pos}
end
end VF
set_option maxRecDepth 100000
set_option maxHeartbeats 4000000
namespace VF
set_option autoImplicit false
open PySem PySem.Spec PyProof.Rows L2
open AT (cells cellsL er ers)
section
variable {K : PySem.W.Frag} {mg : Str → Option Value} {pv : List (Nat × V)} {F F' H H' : Hp} {σ : L2.St} {e e' : Env} {as as' : List (Option AT)} {held tr ts us : List AT} {E : XS}
end
section
variable {X : Cx} {CX : CXT} {k : Nat} {f C : Addr} {fd : FuncData} {ps : List Str} {sp : Sp} {x : Str} {p pos : Pos} {e : Expr} {es : List Expr} {t : TA}
end
section
variable {X : Cx} {E : XS} {a : Expr} {pos : Pos} {es : List Expr} {mr : M (List RV)}
end
end VF
set_option maxRecDepth 100000
set_option maxHeartbeats 4000000
namespace VF
set_option autoImplicit false
open PySem PySem.Spec PyProof.Rows L2
open AT (cells cellsL er ers)
section
variable {K : PySem.W.Frag} {mg : Str → Option Value} {pv : List (Nat × V)} {F F' H H' : Hp} {σ : L2.St} {e e' : Env} {as as' : List (Option AT)} {held tr ts us : List AT} {E : XS}
def rI (op : Int → Int → Int) : V → V → Hp → VK → Prop := fun x y H Q => ∃ i j, x = .int i ∧ y = .int j ∧ Q (.int (op i j)) H
end
section
variable {X : Cx} {E : XS} {a : Expr} {ma : M RV} {pos : Pos}
end
end VF
set_option maxRecDepth 100000
set_option maxHeartbeats 4000000
namespace VF
set_option autoImplicit false
open PySem PySem.Spec PyProof.Rows L2
open AT (cells cellsL er ers)
def tLen (n : Nat) (tk : TA) : TA := fun σ H Q => tk σ H fun zs H2 => zs.length = n ∧ Q zs H2
def tAppN (n k : Nat) (t tk : TA) : TA := fun σ H Q => t σ H fun vs H1 => tk σ H1 fun zs H2 => vs.length = n ∧ zs.length = k ∧ Q (vs ++ zs) H2
def tPlus (t : TA) (dvs : List V) : TA := fun σ H Q => t σ H fun vs H1 => Q (vs ++ dvs) H1
structure VKw (X : Cx) (E : XS) (kws : List Keyword) (n : Nat) (m : M (List RV)) : Prop where
  go : ∃ tk, PK X kws tk ∧ SA X.K X.mg E (tLen n tk) m
structure VAK (X : Cx) (E : XS) (es : List Expr) (kws : List Keyword) (n k : Nat) (m : M (List RV)) : Prop where
  go : ∃ t tk, L2.PA X es t ∧ PK X kws tk ∧ SA X.K X.mg E (tAppN n k t tk) m
structure VAD (X : Cx) (E : XS) (es : List Expr) (dvs : List V) (m : M (List RV)) : Prop where
  go : ∃ t, L2.PA X es t ∧ SA X.K X.mg E (tPlus t dvs) m
section
variable {X : Cx} {E : XS} {a : Expr} {es : List Expr} {kws : List Keyword} {ma : M RV} {mr : M (List RV)} {nm : Option Str} {kpos pos : Pos} {n k : Nat} {dvs : List V}
end
section
variable {X : Cx} {CX : CXT} {k n : Nat} {f : Addr} {fd : FuncData} {ps ks : List Str} {sp : Sp} {x : Str} {p pos : Pos} {e : Expr} {es : List Expr} {kws : List Keyword} {t tk : TA} {dvs : List V} {ds : List Value}
variable {E : XS} {md : List Bool} {φ : Fn} {mr : M (List RV)}
end
section
variable {K : PySem.W.Frag} {x qual : Str} {params : Arguments} {body : List Stmt} {scope : Scope} {kws : List (Str × V)} {f : Addr} {fd : FuncData} {ps ks : List Str} {n : Nat}
end
end VF
set_option maxRecDepth 100000
set_option maxHeartbeats 4000000
namespace L2
open PySem PySem.Spec PyProof.Rows
section
variable {prog : Program} {w : World} {A : Around} {R : Result → Shared → Prop} {s : Shared} {elt : Expr} {gens : List Comprehension} {g : Comprehension} {scope : Scope} {pos : Pos} {it acc : Value} {env : Env} {k : Nat}
end
structure ClR where
  wi : TI
  g : TG
  tt : TT
  vs : List Nat
inductive ClOk (B : Cx) : List Nat → List ClR → List Comprehension → Prop
  | nil {own : List Nat} : ClOk B own [] []
  | cons {own : List Nat} {c : ClR} {g : Comprehension} {cs : List ClR} {gs : List Comprehension} : PI B g.target g.iter c.wi → PG B g.target c.g → PTs B g.ifs c.tt → (∀ env x, foldedSetIterable g.iter env x = pure x) → g.is_async = 0 → (∀ i ∈ c.vs, i ∈ own) → ClOk B c.vs cs gs → ClOk B own (c :: cs) (g :: gs)
section
variable {X : Cx}
end
end L2
set_option maxRecDepth 100000
set_option maxHeartbeats 4000000
namespace VF
set_option autoImplicit false
open PySem PySem.Spec PyProof.Rows L2
open AT (cells cellsL er ers)
structure ClM where
  mi : M (List D)
  g : Tg
  mt : M Bool
  vs : List Nat
section
variable {K : PySem.W.Frag} {mg : Str → Option Value}
inductive ClV (K : PySem.W.Frag) (mg : Str → Option Value) : List Nat → List ClR → List ClM → Prop
  | nil {own : List Nat} : ClV K mg own [] []
  | cons {own L : List Nat} {c : ClR} {m : ClM} {cs : List ClR} {ms : List ClM} : SI K mg E0 c.wi m.mi → SG K mg L c.g m.g → (∀ i ∈ L, i ∈ m.vs) → ST K mg E0 c.tt m.mt → c.vs = m.vs → (∀ i ∈ m.vs, i ∈ own) → ClV K mg m.vs cs ms → ClV K mg own (c :: cs) (m :: ms)
variable {pv : List (Nat × V)} {held : List AT}
end
section
def wI (K : PySem.W.Frag) (mg : Str → Option Value) (E : XS) (m : M (List D)) : TI := fun σ H R => ∃ pv F e as held, Cf K mg pv F H σ e as held ∧ WI K mg pv F held σ R E (m e)
theorem VI.w {X : Cx} {E : XS} {tg it : Expr} {m : M (List D)} (h : VI X E tg it m) : PI X tg it (wI X.K X.mg E m) := by
  obtain ⟨t, p, s⟩ := h
  exact ⟨fun pins s0 σ H R I ⟨pv, F, e, as, held, c, w⟩ => p.run pins s0 σ H R I (s pv F H σ e as held R c w)⟩
theorem VG.more {X : Cx} {L L' : List Nat} {tg : Expr} {g : Tg} (h : VG X L tg g) (hl : ∀ i ∈ L, i ∈ L') : VG X L' tg g :=
  ⟨fun pins s0 σ H v u Q I r ⟨pv, F, e, as, held, d, e', c, rp, q, k⟩ => h.run pins s0 σ H v u Q I r ⟨pv, F, e, as, held, d, e', c, rp, q, fun σ' as' hw c' => k σ' as' (fun vs hv => hw vs fun i hi => hv i (hl i hi)) c'⟩⟩
variable {X : Cx} {E : XS}
variable {tg it : Expr} {mi : M (List D)} {g : Tg} {L : List Nat} {me : M RV} {pos : Pos}
end
end VF
set_option maxRecDepth 100000
set_option maxHeartbeats 4000000
namespace VF
set_option autoImplicit false
open PySem PySem.Spec PyProof.Rows L2
open AT (cells cellsL er ers)
def AT.kids : AT → List AT
  | .fz _ _ => []
  | .ol _ xs => xs
  | .oo _ _ _ _ _ xs => xs
  | .od _ _ xs => xs
def AT.setKid (t : AT) (k : Nat) (u : AT) : AT := match t with
  | .fz v d => .fz v d
  | .ol p xs => .ol p (xs.set k u)
  | .oo p C dx c ns xs => .oo p C dx c ns (xs.set k u)
  | .od p ks xs => .od p ks (xs.set k u)
def AT.sub : List Nat → AT → Option AT
  | [], t => some t
  | k :: p, t => match t.kids[k]? with
    | some c => AT.sub p c
    | none => none
def AT.put : List Nat → AT → AT → AT
  | [], u, _ => u
  | k :: p, u, t => match t.kids[k]? with
    | some c => t.setKid k (AT.put p u c)
    | none => t
def SV.kids : SV → List SV
  | .fz _ => []
  | .ol xs => xs
  | .oo _ _ xs => xs
  | .od _ xs => xs
def SV.setKid (t : SV) (k : Nat) (u : SV) : SV := match t with
  | .fz d => .fz d
  | .ol xs => .ol (xs.set k u)
  | .oo c ns xs => .oo c ns (xs.set k u)
  | .od ks xs => .od ks (xs.set k u)
def SV.sub : List Nat → SV → Option SV
  | [], t => some t
  | k :: p, t => match t.kids[k]? with
    | some c => SV.sub p c
    | none => none
def SV.put : List Nat → SV → SV → SV
  | [], u, _ => u
  | k :: p, u, t => match t.kids[k]? with
    | some c => t.setKid k (SV.put p u c)
    | none => t
theorem perm_at {α : Type} : ∀ {xs : List α} {k : Nat} {c : α}, xs[k]? = some c → xs.Perm (c :: xs.eraseIdx k)
  | x :: xs, 0, c, h => by
    have e : x = c := by simpa using h
    subst e; exact List.Perm.refl _
  | x :: xs, k + 1, c, h => (((perm_at (xs := xs) (k := k) (by simpa using h)).cons x).trans (List.Perm.swap _ _ _))
theorem perm_setk {α : Type} : ∀ {xs : List α} {k : Nat} {c : α} (u : α), xs[k]? = some c → (xs.set k u).Perm (u :: xs.eraseIdx k)
  | x :: xs, 0, c, u, h => List.Perm.refl _
  | x :: xs, k + 1, c, u, h => (((perm_setk (xs := xs) (k := k) u (by simpa using h)).cons x).trans (List.Perm.swap _ _ _))
theorem vals_set {xs : List AT} {k : Nat} {c u : AT} (h : xs[k]? = some c) (e : u.val = c.val) : vals (xs.set k u) = vals xs := by
  unfold vals
  rw [List.map_set]
  refine List.ext_getElem? fun i => ?_
  rw [List.getElem?_set]
  split
  · rename_i q
    subst q
    split
    · rw [List.getElem?_map, h, Option.map_some, e]
    · rename_i hl
      rw [List.getElem?_eq_none_iff.mpr (by omega)]
  · rfl
theorem setKid_val (k : Nat) (u t : AT) : (t.setKid k u).val = t.val := by cases t <;> rfl
theorem put_val : ∀ {p : List Nat} {u t s : AT}, AT.sub p t = some s → u.val = s.val → (AT.put p u t).val = t.val
  | [], u, t, s, h, e => by cases h; exact e
  | k :: p, u, t, s, h, e => by
    unfold AT.sub at h
    unfold AT.put
    cases q : t.kids[k]? with
    | none => rfl
    | some c => exact setKid_val _ _ _
theorem kid_cells {t c : AT} {k : Nat} (h : t.kids[k]? = some c) : ∃ ctx, (cells t).Perm (ctx ++ cells c) ∧ ∀ u : AT, u.val = c.val → (cells (t.setKid k u)).Perm (ctx ++ cells u) := by
  have key : ∀ (xs : List AT) (root : Addr × HO), xs[k]? = some c → (root :: cellsL xs).Perm ((root :: cellsL (xs.eraseIdx k)) ++ cells c) ∧ ∀ u : AT, (root :: cellsL (xs.set k u)).Perm ((root :: cellsL (xs.eraseIdx k)) ++ cells u) := fun xs root hx => by
    have mv : ∀ u : AT, (cellsL (u :: xs.eraseIdx k)).Perm (cellsL (xs.eraseIdx k) ++ cells u) := fun u => List.perm_append_comm
    exact ⟨((cellsL_perm (perm_at hx)).trans (mv c)).cons root, fun u => ((cellsL_perm (perm_setk u hx)).trans (mv u)).cons root⟩
  cases t with
  | fz v d => simp [AT.kids] at h
  | ol p xs =>
    obtain ⟨h1, h2⟩ := key xs (p, .lst (vals xs)) h
    refine ⟨_, h1, fun u e => ?_⟩
    show ((p, HO.lst (vals (xs.set k u))) :: cellsL (xs.set k u)).Perm _
    rw [vals_set (xs := xs) (k := k) (c := c) h e]; exact h2 u
  | oo p C dx c' ns xs =>
    obtain ⟨h1, h2⟩ := key xs (p, .ins C dx (ns.zip (vals xs))) h
    refine ⟨_, h1, fun u e => ?_⟩
    show ((p, HO.ins C dx (ns.zip (vals (xs.set k u)))) :: cellsL (xs.set k u)).Perm _
    rw [vals_set (xs := xs) (k := k) (c := c) h e]; exact h2 u
  | od p ks xs =>
    obtain ⟨h1, h2⟩ := key xs (p, .dK (ks.zip (vals xs))) h
    refine ⟨_, h1, fun u e => ?_⟩
    show ((p, HO.dK (ks.zip (vals (xs.set k u)))) :: cellsL (xs.set k u)).Perm _
    rw [vals_set (xs := xs) (k := k) (c := c) h e]; exact h2 u
theorem sub_cells : ∀ {p : List Nat} {t s : AT}, AT.sub p t = some s → ∃ ctx, (cells t).Perm (ctx ++ cells s) ∧ ∀ u : AT, u.val = s.val → (cells (AT.put p u t)).Perm (ctx ++ cells u)
  | [], t, s, h => by cases h; exact ⟨[], List.Perm.refl _, fun u _ => List.Perm.refl _⟩
  | k :: p, t, s, h => by
    unfold AT.sub at h
    cases q : t.kids[k]? with
    | none => rw [q] at h; cases h
    | some c =>
      rw [q] at h
      obtain ⟨c1, a1, a2⟩ := kid_cells q
      obtain ⟨c2, b1, b2⟩ := sub_cells (p := p) h
      refine ⟨c1 ++ c2, ?_, fun u e => ?_⟩
      · rw [List.append_assoc]; exact a1.trans (b1.append_left c1)
      · unfold AT.put
        rw [q, List.append_assoc]
        exact (a2 _ (put_val h e)).trans ((b2 u e).append_left c1)
section
variable {K : PySem.W.Frag} {mg : Str → Option Value} {pv : List (Nat × V)} {F F' H H' : Hp} {σ : L2.St} {e e' : Env} {as as' : List (Option AT)} {held tr ts us : List AT} {E : XS}
theorem kid_ok {t c : AT} {k : Nat} (h : t.kids[k]? = some c) (ok : Ok K mg F t) : Ok K mg F c ∧ ∀ u : AT, Ok K mg F u → Ok K mg F (t.setKid k u) := by
  have key : ∀ xs : List AT, xs[k]? = some c → Oks K mg F xs → Ok K mg F c ∧ ∀ u : AT, Ok K mg F u → Oks K mg F (xs.set k u) := fun xs hx ok => ⟨Oks.mem.mp ok c (List.mem_of_getElem? hx), fun u hu => Oks.mem.mpr fun t ht => by
    rcases List.mem_or_eq_of_mem_set ht with z | z
    · exact Oks.mem.mp ok t z
    · rw [z]; exact hu⟩
  cases t with
  | fz v d => simp [AT.kids] at h
  | ol p xs => exact key xs h ok
  | oo p C dx c' ns xs => exact ⟨(key xs h ok.2.2).1, fun u hu => ⟨ok.1, by rw [List.length_set]; exact ok.2.1, (key xs h ok.2.2).2 u hu⟩⟩
  | od p ks xs => exact ⟨(key xs h ok.2).1, fun u hu => ⟨by rw [List.length_set]; exact ok.1, (key xs h ok.2).2 u hu⟩⟩
theorem sub_ok : ∀ {p : List Nat} {t s : AT}, AT.sub p t = some s → Ok K mg F t → Ok K mg F s ∧ ∀ u : AT, Ok K mg F u → Ok K mg F (AT.put p u t)
  | [], t, s, h, ok => by cases h; exact ⟨ok, fun u hu => hu⟩
  | k :: p, t, s, h, ok => by
    unfold AT.sub at h
    cases q : t.kids[k]? with
    | none => rw [q] at h; cases h
    | some c =>
      rw [q] at h
      obtain ⟨a1, a2⟩ := kid_ok q ok
      obtain ⟨b1, b2⟩ := sub_ok (p := p) h a1
      refine ⟨b1, fun u hu => ?_⟩
      unfold AT.put
      rw [q]
      exact a2 _ (b2 u hu)
theorem Good.part {p : List Nat} {t s u : AT} {as bs : List AT} (g : Good K mg F H (t :: us)) (h : AT.sub p t = some s) (hv : u.val = s.val) (hc : (cells s).Perm (cells u ++ cellsL as)) (hu : Ok K mg F u) (ha : Oks K mg F as) : Good K mg F H (AT.put p u t :: (as ++ us)) := by
  obtain ⟨ctx, h1, h2⟩ := sub_cells h
  have pm : (cellsL (t :: us)).Perm (cellsL (AT.put p u t :: (as ++ us))) := by
    show (cells t ++ cellsL us).Perm (cells (AT.put p u t) ++ cellsL (as ++ us))
    rw [cellsL_append, ← List.append_assoc]
    refine List.Perm.append_right _ ?_
    refine (h1.trans (hc.append_left ctx)).trans ?_
    rw [← List.append_assoc]
    exact ((h2 u hv).symm).append_right _
  refine ⟨fun c hc => g.at_ c (pm.mem_iff.mpr hc), ⟨(sub_ok h g.ok.1).2 u hu, Oks.append.mpr ⟨ha, g.ok.2⟩⟩, ((pm.map _).nodup_iff).mp g.nd⟩
theorem set_set {k : Nat} {t u w : AT} : (t.setKid k u).setKid k w = t.setKid k w := by
  cases t with
  | fz v d => rfl
  | ol a xs => show AT.ol a ((xs.set k u).set k w) = .ol a (xs.set k w); rw [List.set_set]
  | oo a C dx c' ns xs => show AT.oo a C dx c' ns ((xs.set k u).set k w) = .oo a C dx c' ns (xs.set k w); rw [List.set_set]
  | od a ks xs => show AT.od a ks ((xs.set k u).set k w) = .od a ks (xs.set k w); rw [List.set_set]
end
end VF
set_option maxRecDepth 100000
set_option maxHeartbeats 4000000
namespace VF
set_option autoImplicit false
open PySem PySem.Spec PyProof.Rows L2
open AT (cells cellsL er ers)
section
variable (K : PySem.W.Frag) (mg : Str → Option Value)
def WEj (j : Nat) (tj : AT) (pv : List (Nat × V)) (F : Hp) (held : List AT) (σ : L2.St) (Q : VK) (E : XS) : R RV → Prop
  | .st => False
  | .ok r e' => ∀ v F' H' as' tr, Same F F' → as'[j]? = some (some tj) → Cf K mg pv F' H' σ e' as' (tr ++ held) → RR σ v r tr → Q v H'
  | .ex x e' => WX K mg pv F held E x e'
def WAj (j : Nat) (tj : AT) (pv : List (Nat × V)) (F : Hp) (held : List AT) (σ : L2.St) (Q : List V → Hp → Prop) (E : XS) : R (List RV) → Prop
  | .st => False
  | .ok rs e' => ∀ vs F' H' as' tr, Same F F' → as'[j]? = some (some tj) → Cf K mg pv F' H' σ e' as' (tr ++ held) → RRs σ vs rs tr → Q vs H'
  | .ex x e' => WX K mg pv F held E x e'
def SEj (j : Nat) (E : XS) (t : TE) (m : M RV) : Prop := ∀ pv F H σ e as held tj Q, as[j]? = some (some tj) → Cf K mg pv F H σ e as held → WEj K mg j tj pv F held σ Q E (m e) → t σ H Q
def SAj (j : Nat) (E : XS) (t : TA) (m : M (List RV)) : Prop := ∀ pv F H σ e as held tj Q, as[j]? = some (some tj) → Cf K mg pv F H σ e as held → WAj K mg j tj pv F held σ Q E (m e) → t σ H Q
end
def frameM {α : Type} (j : Nat) (m : M α) : M α := fun e => match e.sl[j]? with
  | some (some s) => (match m (e.clr j) with
    | .ok a e' => if isClr e' j = true then .ok a (e'.setS j s) else .st
    | _ => .st)
  | _ => .st
section
variable {K : PySem.W.Frag} {mg : Str → Option Value} {pv : List (Nat × V)} {F F' H H' : Hp} {σ : L2.St} {e e' : Env} {as as' : List (Option AT)} {held tr ts us : List AT} {E : XS}
theorem Cf.fill {j : Nat} {t : AT} (c : Cf K mg pv F H σ e as (t :: held)) (hc : isClr e j = true) (hv : σ[j]? = some (some t.val)) : Cf K mg pv F H σ (e.setS j (er t)) (as.set j (some t)) held ∧ (as.set j (some t))[j]? = some (some t) := by
  have hi := isClr_ok hc
  have hai : as[j]? = some none := by
    rw [c.r.sl, List.getElem?_map] at hi
    cases z : as[j]? with
    | none => rw [z] at hi; cases hi
    | some o => cases o with
      | none => rfl
      | some u => rw [z] at hi; cases hi
  have hlt : j < as.length := (List.getElem?_eq_some_iff.mp hai).1
  refine ⟨⟨c.s, ⟨?_, by rw [List.length_set]; exact c.r.len, fun i u hj => ?_, c.r.pin⟩, ?_⟩, by simp [hlt]⟩
  · show e.sl.set j (some (er t)) = _
    rw [List.map_set, c.r.sl]; rfl
  · by_cases z : i = j
    · subst z
      rw [List.getElem?_set_self hlt] at hj
      cases hj
      exact hv
    · rw [List.getElem?_set_ne (Ne.symm z)] at hj
      exact c.r.at_ i u hj
  · have g : Good K mg F H (t :: (opts as ++ held)) := c.g.perm (List.perm_middle (l₁ := opts as) (l₂ := held) (a := t))
    exact g.perm ((opts_put t hai).append_right held)
theorem frame_st {α : Type} {j : Nat} {m : M α} {s : SV} (z : e.sl[j]? = some (some s)) : frameM j m e = match m (e.clr j) with
    | .ok a e' => if isClr e' j = true then .ok a (e'.setS j s) else .st
    | _ => .st := by unfold frameM; simp only [z]
theorem WEj.frame {j : Nat} {tj : AT} {m : M RV} {Q : VK} (hj : as[j]? = some (some tj)) (c : Cf K mg pv F H σ e as held) (w : WEj K mg j tj pv F held σ Q E (frameM j m e)) : WE K mg pv F (tj :: held) σ Q E (m (e.clr j)) := by
  rw [frame_st (c.r.slot hj)] at w
  have hv := c.r.at_ j tj hj
  cases q : m (e.clr j) with
  | st => rw [q] at w; exact w.elim
  | ok r e1 =>
    rw [q] at w
    by_cases hc : isClr e1 j = true
    · simp only [hc, if_true] at w
      intro v F1 H1 as1 tr1 s1 c1 rr1
      obtain ⟨c2, h2⟩ := (c1.perm (us' := tj :: (tr1 ++ held)) (List.perm_middle (l₁ := tr1) (l₂ := held) (a := tj))).fill hc hv
      exact w v F1 H1 _ tr1 s1 h2 c2 rr1
    · simp only [hc] at w; exact w.elim
  | ex x e1 => rw [q] at w; exact w.elim
end
end VF
set_option maxRecDepth 100000
set_option maxHeartbeats 4000000
namespace VF
set_option autoImplicit false
open PySem PySem.Spec PyProof.Rows L2
open AT (cells cellsL er ers)
section
variable {K : PySem.W.Frag} {mg : Str → Option Value} {pv : List (Nat × V)} {F F' H H' : Hp} {σ : L2.St} {e e' : Env} {as as' : List (Option AT)} {held tr ts us : List AT} {E : XS}
end
section
variable {K : PySem.W.Frag} {mg : Str → Option Value} {F H : Hp} {σ : L2.St} {us : List AT}
end
end VF
set_option maxRecDepth 100000
set_option maxHeartbeats 4000000
namespace VF
set_option autoImplicit false
open PySem PySem.Spec PyProof.Rows L2
open AT (cells cellsL er ers)
section
variable {K : PySem.W.Frag} {mg : Str → Option Value} {pv : List (Nat × V)} {F F' H H' : Hp} {σ : L2.St} {e e' : Env} {as as' : List (Option AT)} {held tr ts us : List AT} {E : XS}
end
end VF
set_option maxRecDepth 100000
set_option maxHeartbeats 4000000
namespace VF
set_option autoImplicit false
open PySem PySem.Spec PyProof.Rows L2
open AT (cells cellsL er ers)
structure VEj (X : Cx) (j : Nat) (E : XS) (e : Expr) (m : M RV) : Prop where
  go : ∃ t, PE X e t ∧ SEj X.K X.mg j E t m
structure VAj (X : Cx) (j : Nat) (E : XS) (es : List Expr) (m : M (List RV)) : Prop where
  go : ∃ t, L2.PA X es t ∧ SAj X.K X.mg j E t m
section
variable {X : Cx} {E : XS} {a : Expr} {es : List Expr} {ma : M RV} {mr : M (List RV)} {pos : Pos} {j : Nat}
variable {CX : CXT} {k : Nat} {f : Addr} {fd : FuncData} {ps : List Str} {x y : Str} {p p1 p2 : Pos} {md : List Bool} {φ : Fn} {φL : SV → Option D}
end
end VF
set_option maxRecDepth 100000
set_option maxHeartbeats 4000000
namespace VF
set_option autoImplicit false
open PySem PySem.Spec PyProof.Rows L2
open AT (cells cellsL er ers)
section
variable {K : PySem.W.Frag} {mg : Str → Option Value} {E : XS}
end
end VF
set_option maxRecDepth 100000
set_option maxHeartbeats 4000000
namespace VF
set_option autoImplicit false
open PySem PySem.Spec PyProof.Rows L2
open AT (cells cellsL er ers)
abbrev Key := L2.Key
section
variable {K : PySem.W.Frag} {mg : Str → Option Value} {pv : List (Nat × V)} {F F' H H' : Hp} {σ : L2.St} {e e' : Env} {as as' : List (Option AT)} {held tr ts us : List AT} {E : XS}
def tPs : List Key → List TE → List (TE × TE)
  | k :: ks, t :: ts => (tC (kV k), t) :: tPs ks ts
  | _, _ => []
def SPs (K : PySem.W.Frag) (mg : Str → Option Value) (E : XS) (ks : List Key) (ts : List TE) (m : M (List RV)) : Prop := ∀ pv F H σ e as held (Q : List (V × V) → Hp → Prop), Cf K mg pv F H σ e as held → WA K mg pv F held σ (fun vs H => vs.length = ks.length → Q ((ks.map kV).zip vs) H) E (m e) → tPairs (tPs ks ts) σ H Q
end
end VF
set_option maxRecDepth 100000
set_option maxHeartbeats 4000000
namespace VF
set_option autoImplicit false
open PySem PySem.Spec PyProof.Rows L2
open AT (cells cellsL er ers)
section
variable {K : PySem.W.Frag} {mg : Str → Option Value} {pv : List (Nat × V)} {F F' H H' : Hp} {σ : L2.St} {e e' : Env} {as as' : List (Option AT)} {held tr ts us : List AT} {E : XS}
end
structure VD (X : Cx) (E : XS) (pos : Pos) (keys : List (Option Expr)) (values : List Expr) (ks : List Key) (m : M (List RV)) : Prop where
  go : ∃ ts, PPs X pos keys values (tPs ks ts) ∧ SPs X.K X.mg E ks ts m
section
variable {X : Cx} {E : XS} {a : Expr} {es : List Expr} {ma : M RV} {mr : M (List RV)} {pos p1 : Pos} {j : Nat} {s : Str} {kd : Nat}
variable {CX : CXT} {k : Nat} {f : Addr} {fd : FuncData} {ps : List Str} {x y : Str} {p p2 p3 : Pos} {md : List Bool} {φ : Fn}
end
end VF
set_option maxRecDepth 100000
set_option maxHeartbeats 4000000
namespace VF
set_option autoImplicit false
open PySem PySem.Spec PyProof.Rows L2
open AT (cells cellsL er ers)
section
variable {K : PySem.W.Frag} {mg : Str → Option Value} {pv : List (Nat × V)} {F F' H H' : Hp} {σ σ' : L2.St} {e e' : Env} {as as' : List (Option AT)} {held tr ts us : List AT} {E : XS}
end
section
variable {X : Cx} {E : XS} {pos p : Pos} {j : Nat} {y : Str} {tg : Expr} {g : Tg} {L : List Nat} {m : M Fl}
end
end VF
set_option maxRecDepth 100000
set_option maxHeartbeats 4000000
namespace VF
set_option autoImplicit false
open PySem PySem.Spec PyProof.Rows L2
open AT (cells cellsL er ers)
open PySem.W (alike AllAlike Sortable dataLe dataLt EachIs)
section
variable {X : Cx}
end
def isTup1 : PyData → Bool
  | .tuple (_ :: _) => true
  | _ => false
def noTup : PyData → Bool
  | .none => false
  | .tuple _ => false
  | _ => true
section
variable {K : PySem.W.Frag} {mg : Str → Option Value}
end
section
variable {X : Cx} {E : XS} {a : Expr} {pos : Pos}
end
end VF
set_option maxRecDepth 100000
set_option maxHeartbeats 4000000
namespace VF
set_option autoImplicit false
open PySem PySem.Spec PyProof.Rows L2
section
variable {X : Cx} {E : XS} {pos : Pos}
theorem v_gstr {x z : Str} (hg : Gl X x) (hm : ∃ t, X.mg x = some (.str z t)) (hd : (x == ("__debug__" : Str)) = false := by decide) : VE X E (.Name x pos) (dC (.str z)) := by
  obtain ⟨t, e⟩ := hm
  exact .mk (pe_glob (v := .str z) hg e ⟨t, rfl⟩ hd) se_c
end
end VF
set_option maxRecDepth 100000
set_option maxHeartbeats 4000000
namespace VF
set_option autoImplicit false
open PySem PySem.Spec PyProof.Rows L2
open AT (cells cellsL er ers)
section
variable {X : Cx}
end
section
variable {K : PySem.W.Frag} {mg : Str → Option Value} {E : XS}
end
section
variable {X : Cx}
end
section
variable {K : PySem.W.Frag} {mg : Str → Option Value} {E : XS}
end
section
variable {K : PySem.W.Frag} {mg : Str → Option Value} {E : XS}
end
section
variable {X : Cx} {E : XS} {a b c : Expr} {ma mb mc : M RV} {pos : Pos} {mr : M (List RV)}
end
end VF
set_option maxRecDepth 100000
set_option maxHeartbeats 4000000
namespace VF
set_option autoImplicit false
open PySem PySem.Spec PyProof.Rows L2
open AT (cells cellsL er ers)
section
variable {K : PySem.W.Frag} {mg : Str → Option Value} {pv : List (Nat × V)} {F F' H H' : Hp} {σ : L2.St} {e e' : Env} {as as' : List (Option AT)} {held tr ts us : List AT} {E : XS}
end
section
variable {K : PySem.W.Frag} {mg : Str → Option Value} {pv : List (Nat × V)} {H : Hp} {σ : L2.St} {E : XS}
end
section
variable {X : Cx} {E : XS} {a : Expr} {ma : M RV} {pos p1 p2 p3 : Pos} {j : Nat} {s y : Str} {kd : Nat}
end
end VF
set_option maxRecDepth 100000
set_option maxHeartbeats 4000000
namespace VF
set_option autoImplicit false
open PySem PySem.Spec PyProof.Rows L2
open AT (cells cellsL er ers)
section
variable {K : PySem.W.Frag} {mg : Str → Option Value} {pv : List (Nat × V)} {E : XS}
end
section
variable {X : Cx} {E : XS} {a : Expr} {es : List Expr} {mr : M (List RV)} {pos : Pos}
end
end VF
set_option maxRecDepth 100000
set_option maxHeartbeats 4000000
namespace VF
set_option autoImplicit false
open PySem PySem.Spec PyProof.Rows L2
open AT (cells cellsL er ers)
abbrev set0 (w : World) : Obj := { cls := .type "set", dict := none, data := .set #[] 0 (.fresh 0 0 (!w.params.followText "set-order")) }
section
variable {P : Program} {w : World} {A : Around} {E : Value → Shared → Prop} {s : Shared}
theorem at_new (hp : Heap) (w : World) : (hp.push (set0 w)).get? hp.objs.size = some (set0 w) := Heap.get?_push_size _ rfl
def Filled (w : World) (s0 s2 : Shared) (ns : List Int) : Prop :=
  ∃ hp t n, s2 = { s0 with heap := hp, toks := t } ∧ SetR w hp s0.heap.objs.size (fun j => decide (j ∈ ns)) n ∧ n ≤ ns.length ∧ ∀ b o, s0.heap.get? b = some o → hp.get? b = some o
set_option maxRecDepth 100000 in
theorem set_init_list {q : Addr} {vs : Array Value} (ns : List Int) {R : Result → Shared → Prop} (nh : A.handled = none) (ql : s.heap.IsList q vs) (ni : IntsAre vs.toList ns) (sm : ns.length + 1 < scanBound)
    (k : ∀ s2, Filled w s s2 ns → R (.ok (.ret .none)) s2) :
    codeAny (model P w) A (.call (.builtin "set.__init__") ⟨[.ref s.heap.objs.size, .ref q], []⟩) R { s with heap := s.heap.push (set0 w) } := by
  have isS : Shared.TypeIs { s with heap := s.heap.push (set0 w) } (.ref s.heap.objs.size) "set" := ⟨_, at_new _ w, rfl⟩
  have nv : vs.size = ns.length := by
    have z := IntsAre.length ni
    rwa [Array.length_toList] at z
  refine codeAny_call_builtin F.called_set.init.plain F.entry_set_init (check_set_init_1 isS ?_)
  obtain ⟨⟨oc, od, odata, osl⟩, oq, rfl, nl, rfl⟩ := id ql
  have oq2 : (s.heap.push (set0 w)).get? q = some { cls := .type "list", dict := od, data := .seq vs nl, slots := osl } := Heap.get?_push_of_some _ oq
  have ql2 : (s.heap.push (set0 w)).IsList q vs := ⟨_, oq2, rfl, nl, rfl⟩
  have no1 := F.sub_list_set
  have no2 := F.sub_list_frozenset
  have no3 : (Value.type "list" == Value.type "dict") = false := by decide
  unfold Builtin.«set.__init__» noKeywords Builtin.Frozenset.updateFrom
  generalize hIt : pyIter = It
  wp_walk
  subst hIt
  refine wpAny_pyIter_list ql2 ?_
  refine wpAny_bind (wpAny_runValue ?_)
  have lt : q < s.heap.objs.size := Heap.lt_size oq
  have nh3 : A.in1.in1.handled = none := by simp [nh]
  have sz : (s.heap.push (set0 w)).objs.size = s.heap.objs.size + 1 := Heap.size_push ..
  have nq : q ≠ (s.heap.push (set0 w)).objs.size := by rw [sz]; exact Nat.ne_of_lt (Nat.lt_succ_of_lt lt)
  have fr : s.heap.objs.size ∉ [(s.heap.push (set0 w)).objs.size, q] := fun z => by
    rw [sz] at z
    rcases List.mem_cons.mp z with z | z
    · exact absurd z (Nat.ne_of_lt (Nat.lt_succ_self _))
    · exact absurd (List.mem_singleton.mp z) (Nat.ne_of_gt lt)
  have at_ : ∀ (i : Nat) (v : Value), vs[i]? = some v → ∃ n t, ns[i]? = some n ∧ v = .int n t := fun i v hv => by
    have li : i < ns.length := by rw [← nv]; exact (Array.getElem?_eq_some_iff.mp hv).1
    obtain ⟨t, e⟩ := IntsAre.int_at ni i v (by rw [Array.getElem?_toList]; exact hv)
    exact ⟨ns[i], t, List.getElem?_eq_getElem li, by rw [e, List.getD_eq_getElem?_getD, List.getElem?_eq_getElem li]; rfl⟩
  refine set_update_ints ((Walks.list nh3 _ q nq vs).toS) s.heap.objs.size fr ns nv sm at_ (vs.size - 0) 0 _ (by omega) (Nat.zero_le _) ⟨⟨_, Heap.get?_push_size _ rfl, rfl, rfl⟩, ql2.push _⟩ ⟨0, Nat.le_refl 0, setR_new_at (Heap.get?_push_of_some _ (at_new _ w))⟩ fun s' n mv le R' => ?_
  obtain ⟨hp, g2, d2, t2, o2⟩ := s'
  obtain rfl : g2 = s.gens := mv.gens
  obtain rfl : d2 = s.drawn := mv.drawn
  obtain rfl : o2 = s.os := mv.os
  show wpAny _ _ _ _ _ _
  refine wpAny_pure (show wpAny _ _ (ret Value.none) _ _ _ from wpAny_pure (k _ ⟨hp, t2, n, rfl, R', by omega, fun b o e => ?_⟩))
  have lb : b < s.heap.objs.size := Heap.lt_size e
  refine mv.heap b o (fun z => ?_) (Heap.get?_push_of_some _ (Heap.get?_push_of_some _ e))
  rcases List.mem_cons.mp z with z | z
  · exact absurd z (Nat.ne_of_lt lb)
  · have z := List.mem_singleton.mp z
    rw [sz] at z
    exact absurd z (Nat.ne_of_lt (Nat.lt_succ_of_lt lb))
set_option maxRecDepth 100000 in
theorem call_set_ints {q : Addr} {vs : Array Value} (ns : List Int) {Q : Value → Shared → Prop} (nh : A.handled = none) (ql : s.heap.IsList q vs) (ni : IntsAre vs.toList ns) (sm : ns.length + 1 < scanBound)
    (k : ∀ s2, Filled w s s2 ns → Q (.ref s.heap.objs.size) s2) : wpAny (model P w) A (call (.type "set") [.ref q]) Q E s := by
  have fc := F.called_set
  obtain ⟨cc, ct, hm⟩ := fc.mro
  have a1 := fc.made
  have a2 := fc.sub
  have a3 := fc.notType
  have a4 := fc.canCreate
  have a5 := F.typeCall_set_1 (.ref q)
  refine wpAny_call (codeAny_of_tree (show wpAny _ _ (callAny (.type "set") _) _ _ _ from wpAny_pure ⟨Code.quiet_builtin _ (by decide +kernel), codeAny_builtin F.entry_type_call ?_⟩))
  rw [Around.under_plain (weight_type_call_type "set" [.ref q] []) rfl]
  repeat (any_goals (first | assumption | wp_step))
  refine codeAny_mono (code_set_led1 (w := w) (.ref q) (E := E) (Q₁ := fun z s₁ => z = .ref s.heap.objs.size ∧ s₁ = { s with heap := s.heap.push (set0 w) }) ⟨rfl, rfl⟩) fun z s₁ hz => ?_
  cases z with
  | error e => exact hz
  | ok fl =>
    cases fl with
    | ret z =>
      obtain ⟨rfl, rfl⟩ := hz
      have b1 := fc.init.lookup
      have b2 := fc.init.bind (.ref s.heap.objs.size)
      have b3 : Shared.TypeIs { s with heap := s.heap.push (set0 w) } (.ref s.heap.objs.size) "set" := ⟨_, at_new _ w, rfl⟩
      repeat (any_goals (first | assumption | wp_step))
      refine codeAny_mono (set_init_list (A := _) (R := wants (fun z s₂ => z = .none ∧ Filled w s s₂ ns) E) ns (by simp [nh]) ql ni sm fun s2 h2 => ⟨rfl, h2⟩) fun z s₂ hz => ?_
      cases z with
      | error e => exact hz
      | ok fl =>
        cases fl with
        | ret z =>
          obtain ⟨rfl, h2⟩ := hz
          repeat (any_goals (first | assumption | wp_step))
          exact k _ h2
        | _ => exact hz.elim
    | _ => exact hz.elim
end
section
variable {K : PySem.W.Frag} {mg : Str → Option Value} {E : XS}
end
section
variable {X : Cx} {E : XS} {a : Expr} {ma : M RV} {pos p1 p2 p3 : Pos}
end
end VF
set_option maxRecDepth 100000
set_option maxHeartbeats 4000000
namespace VF
set_option autoImplicit false
open PySem PySem.Spec PyProof.Rows L2
open AT (cells cellsL er ers)
section
variable {K : PySem.W.Frag} {mg : Str → Option Value} {pv : List (Nat × V)} {F0 F H : Hp} {σ : L2.St} {e : Env} {as : List (Option AT)} {held held0 : List AT} {E : XS}
end
section
variable {X : Cx} {E : XS} {a b c d k x : Expr} {ma mb mc md mk mx : M RV} {pos p1 p2 : Pos}
end
end VF
set_option maxRecDepth 100000
set_option maxHeartbeats 4000000
namespace VF
set_option autoImplicit false
open PySem PySem.Spec PyProof.Rows L2
open AT (cells cellsL er ers)
section
variable {X : Cx} {xA xB n : Str} {cA cB : Value} {i : Nat} {body rA rB : List Stmt} {sA sB : Stmt} {pA pB qA qB pos : Pos} {tb : L2.WX → TS} {tA tB : Addr → Value → Option Addr → TS} {Wo : L2.WX}
end
section
variable {X : Cx} {E : XS}
end
inductive CatF (K : PySem.W.Frag) (mg : Str → Option Value) (cA cB : Value) : List Str → Prop
  | nil : CatF K mg cA cB []
  | cons {y : Str} {C : Addr} {t : List Str} (g : mg y = some (.ref C)) (f : PySem.W.exmOne K (.ref C) cA = some false) (m : PySem.W.exmOne K (.ref C) cB = some true) (r : CatF K mg cA cB t) : CatF K mg cA cB (y :: t)
theorem CatF.at {K : PySem.W.Frag} {mg : Str → Option Value} {cA cB : Value} {t : List Str} (T : CatF K mg cA cB t) {y : Str} {C : Addr} (h : y ∈ t) (g : mg y = some (.ref C)) : PySem.W.exmOne K (.ref C) cA = some false ∧ PySem.W.exmOne K (.ref C) cB = some true := by
  induction T with
  | nil => cases h
  | @cons y' C' t g' f m r ih =>
    rcases List.mem_cons.mp h with q | q
    · subst q
      rw [g] at g'
      cases g'
      exact ⟨f, m⟩
    · exact ih q
theorem CatF.hm {K : PySem.W.Frag} {mg : Str → Option Value} {cA cB : Value} {t : List Str} (T : CatF K mg cA cB t) (h : Exc → Option SV) : ∀ (y : Exc) (s : SV) (C : Addr), gOn t h y = some s → mg y.c = some (.ref C) → PySem.W.exmOne K (.ref C) cA = some false ∧ PySem.W.exmOne K (.ref C) cB = some true := fun y s C q g => by
  unfold gOn at q
  by_cases z : y.c ∈ t
  · exact T.at z g
  · rw [if_neg z] at q; cases q
section
variable {X : Cx} {E : XS}
end
end VF
set_option maxRecDepth 100000
set_option maxHeartbeats 4000000
namespace VF
set_option autoImplicit false
open PySem PySem.Spec PyProof.Rows L2
open AT (cells cellsL er ers)
section
variable {K : PySem.W.Frag} {mg : Str → Option Value} {F : Hp} {E : XS}
end
end VF
set_option maxRecDepth 100000
set_option maxHeartbeats 4000000
namespace VF
set_option autoImplicit false
open PySem PySem.Spec PyProof.Rows L2
open AT (cells cellsL er ers)
def fAddS : D → D → Option D := fun a b => match a, b with
  | .str i, .str j => if i.length + j.length ≤ sizeLine then some (.str (i ++ j)) else none
  | _, _ => none
def strD : List D → Option D
  | [.int i] => if i.natAbs.log2 < 1920 then some (.str (toString i)) else none
  | _ => none
def intSD : List D → Option D
  | [.str a] => if a.length ≤ 640 then (PySem.intText? a).map .int else none
  | _ => none
def strsD (ys : List Str) : List D := ys.map .str
def strsOf : List D → Option (List Str)
  | [] => some []
  | .str y :: ds => (strsOf ds).map (y :: ·)
  | _ => none
def dSplit (a b : M RV) : M RV := a.bind fun r e => match view e r with
  | some (.str x) => (b e).bind fun q e2 => (match view e2 q with
    | some (.str y) => if (y.length == 0) = false ∧ x.length + 2 ≤ sizeLine then .ok (.own (.ol ((strsD (Txt.split x y)).map .fz))) e2 else .st
    | _ => .st)
  | _ => .st
def dJoin (a b : M RV) : M RV := a.bind fun r e => match view e r with
  | some (.str x) => (b e).bind fun q e2 => (match view e2 q with
    | some (.lst ds) => (match strsOf ds with
      | some ys => if (ys.map (·.length)).sum + ys.length * x.length ≤ 16777216 then .ok (.fz (.str (Txt.join x ys))) e2 else .st
      | none => .st)
    | _ => .st)
  | _ => .st
def dSlS (a : M RV) (l h : M (Option Int)) : M RV := a.bind fun r e => match view e r with
  | some (.str z) => if z.length ≤ sizeLine then (l e).bind fun lo e2 => (h e2).bind fun hi e3 => .ok (.fz (.str (cutS z lo hi))) e3 else .st
  | _ => .st
section
variable {K : PySem.W.Frag} {mg : Str → Option Value} {E : XS}
theorem opd_addS : OpD (fun x y H Q => ∃ i j, x = .str i ∧ y = .str j ∧ i.length + j.length ≤ sizeLine ∧ Q (.str (i ++ j)) H) K mg fAddS := by
  intro H x y a b d ra rb q
  cases a <;> first | (cases b <;> cases q; done) | skip
  cases b <;> first | (cases q; done) | skip
  rename_i i j
  have q' : (if i.length + j.length ≤ sizeLine then some (D.str (i ++ j)) else none) = some d := q
  split at q'
  · rename_i hl
    cases q'
    exact ⟨_, rfl, fun Q k => ⟨i, j, ra, rb, hl, k⟩⟩
  · cases q'
theorem cbd_str : CbD (fun xs H Q => ∃ i, xs = [.int i] ∧ i.natAbs.log2 < 1920 ∧ Q (.str (toString i)) H) K mg strD := by
  intro H xs as d r q
  match as, r with
  | [a], r =>
    obtain ⟨v, e, rv⟩ := reps1 r
    subst e
    cases a with
    | int i =>
      have q' : (if i.natAbs.log2 < 1920 then some (D.str (toString i)) else none) = some d := q
      split at q'
      · rename_i hl
        cases q'
        exact ⟨_, rfl, fun Q k => ⟨i, by rw [show v = .int i from rv], hl, k⟩⟩
      · cases q'
    | _ => cases q
  | [], _ => simp [strD] at q
  | _ :: _ :: _, _ => simp [strD] at q
theorem cbd_intS : CbD (fun xs H Q => ∃ a n, xs = [.str a] ∧ PySem.intText? a = some n ∧ a.length ≤ 640 ∧ Q (.int n) H) K mg intSD := by
  intro H xs as d r q
  match as, r with
  | [a], r =>
    obtain ⟨v, e, rv⟩ := reps1 r
    subst e
    cases a with
    | str a =>
      have q' : (if a.length ≤ 640 then (PySem.intText? a).map D.int else none) = some d := q
      split at q'
      · rename_i hl
        cases z : PySem.intText? a with
        | none => rw [z] at q'; cases q'
        | some n =>
          rw [z] at q'
          cases q'
          exact ⟨_, rfl, fun Q k => ⟨a, n, by rw [show v = .str a from rv], z, hl, k⟩⟩
      · cases q'
    | _ => cases q
  | [], _ => simp [intSD] at q
  | _ :: _ :: _, _ => simp [intSD] at q
theorem reps_strs {F : Hp} : ∀ ys : List Str, Reps K mg F (ys.map V.str) (strsD ys)
  | [] => trivial
  | y :: ys => ⟨rfl, reps_strs ys⟩
theorem strs_reps {F : Hp} : ∀ {ds : List D} {vs : List V} {ys : List Str}, Reps K mg F vs ds → strsOf ds = some ys → vs = ys.map V.str
  | [], [], ys, _, h => by cases h; rfl
  | d :: ds, v :: vs, ys, ⟨h1, h2⟩, h => by
    cases d with
    | str y =>
      have h' : (strsOf ds).map (y :: ·) = some ys := h
      cases z : strsOf ds with
      | none => rw [z] at h'; cases h'
      | some zs =>
        rw [z] at h'
        cases h'
        rw [show v = .str y from h1, strs_reps h2 z]; rfl
    | _ => cases h
  | [], _ :: _, _, h, _ => h.elim
  | _ :: _, [], _, h, _ => h.elim
theorem se_split {ta tb : TE} {ma mb : M RV} (ha : SE K mg E ta ma) (hb : SE K mg E tb mb) : SE K mg E (tM1 (fun x xs H Q => ∃ a b, x = .str a ∧ xs = [.str b] ∧ (b.length == 0) = false ∧ a.length + 2 ≤ sizeLine ∧ rNewStrs (Txt.split a b) H Q) ta tb) (dSplit ma mb) := by
  intro pv F H σ e as held Q c w
  refine ha pv F H σ e as held _ c (WE.bindE (W := WE K mg pv F held σ Q E) (fun z => z) w (fun _ _ z => z) fun r1 e1 v1 F1 H1 as1 tr1 s1 c1 rr1 w1 => ?_)
  cases q1 : view e1 r1 with
  | none => simp only [q1] at w1; exact w1.elim
  | some d1 =>
    cases d1 with
    | str x =>
      simp only [q1] at w1
      have ev : v1 = .str x := c1.seen rr1 (fun t ht => List.mem_append_left _ ht) q1
      subst ev
      refine ⟨⟨x, rfl⟩, hb pv F1 H1 σ e1 as1 (tr1 ++ held) _ c1 (WE.bindE (W := WE K mg pv F held σ Q E) (fun z => z) w1 (fun _ _ z => (WX.mono s1 z).drop) fun r2 e2 v2 F2 H2 as2 tr2 s2 c2 rr2 w2 => ?_)⟩
      cases q2 : view e2 r2 with
      | none => simp only [q2] at w2; exact w2.elim
      | some d2 =>
        cases d2 with
        | str y =>
          simp only [q2] at w2
          have ev2 : v2 = .str y := c2.seen rr2 (fun t ht => List.mem_append_left _ ht) q2
          subst ev2
          split at w2
          · rename_i hh
            refine ⟨x, y, rfl, rfl, hh.1, hh.2, fun p hp => ?_⟩
            obtain ⟨t, t1, t2, c3⟩ := c2.drop.drop.newL (vs := (Txt.split x y).map V.str) (ds := strsD (Txt.split x y)) (reps_strs _) hp
            exact w2 (.ref p) F2 _ as2 [t] (s1.trans s2) c3 ⟨t, rfl, t1, t2⟩
          · exact w2.elim
        | _ => simp only [q2] at w2; exact w2.elim
    | _ => simp only [q1] at w1; exact w1.elim
theorem se_join {ta tb : TE} {ma mb : M RV} (ha : SE K mg E ta ma) (hb : SE K mg E tb mb) : SE K mg E (tM1 (fun x xs H Q => ∃ a p, ∃ ys : List Str, x = .str a ∧ xs = [.ref p] ∧ (SqL K H p (ys.map V.str) ∨ SqT K H p (ys.map V.str)) ∧
      (ys.map (·.length)).sum + ys.length * a.length ≤ 16777216 ∧ Q (.str (Txt.join a ys)) H) ta tb) (dJoin ma mb) := by
  intro pv F H σ e as held Q c w
  refine ha pv F H σ e as held _ c (WE.bindE (W := WE K mg pv F held σ Q E) (fun z => z) w (fun _ _ z => z) fun r1 e1 v1 F1 H1 as1 tr1 s1 c1 rr1 w1 => ?_)
  cases q1 : view e1 r1 with
  | none => simp only [q1] at w1; exact w1.elim
  | some d1 =>
    cases d1 with
    | str x =>
      simp only [q1] at w1
      have ev : v1 = .str x := c1.seen rr1 (fun t ht => List.mem_append_left _ ht) q1
      subst ev
      refine ⟨⟨x, rfl⟩, hb pv F1 H1 σ e1 as1 (tr1 ++ held) _ c1 (WE.bindE (W := WE K mg pv F held σ Q E) (fun z => z) w1 (fun _ _ z => (WX.mono s1 z).drop) fun r2 e2 v2 F2 H2 as2 tr2 s2 c2 rr2 w2 => ?_)⟩
      cases q2 : view e2 r2 with
      | none => simp only [q2] at w2; exact w2.elim
      | some d2 =>
        cases d2 with
        | lst ds =>
          simp only [q2] at w2
          cases q3 : strsOf ds with
          | none => simp only [q3] at w2; exact w2.elim
          | some ys =>
            simp only [q3] at w2
            obtain ⟨p, vs, ev2, h1, h2⟩ := c2.seen rr2 (fun t ht => List.mem_append_left _ ht) q2
            have es := strs_reps h2 q3
            subst ev2 es
            split at w2
            · rename_i hh
              exact ⟨x, p, ys, rfl, rfl, .inl (SqL.of h1), hh, w2 _ F2 H2 as2 _ (s1.trans s2) (c2.drop.drop.fz (show Rep K mg F2 (.str _) (.str _) from rfl)) rfl⟩
            · exact w2.elim
        | _ => simp only [q2] at w2; exact w2.elim
    | _ => simp only [q1] at w1; exact w1.elim
theorem se_slS {te : TE} {tl th : TO} {ma : M RV} {ml mh : M (Option Int)} (ha : SE K mg E te ma) (hl : SO K mg E tl ml) (hh : SO K mg E th mh) : SE K mg E (tSl rSlS te tl th) (dSlS ma ml mh) := by
  intro pv F H σ e as held Q c w
  refine ha pv F H σ e as held _ c (WE.bindE (W := WE K mg pv F held σ Q E) (fun z => z) w (fun _ _ z => z) fun r e1 v F1 H1 as1 tr s1 c1 rr w1 => ?_)
  cases q : view e1 r with
  | none => simp only [q] at w1; exact w1.elim
  | some d =>
    cases d with
    | str z =>
      simp only [q] at w1
      have ev : v = .str z := c1.seen rr (fun t ht => List.mem_append_left _ ht) q
      subst ev
      split at w1
      · rename_i hz
        refine hl pv F1 H1 σ e1 as1 held _ c1.drop (WO.bindO (W := WE K mg pv F held σ Q E) (fun z => z) w1 (fun _ _ z => WX.mono s1 z) fun lo e3 F3 H3 as3 s3 c3 w3 => ?_)
        refine hh pv F3 H3 σ e3 as3 held _ c3 (WO.bindO (W := WE K mg pv F held σ Q E) (fun z => z) w3 (fun _ _ z => WX.mono (s1.trans s3) z) fun hi e4 F4 H4 as4 s4 c4 w4 => ?_)
        exact ⟨z, rfl, hz, w4 _ F4 H4 as4 _ ((s1.trans s3).trans s4) (c4.fz (show Rep K mg F4 (.str _) (.str _) from rfl)) rfl⟩
      · exact w1.elim
    | _ => simp only [q] at w1; exact w1.elim
end
section
variable {X : Cx} {E : XS} {a b c : Expr} {ma mb mc : M RV} {pos : Pos} {es : List Expr} {mr : M (List RV)}
theorem v_addS (ha : VE X E a ma) (hb : VE X E b mb) : VE X E (.BinOp a .Add b pos) (dOp fAddS ma mb) := .mk (pe_op op_add_str ha hb) (se_op opd_addS se_w se_w)
theorem v_strI {p : Pos} (hg : Gl X "str") (hm : X.mg "str" = none) (ha : VA X E (a :: es) mr) (he : starEach (a :: es) X.env = (false, eval a X.env) :: starEach es X.env := by rfl) (hpl : (backTo pos (starEach es X.env)).any (·.1) = false := by rfl) :
    VE X E (.Call (.Name "str" p) (a :: es) [] pos) (dCB strD mr) := .mk (pe_callTy call_str_int hg hm (by decide +kernel) ha (by decide) (by decide) he hpl) (se_cb cbd_str sa_w)
theorem v_intS {p : Pos} (hg : Gl X "int") (hm : X.mg "int" = none) (ha : VA X E (a :: es) mr) (he : starEach (a :: es) X.env = (false, eval a X.env) :: starEach es X.env := by rfl) (hpl : (backTo pos (starEach es X.env)).any (·.1) = false := by rfl) :
    VE X E (.Call (.Name "int" p) (a :: es) [] pos) (dCB intSD mr) := .mk (pe_callTy call_int_str hg hm (by decide +kernel) ha (by decide) (by decide) he hpl) (se_cb cbd_intS sa_w)
theorem v_split {p1 : Pos} (ha : VE X E a ma) (hb : VE X E b mb) (hs : starEach [b] X.env = [(false, eval b X.env)] := by rfl) (hbase : attributeBase a "split" X.env (eval a X.env) = eval a X.env := by rfl) (hline : (p1.endLine == pos.line) = true := by rfl) :
    VE X E (.Call (.Attribute a "split" p1) [b] [] pos) (dSplit ma mb) := .mk (pe_split ha hb hs hbase hline) (se_split se_w se_w)
theorem v_join {p1 : Pos} (ha : VE X E a ma) (hb : VE X E b mb) (hs : starEach [b] X.env = [(false, eval b X.env)] := by rfl) (hbase : attributeBase a "join" X.env (eval a X.env) = eval a X.env := by rfl) (hline : (p1.endLine == pos.line) = true := by rfl) :
    VE X E (.Call (.Attribute a "join" p1) [b] [] pos) (dJoin ma mb) := .mk (pe_join ha hb hs hbase hline) (se_join se_w se_w)
theorem v_slSTo {p2 : Pos} (ha : VE X E a ma) (hb : VE X E b mb) : VE X E (.Subscript a (.Slice none (some b) none p2) pos) (dSlS ma dNoPart (dPart mb)) := .mk (pe_slice sl_str ha po_none (po_some hb)) (se_slS se_w so_none (so_some se_w))
theorem v_slSFrom {p2 : Pos} (ha : VE X E a ma) (hb : VE X E b mb) : VE X E (.Subscript a (.Slice (some b) none none p2) pos) (dSlS ma (dPart mb) dNoPart) := .mk (pe_slice sl_str ha (po_some hb) po_none) (se_slS se_w (so_some se_w) so_none)
end
end VF
set_option maxRecDepth 100000
set_option maxHeartbeats 4000000
namespace VF
set_option autoImplicit false
open PySem PySem.Spec PyProof.Rows L2
open AT (cells cellsL er ers)
instance {x : Str} {n : Int} : Decidable (MulOk x n) := by unfold MulOk; infer_instance
section
variable {X : Cx} {K : PySem.W.Frag} {mg : Str → Option Value} {E : XS}
end
section
variable {K : PySem.W.Frag} {mg : Str → Option Value} {E : XS}
end
section
variable {X : Cx} {E : XS} {a b : Expr} {ma mb : M RV} {pos : Pos}
end
section
variable {K : PySem.W.Frag} {mg : Str → Option Value} {E : XS}
end
end VF
set_option maxRecDepth 100000
set_option maxHeartbeats 4000000
namespace VF
set_option autoImplicit false
open PySem PySem.Spec PyProof.Rows L2
open AT (cells cellsL er ers)
def dFmt (a : M RV) : M RV := a.bind fun r e => match view e r with
  | some (.str y) => if y.length ≤ sizeLine then .ok (.fz (.str y)) e else .st
  | some (.int i) => if i.natAbs.log2 < 1920 then .ok (.fz (.str (toString i))) e else .st
  | _ => .st
def dJs : List (M RV) → Str → M RV
  | [], acc => fun e => .ok (.fz (.str acc)) e
  | m :: ms, acc => m.bind fun r e => match view e r with
    | some (.str y) => if (acc ++ y).length ≤ sizeLine then dJs ms (acc ++ y) e else .st
    | _ => .st
section
variable {K : PySem.W.Frag} {mg : Str → Option Value} {E : XS}
theorem se_fmt {ta : TE} {ma : M RV} (ha : SE K mg E ta ma) : SE K mg E (tFmt ta) (dFmt ma) := by
  intro pv F H σ e as held Q c w
  refine ha pv F H σ e as held _ c (WE.bindE (W := WE K mg pv F held σ Q E) (fun z => z) w (fun _ _ z => z) fun r1 e1 v1 F1 H1 as1 tr1 s1 c1 rr1 w1 => ?_)
  cases q1 : view e1 r1 with
  | none => simp only [q1] at w1; exact w1.elim
  | some d1 =>
    cases d1 with
    | str y =>
      simp only [q1] at w1
      have ev : v1 = .str y := c1.seen rr1 (fun t ht => List.mem_append_left _ ht) q1
      split at w1
      · rename_i hz
        exact .inl ⟨y, ev, hz, w1 _ F1 H1 as1 _ s1 (c1.drop.fz (show Rep K mg F1 (.str y) (.str y) from rfl)) rfl⟩
      · exact w1.elim
    | int i =>
      simp only [q1] at w1
      have ev : v1 = .int i := c1.seen rr1 (fun t ht => List.mem_append_left _ ht) q1
      split at w1
      · rename_i hz
        exact .inr ⟨i, ev, hz, w1 _ F1 H1 as1 _ s1 (c1.drop.fz (show Rep K mg F1 (.str (toString i)) (.str (toString i)) from rfl)) rfl⟩
      · exact w1.elim
    | _ => simp only [q1] at w1; exact w1.elim
theorem se_js : ∀ (ms : List (M RV)) (acc : Str) (pv : List (Nat × V)) (F H : Hp) (σ : L2.St) (e : Env) (as : List (Option AT)) (held : List AT) (Q : VK), Cf K mg pv F H σ e as held → WE K mg pv F held σ Q E (dJs ms acc e) → tJs (ms.map (wE K mg E)) acc σ H (fun out H1 => Q (.str out) H1)
  | [], acc, pv, F, H, σ, e, as, held, Q, c, w => w (.str acc) F H as _ (Same.refl _) (c.fz (show Rep K mg F (.str acc) (.str acc) from rfl)) rfl
  | m :: ms, acc, pv, F, H, σ, e, as, held, Q, c, w => by
    refine (se_w : SE K mg E (wE K mg E m) m) pv F H σ e as held _ c (WE.bindE (W := WE K mg pv F held σ Q E) (fun z => z) w (fun _ _ z => z) fun r1 e1 v1 F1 H1 as1 tr1 s1 c1 rr1 w1 => ?_)
    cases q1 : view e1 r1 with
    | none => simp only [q1] at w1; exact w1.elim
    | some d1 =>
      cases d1 with
      | str y =>
        simp only [q1] at w1
        have ev : v1 = .str y := c1.seen rr1 (fun t ht => List.mem_append_left _ ht) q1
        split at w1
        · rename_i hz
          exact ⟨y, ev, hz, se_js ms (acc ++ y) pv F1 H1 σ e1 as1 held Q c1.drop (WE.mono s1 w1)⟩
        · exact w1.elim
      | _ => simp only [q1] at w1; exact w1.elim
end
inductive VJ (X : Cx) (E : XS) : List Expr → List (M RV) → Prop
  | nil : VJ X E [] []
  | cons {e : Expr} {m : M RV} {es : List Expr} {ms : List (M RV)} (h : VE X E e m) (r : VJ X E es ms) : VJ X E (e :: es) (m :: ms)
theorem VJ.pj {X : Cx} {E : XS} {es : List Expr} {ms : List (M RV)} (h : VJ X E es ms) : L2.PJ X es (ms.map (wE X.K X.mg E)) := by
  induction h with
  | nil => exact .nil
  | cons h _ ih => exact .cons h ih
theorem v_fmt {X : Cx} {E : XS} {a : Expr} {ma : M RV} {pos : Pos} (ha : VE X E a ma) : VE X E (.FormattedValue a (-1) none pos) (dFmt ma) := .mk (pe_fmt ha) (se_fmt se_w)
theorem v_fs {X : Cx} {E : XS} {a b : Expr} {es : List Expr} {ms : List (M RV)} {pos : Pos} (h : VJ X E (a :: b :: es) ms) : VE X E (.JoinedStr (a :: b :: es) pos) (dJs ms Str.empty) :=
  .mk (pe_joined h.pj) fun pv F H σ e as held Q c w => se_js ms Str.empty pv F H σ e as held Q c w
end VF
set_option maxRecDepth 100000
set_option maxHeartbeats 4000000
namespace VF
set_option autoImplicit false
open PySem L2
@[simp] theorem bind_ok {α β : Type} (a : α) (e : Env) (f : α → M β) : (R.ok a e).bind f = f a e := (rfl)
@[simp] theorem bind_st {α β : Type} (f : α → M β) : (R.st : R α).bind f = .st := (rfl)
@[simp] theorem mbind {α β : Type} (m : M α) (f : α → M β) (e : Env) : (m.bind f) e = (m e).bind f := (rfl)
@[simp] theorem ev_c (d : D) (e : Env) : dC d e = .ok (.fz d) e := (rfl)
def varR (i : Nat) (e : Env) : Option (Option SV) → R RV
  | some (some (.fz d)) => .ok (.fz d) e
  | some (some _) => .ok (.var i) e
  | _ => .st
@[simp] theorem ev_var (i : Nat) (l : List (Option SV)) (p : List Nat) : dVar i ⟨l, p⟩ = varR i ⟨l, p⟩ l[i]? := (rfl)
@[simp] theorem varR_fz (i : Nat) (e : Env) (d : D) : varR i e (some (some (.fz d))) = .ok (.fz d) e := (rfl)
@[simp] theorem varR_ol (i : Nat) (e : Env) (xs : List SV) : varR i e (some (some (.ol xs))) = .ok (.var i) e := (rfl)
@[simp] theorem ev_nil (e : Env) : dNil e = .ok [] e := (rfl)
@[simp] theorem ev_next (e : Env) : dNext e = .ok .nx e := (rfl)
@[simp] theorem ev_yes (e : Env) : dYes e = .ok true e := (rfl)
@[simp] theorem ev_cons (a : M RV) (b : M (List RV)) (e : Env) : dCons a b e = (a e).bind fun r e => (b e).bind fun rs e => .ok (r :: rs) e := (rfl)
@[simp] theorem view_fz (e : Env) (d : D) : view e (.fz d) = some d := (rfl)
@[simp] theorem view_own (e : Env) (s : SV) : view e (.own s) = some s.toD := (rfl)
@[simp] theorem view_var (i : Nat) (l : List (Option SV)) (p : List Nat) : view ⟨l, p⟩ (.var i) = (match l[i]? with
  | some (some s) => some s.toD
  | _ => none) := (rfl)
@[simp] theorem setS_mk (i : Nat) (l : List (Option SV)) (p : List Nat) (s : SV) : Env.setS ⟨l, p⟩ i s = ⟨l.set i (some s), p⟩ := (rfl)
@[simp] theorem clr_mk (i : Nat) (l : List (Option SV)) (p : List Nat) : Env.clr ⟨l, p⟩ i = ⟨l.set i none, p⟩ := (rfl)
def fzs (ds : List D) : List SV := ds.map .fz
def iDs (L : List Int) : List D := L.map .int
@[simp] theorem fzs_nil : fzs [] = [] := (rfl)
@[simp] theorem iDs_nil : iDs [] = [] := (rfl)
@[simp] theorem fzs_len (ds : List D) : (fzs ds).length = ds.length := by simp [fzs]
@[simp] theorem iDs_len (L : List Int) : (iDs L).length = L.length := by simp [iDs]
@[simp] theorem fzs_get (ds : List D) (i : Nat) : (fzs ds)[i]? = (ds[i]?).map .fz := by simp [fzs]
@[simp] theorem iDs_get (L : List Int) (i : Nat) : (iDs L)[i]? = (L[i]?).map .int := by simp [iDs]
@[simp] theorem fzs_snoc (ds : List D) (d : D) : fzs ds ++ [.fz d] = fzs (ds ++ [d]) := by simp [fzs]
@[simp] theorem iDs_snoc (L : List Int) (d : Int) : iDs L ++ [.int d] = iDs (L ++ [d]) := by simp [iDs]
@[simp] theorem fzs_set (ds : List D) (d : D) (i : Nat) : (fzs ds).set i (.fz d) = fzs (ds.set i d) := by simp [fzs, List.map_set]
@[simp] theorem iDs_set (L : List Int) (d : Int) (i : Nat) : (iDs L).set i (.int d) = iDs (L.set i d) := by simp [iDs, List.map_set]
@[simp] theorem fzs_erase (ds : List D) (i : Nat) : (fzs ds).eraseIdx i = fzs (ds.eraseIdx i) := (map_erase _ _ _).symm
@[simp] theorem iDs_erase (L : List Int) (i : Nat) : (iDs L).eraseIdx i = iDs (L.eraseIdx i) := (map_erase _ _ _).symm
@[simp] theorem intsOf_iDs (L : List Int) : intsOf (iDs L) = some L := intsOf_map L
@[simp] theorem toDs_map (ds : List D) : SV.toDs (fzs ds) = ds := by
  unfold fzs
  induction ds with
  | nil => rfl
  | cons d ds ih => show d :: SV.toDs (ds.map .fz) = _; rw [ih]
@[simp] theorem toD_fz (d : D) : SV.toD (.fz d) = d := (rfl)
@[simp] theorem toD_ol (ds : List D) : SV.toD (.ol (fzs ds)) = .lst ds := by show D.lst _ = _; rw [toDs_map]
@[simp] theorem toD_cons (x : SV) (xs : List SV) : SV.toD (.ol (x :: xs)) = .lst (x.toD :: SV.toDs xs) := (rfl)
@[simp] theorem toDs_cons (x : SV) (xs : List SV) : SV.toDs (x :: xs) = x.toD :: SV.toDs xs := (rfl)
@[simp] theorem toDs_nil : SV.toDs [] = [] := (rfl)
@[simp] theorem toD_nil : SV.toD (.ol []) = .lst [] := (rfl)
@[simp] theorem frz_fz (d : D) (e : Env) : frzR (.fz d) e = some (d, e) := (rfl)
@[simp] theorem frz_own (s : SV) (e : Env) : frzR (.own s) e = some (s.toD, e) := (rfl)
@[simp] theorem frz_var (i : Nat) (l : List (Option SV)) (p : List Nat) : frzR (.var i) ⟨l, p⟩ = (match l[i]? with
  | some (some s) => some (s.toD, ⟨l.set i (some (.fz s.toD)), p⟩)
  | _ => none) := (rfl)
@[simp] theorem frzs_nil (e : Env) : frzRs [] e = some ([], e) := (rfl)
@[simp] theorem frzs_cons (r : RV) (rs : List RV) (e : Env) : frzRs (r :: rs) e = (match frzR r e with
    | some (d, e1) => (match frzRs rs e1 with
      | some (ds, e2) => some (d :: ds, e2)
      | none => none)
    | none => none) := (rfl)
@[simp] theorem ev_op (f : D → D → Option D) (a b : M RV) (e : Env) : dOp f a b e = (a e).bind fun r e => (b e).bind fun q e => match view e r, view e q with
  | some x, some y => (match f x y with
    | some d => .ok (.fz d) e
    | none => .st)
  | _, _ => .st := (rfl)
@[simp] theorem ev_cb (f : List D → Option D) (a : M (List RV)) (e : Env) : dCB f a e = (a e).bind fun rs e => match rs.mapM (view e) with
  | some xs => (match f xs with
    | some d => .ok (.fz d) e
    | none => .st)
  | none => .st := (rfl)
@[simp] theorem ev_t (a : M RV) (e : Env) : dT a e = (a e).bind fun r e => match view e r with
  | some (.bl b) => .ok b e
  | _ => .st := (rfl)
@[simp] theorem ev_tru (a : M RV) (e : Env) : dTru a e = (a e).bind fun r e => match (view e r).bind truD with
  | some b => .ok b e
  | none => .st := (rfl)
@[simp] theorem ev_and (a b : M Bool) (e : Env) : dAnd a b e = (a e).bind fun c e => match c with
  | true => b e
  | false => .ok false e := by unfold dAnd M.bind; cases a e <;> (try rfl); rename_i c e; cases c <;> rfl
@[simp] theorem ev_or (a b : M Bool) (e : Env) : dOr a b e = (a e).bind fun c e => match c with
  | true => .ok true e
  | false => b e := by unfold dOr M.bind; cases a e <;> (try rfl); rename_i c e; cases c <;> rfl
@[simp] theorem ev_not (a : M Bool) (e : Env) : dNot a e = (a e).bind fun c e => .ok (!c) e := (rfl)
@[simp] theorem ev_if (c : M Bool) (a b : M Fl) (e : Env) : dIf c a b e = (c e).bind fun k e => match k with
  | true => a e
  | false => b e := by unfold dIf M.bind; cases c e <;> (try rfl); rename_i c e; cases c <;> rfl
@[simp] theorem ev_seq (a b : M Fl) (e : Env) : dSeq a b e = (a e).bind fun f e => match f with
  | .nx => b e
  | f => .ok f e := by unfold dSeq M.bind; cases a e <;> (try rfl); rename_i c e; cases c <;> rfl
@[simp] theorem ev_ret (a : M RV) (e : Env) : dRet a e = (a e).bind fun r e => .ok (.rt r) e := (rfl)
@[simp] theorem ev_drop (a : M RV) (e : Env) : dDrop a e = (a e).bind fun _ e => .ok .nx e := (rfl)
@[simp] theorem ev_set (i : Nat) (a : M RV) (e : Env) : dSet i a e = (a e).bind fun r e => match putR i r e with
  | some e' => .ok .nx e'
  | none => .st := (rfl)
@[simp] theorem put_fz (i : Nat) (d : D) (l : List (Option SV)) (p : List Nat) : putR i (.fz d) ⟨l, p⟩ = if i ∈ p then none else some ⟨l.set i (some (.fz d)), p⟩ := (rfl)
@[simp] theorem put_own (i : Nat) (s : SV) (l : List (Option SV)) (p : List Nat) : putR i (.own s) ⟨l, p⟩ = if i ∈ p then none else some ⟨l.set i (some s), p⟩ := (rfl)
@[simp] theorem put_var (i j : Nat) (l : List (Option SV)) (p : List Nat) : putR i (.var j) ⟨l, p⟩ = if i ∈ p then none else (match l[j]? with
    | some (some s) => some ⟨(l.set j (some (.fz s.toD))).set i (some (.fz s.toD)), p⟩
    | _ => none) := (rfl)
@[simp] theorem ev_ix (a b : M RV) (e : Env) : dIx a b e = (a e).bind fun r e => (b e).bind fun q e => match view e q with
  | some (.int i) => (match itemR e r i with
    | some d => .ok (.fz d) e
    | none => .st)
  | _ => .st := (rfl)
@[simp] theorem item_fz (e : Env) (d : D) (i : Int) : itemR e (.fz d) i = itemD d i := (rfl)
@[simp] theorem item_own (e : Env) (s : SV) (i : Int) : itemR e (.own s) i = itemS s i := (rfl)
@[simp] theorem item_var (j : Nat) (i : Int) (l : List (Option SV)) (p : List Nat) : itemR ⟨l, p⟩ (.var j) i = (match l[j]? with
    | some (some s) => itemS s i
    | _ => none) := (rfl)
@[simp] theorem itemS_fz (d : D) (i : Int) : itemS (.fz d) i = itemD d i := (rfl)
@[simp] theorem itemS_ol (xs : List SV) (i : Int) : itemS (.ol xs) i = kid xs i := (rfl)
@[simp] theorem itemD_lst (ds : List D) (i : Int) : itemD (.lst ds) i = atI ds i := (rfl)
@[simp] theorem itemD_tup (ds : List D) (i : Int) : itemD (.tup ds) i = atI ds i := (rfl)
@[simp] theorem kid_map (ds : List D) (i : Int) : kid (fzs ds) i = atI ds i := by
  unfold kid fzs
  rw [atI_map]
  cases atI ds i <;> rfl
@[simp] theorem fI_int (g : Int → Int → Int) (i j : Int) : fI g (.int i) (.int j) = some (.int (g i j)) := (rfl)
@[simp] theorem fB_int (g : Int → Int → Bool) (i j : Int) : fB g (.int i) (.int j) = some (.bl (g i j)) := (rfl)
@[simp] theorem fMul_int (i j : Int) : fMul (.int i) (.int j) = if (inB i 64 || inB j 64) = true then some (.int (i * j)) else none := (rfl)
@[simp] theorem fMod_int (i j : Int) : fMod (.int i) (.int j) = if 0 < j then some (.int (i % j)) else none := (rfl)
@[simp] theorem fDiv_int (i j : Int) : fDiv (.int i) (.int j) = if 0 < j ∧ j < 1073741824 then some (.int (i / j)) else none := (rfl)
@[simp] theorem lenD_lst (ds : List D) : lenD [.lst ds] = some (.int (ds.length : Nat)) := (rfl)
@[simp] theorem lenD_scr (ds : List Int) : lenD [.scr ds] = some (.int (ds.length : Nat)) := (rfl)
@[simp] theorem intD_int (i : Int) : intD [.int i] = some (.int i) := (rfl)
@[simp] theorem ev_setIx (j : Nat) (b a : M RV) (e : Env) : dSetIx j b a e = (a e).bind fun r e0 => match e0.sl[j]? with
  | some (some (.ol _)) => (b e0).bind fun q e => match view e q with
    | some (.int k) => (match frzR r e with
      | some (d, e1) => (match e1.sl[j]? with
        | some (some (.ol xs)) => (match ixN xs.length k with
          | some n => .ok .nx (e1.setS j (.ol (xs.set n (.fz d))))
          | none => .st)
        | _ => .st)
      | none => .st)
    | _ => .st
  | _ => .st := (rfl)
@[simp] theorem ev_app (i : Nat) (a : M RV) (e0 : Env) : dApp i a e0 = match e0.sl[i]? with
  | some (some (.ol _)) => (a e0).bind fun r e => match frzR r e with
    | some (d, e1) => (match e1.sl[i]? with
      | some (some (.ol xs)) => if xs.length < sizeLine then .ok (.fz .non) (e1.setS i (.ol (xs ++ [.fz d]))) else .st
      | _ => .st)
    | none => .st
  | _ => .st := (rfl)
theorem run_fn0 {md : List Bool} {n : Nat} {m : M Fl} {ss ss' : List SV} {f : Fl} {e e1 : Env} {r : SV} (ha : okArgs md ss = true) (h : m (env0 md n ss) = .ok f e) (hr : resOf f e = some (r, e1)) (ho : outs 0 md ss e1 = some ss') : mkFn0 md n m ss = .ok r ss' := by
  unfold mkFn0 mkFn
  rw [if_pos ha, h]
  simp only [hr, ho]
@[simp] theorem atI_nonneg {α : Type} (xs : List α) (i : Int) (h : 0 ≤ i) : atI xs i = xs[i.toNat]? := by
  unfold atI ixN
  rw [if_pos h]
  by_cases h2 : i < xs.length
  · rw [if_pos h2]; rfl
  · rw [if_neg h2]
    exact (List.getElem?_eq_none (by omega)).symm
theorem atI_neg1 {α : Type} (xs : List α) : atI xs (-1) = xs.getLast? := by
  unfold atI ixN
  rw [if_neg (by decide)]
  cases xs with
  | nil => rfl
  | cons x xs =>
    rw [if_pos (by simp only [List.length_cons]; omega), List.getLast?_eq_getElem?]
    show (x :: xs)[_]? = _
    congr 1
    simp only [List.length_cons]
    omega
@[simp] theorem ixN_ok {n : Nat} {k : Int} (h0 : 0 ≤ k) (h1 : k < n) : ixN n k = some k.toNat := by
  unfold ixN
  rw [if_pos h0, if_pos h1]
def fzOf : Option SV → Option D
  | some (.fz d) => some d
  | _ => none
@[simp] theorem fzOf_fz (d : D) : fzOf (some (.fz d)) = some d := (rfl)
@[simp] theorem fzOf_none : fzOf none = none := (rfl)
theorem kid_at (xs : List SV) (i : Int) : kid xs i = fzOf (atI xs i) := by
  unfold kid
  cases atI xs i with
  | none => rfl
  | some s => cases s <;> rfl
@[simp] theorem kid_cons (x : SV) (xs : List SV) (i : Int) (h : 0 ≤ i) : kid (x :: xs) i = fzOf (x :: xs)[i.toNat]? := by rw [kid_at, atI_nonneg _ _ h]
@[simp] theorem out_nil (i : Nat) (e : Env) : outs i [] [] e = some [] := (rfl)
@[simp] theorem out_false (i : Nat) (l : List Bool) (s : SV) (ss : List SV) (e : Env) : outs i (false :: l) (s :: ss) e = (match outs (i + 1) l ss e with
    | some r => some (s :: r)
    | none => none) := (rfl)
@[simp] theorem out_true (i : Nat) (l : List Bool) (s : SV) (ss : List SV) (l2 : List (Option SV)) (p : List Nat) : outs i (true :: l) (s :: ss) ⟨l2, p⟩ = (match l2[i]? with
    | some (some s) => (match outs (i + 1) l ss ⟨l2.set i none, p⟩ with
      | some r => some (s :: r)
      | none => none)
    | _ => none) := (rfl)
@[simp] theorem res_fz (d : D) (e : Env) : resOf (.rt (.fz d)) e = some (.fz d, e) := (rfl)
@[simp] theorem res_nx (e : Env) : resOf .nx e = some (.fz .non, e) := (rfl)
@[simp] theorem res_own (s : SV) (e : Env) : resOf (.rt (.own s)) e = some (s, e) := (rfl)
@[simp] theorem res_var (i : Nat) (l : List (Option SV)) (p : List Nat) : resOf (.rt (.var i)) ⟨l, p⟩ = (match l[i]? with
    | some (some s) => if i ∈ p then some (.fz s.toD, ⟨l.set i (some (.fz s.toD)), p⟩) else some (s, ⟨l.set i none, p⟩)
    | _ => none) := (rfl)
def d__law_draw : M Fl := (dSeq (dSet 2 (dIx (dVar 0) (dC (.int 1))))
  (dSeq (dSetIx 0 (dC (.int 1)) (dOp (fI (· + ·)) (dVar 2) (dC (.int 1))))
  (dSeq (dIf (dT (dOp (fB fun i j => decide (i < j)) (dVar 2) (dCB lenD (dCons (dIx (dVar 0) (dC (.int 0))) dNil)))) (dRet (dOp fMod (dCB intD (dCons (dIx (dIx (dVar 0) (dC (.int 0))) (dVar 2)) dNil)) (dVar 1))) dNext)
  (dRet (dC (.int 0))))))
def drawV (ds : List Int) (at_ : Nat) (many : Int) : Int := match ds[at_]? with
  | some d => d % many
  | none => 0
def box (ds : List Int) (at_ : Nat) : SV := .ol [.fz (.lst (iDs ds)), .fz (.int at_)]
theorem draw_ok (ds : List Int) (at_ : Nat) (many : Int) (hm : 0 < many) : mkFn0 [true, false] 3 d__law_draw [box ds at_, .fz (.int many)] = .ok (.fz (.int (drawV ds at_ many))) [box ds (at_ + 1), .fz (.int many)] := by
  cases h : ds[at_]? with
  | some d =>
    have h1 : (at_ : Int) < ds.length := by have := (List.getElem?_eq_some_iff.mp h).1; omega
    simp [mkFn0, mkFn, okArgs, env0, pinIx, d__law_draw, box, List.replicate, h, h1, hm, drawV]
  | none =>
    have h1 : ¬ (at_ : Int) < ds.length := by have := List.getElem?_eq_none_iff.mp h; omega
    simp [mkFn0, mkFn, okArgs, env0, pinIx, d__law_draw, box, List.replicate, h, h1, hm, drawV]
end VF
set_option maxRecDepth 100000
set_option maxHeartbeats 4000000
namespace VF
set_option autoImplicit false
open PySem L2
theorem loopF_inv {g : Tg} {body : M Fl} (P : Nat → Env → Prop) : ∀ (ds : List D) (k : Nat) (e : Env), P k e → (∀ (i : Nat) d e, ds[i]? = some d → P (k + i) e → ∃ e1 e2, g d e = some e1 ∧ (body e1 = .ok .nx e2 ∨ body e1 = .ok .ct e2) ∧ P (k + i + 1) e2) → ∃ e', loopF g body ds e = .ok .nx e' ∧ P (k + ds.length) e'
  | [], k, e, h0, _ => ⟨e, rfl, h0⟩
  | d :: ds, k, e, h0, hs => by
    obtain ⟨e1, e2, h1, h2, h3⟩ := hs 0 d e rfl h0
    obtain ⟨e', h4, h5⟩ := loopF_inv P ds (k + 1) e2 h3 fun i d' e' hd hp => by
      have := hs (i + 1) d' e' (by simpa using hd) (by rw [show k + (i + 1) = k + 1 + i by omega]; exact hp)
      rw [show k + (i + 1) + 1 = k + 1 + i + 1 by omega] at this
      exact this
    refine ⟨e', ?_, by rw [List.length_cons, show k + (ds.length + 1) = k + 1 + ds.length by omega]; exact h5⟩
    show (match g d e with
      | none => R.st
      | some e1 => (match body e1 with
        | .ok .nx e2 => loopF g body ds e2
        | .ok .ct e2 => loopF g body ds e2
        | .ok .bk e2 => .ok .nx e2
        | .ok (.rt r) e2 => .ok (.rt r) e2
        | .ex x e2 => .ex x e2
        | .st => .st)) = _
    rw [h1]
    rcases h2 with h2 | h2 <;> (simp only [h2]; exact h4)
theorem loopF_inv0 {g : Tg} {body : M Fl} (P : Nat → Env → Prop) (ds : List D) (e : Env) (h0 : P 0 e) (hs : ∀ (i : Nat) d e, ds[i]? = some d → P i e → ∃ e1 e2, g d e = some e1 ∧ (body e1 = .ok .nx e2 ∨ body e1 = .ok .ct e2) ∧ P (i + 1) e2) : ∃ e', loopF g body ds e = .ok .nx e' ∧ P ds.length e' := by
  have := loopF_inv (g := g) (body := body) P ds 0 e h0 fun i d e hd hp => by
    rw [Nat.zero_add] at hp ⊢
    exact hs i d e hd hp
  rwa [Nat.zero_add] at this
@[simp] theorem ev_it (a : M RV) (e : Env) : dIt a e = (a e).bind fun r e => match frzR r e with
  | some (d, e1) => (match walk d with
    | some ds => .ok ds e1
    | none => .st)
  | none => .st := (rfl)
@[simp] theorem walk_lst (ds : List D) : walk (.lst ds) = some ds := (rfl)
@[simp] theorem ev_rng1 (a : M (List RV)) (e : Env) : dRng1 a e = (a e).bind fun rs e => match rs.mapM (view e) with
  | some ds => (match oneI ds with
    | some j => if small62 j = true then .ok (rngD 0 j.toNat) e else .st
    | none => .st)
  | none => .st := (rfl)
@[simp] theorem ev_rng2 (a : M (List RV)) (e : Env) : dRng2 a e = (a e).bind fun rs e => match rs.mapM (view e) with
  | some ds => (match twoI ds with
    | some (i, j) => if (small62 i && small62 j) = true then .ok (rngD i (j - i).toNat) e else .st
    | none => .st)
  | none => .st := (rfl)
@[simp] theorem oneI_int (i : Int) : oneI [.int i] = some i := (rfl)
@[simp] theorem twoI_int (i j : Int) : twoI [.int i, .int j] = some (i, j) := (rfl)
@[simp] theorem small62_def (i : Int) : small62 i = decide (-(2 ^ 62) ≤ i ∧ i < 2 ^ 62) := (rfl)
@[simp] theorem inB_def (i : Int) (k : Nat) : inB i k = decide (-(2 ^ k) < i ∧ i < 2 ^ k) := (rfl)
@[simp] theorem gN_def (i : Nat) (d : D) (e : Env) : gN i d e = putR i (.fz d) e := (rfl)
@[simp] theorem ev_for (it : M (List D)) (g : Tg) (body : M Fl) (e : Env) : dFor it g body e = (it e).bind fun ds => loopF g body ds := (rfl)
@[simp] theorem ev_call (md : List Bool) (φ : Fn) (a : M (List RV)) (e : Env) : dCall md φ a e = (a e).bind fun rs e => match load md rs e with
  | some (ss, e1) => (match φ ss with
    | .st => .st
    | .ok r ss' => (match unload md rs ss' e1 with
      | some e2 => .ok (svR r) e2
      | none => .st)
    | .ex x ss' => (match unload md rs ss' e1 with
      | some e2 => .ex x e2
      | none => .st))
  | none => .st := (rfl)
@[simp] theorem ld_nil (e : Env) : load [] [] e = some ([], e) := (rfl)
@[simp] theorem ld_false (md : List Bool) (r : RV) (rs : List RV) (e : Env) : load (false :: md) (r :: rs) e = (match (match frzR r e with
    | some (d, e1) => some (SV.fz d, e1)
    | none => none) with
    | some (s, e1) => (match load md rs e1 with
      | some (ss, e2) => some (s :: ss, e2)
      | none => none)
    | none => none) := (rfl)
@[simp] theorem ld_true (md : List Bool) (i : Nat) (rs : List RV) (l : List (Option SV)) (p : List Nat) : load (true :: md) (.var i :: rs) ⟨l, p⟩ = (match (match l[i]? with
      | some (some s) => some (s, (⟨l.set i none, p⟩ : Env))
      | _ => none) with
    | some (s, e1) => (match load md rs e1 with
      | some (ss, e2) => some (s :: ss, e2)
      | none => none)
    | none => none) := (rfl)
@[simp] theorem ul_nil (e : Env) : unload [] [] [] e = some e := (rfl)
@[simp] theorem ul_false (md : List Bool) (r : RV) (rs : List RV) (s : SV) (ss : List SV) (e : Env) : unload (false :: md) (r :: rs) (s :: ss) e = unload md rs ss e := by cases r <;> rfl
@[simp] theorem ul_true (md : List Bool) (i : Nat) (rs : List RV) (s : SV) (ss : List SV) (e : Env) : unload (true :: md) (.var i :: rs) (s :: ss) e = if isClr e i = true then unload md rs ss (e.setS i s) else none := (rfl)
@[simp] theorem isClr_mk (l : List (Option SV)) (p : List Nat) (i : Nat) : isClr ⟨l, p⟩ i = (match l[i]? with
  | some none => true
  | _ => false) := (rfl)
@[simp] theorem svR_fz (d : D) : svR (.fz d) = .fz d := (rfl)
@[simp] theorem svR_ol (xs : List SV) : svR (.ol xs) = .own (.ol xs) := (rfl)
@[simp] theorem ev_callB (n : Nat) (φ : Fn) (a : M (List RV)) (e : Env) : dCallB n φ a e = (a e).bind fun rs e => match rs.mapM (view e) with
  | some ds => if ds.length = n then (match φ (ds.map .fz) with
    | .ok r _ => (match immS r with
      | some d => .ok (.fz d) e
      | none => .st)
    | .ex x _ => .ex x e
    | .st => .st) else .st
  | none => .st := (rfl)
@[simp] theorem immS_int (i : Int) : immS (.fz (.int i)) = some (.int i) := (rfl)
@[simp] theorem immS_bl (i : Bool) : immS (.fz (.bl i)) = some (.bl i) := (rfl)
@[simp] theorem immS_non : immS (.fz .non) = some .non := (rfl)
@[simp] theorem immS_str (s : Str) : immS (.fz (.str s)) = some (.str s) := (rfl)
@[simp] theorem ev_lst (a : M (List RV)) (e : Env) : dLst a e = (a e).bind fun rs e => match frzRs rs e with
  | some (ds, e') => if ds.length ≤ sizeLine then .ok (.own (.ol (fzs ds))) e' else .st
  | none => .st := (rfl)
@[simp] theorem size_pos : 0 ≤ sizeLine := Nat.zero_le _
theorem size_ge {n : Nat} (h : n ≤ 16777216) : n ≤ sizeLine := by rw [sizeLine_eq]; exact h
theorem size_gt {n : Nat} (h : n < 16777216) : n < sizeLine := by rw [sizeLine_eq]; exact h
def e18 : Int := 1000000000000000000
@[simp] theorem fPow_18 : fPow (.int 10) (.int 18) = some (.int e18) := by
  unfold fPow
  simp only
  rw [if_pos ⟨by decide, by decide, by decide⟩]
  rfl
@[simp] theorem blOf_bl (b : Bool) : blOf (.bl b) = some b := (rfl)
@[simp] theorem ev_chain (f g : D → D → Option D) (a b c : M RV) (e : Env) : dChain f g a b c e = (a e).bind fun r e => (b e).bind fun q e => match view e r, view e q with
  | some x, some y => (match (f x y).bind blOf with
    | some true => (c e).bind fun p e => (match view e q, view e p with
      | some y, some z => (match g y z with
        | some d => .ok (.fz d) e
        | none => .st)
      | _, _ => .st)
    | some false => .ok (.fz (.bl false)) e
    | none => .st)
  | _, _ => .st := (rfl)
def d__law_cell : M Fl := (dSeq (dIf (dT (dOp (fB fun i j => decide (i < j)) (dVar 1) (dCB lenD (dCons (dVar 0) dNil)))) (dRet (dIx (dVar 0) (dVar 1))) dNext)
  (dRet (dC (.int 0))))
def φ__law_cell : Fn := mkFn0 [false, false] 2 d__law_cell
@[simp] theorem itemD_scr (ns : List Int) (i : Int) : itemD (.scr ns) i = (atI ns i).map .int := (rfl)
theorem cell_ok (ns : List Int) (k : Nat) : ∃ c : Int, φ__law_cell [.fz (.scr ns), .fz (.int k)] = .ok (.fz (.int c)) [.fz (.scr ns), .fz (.int k)] := by
  cases h : ns[k]? with
  | some d =>
    have h1 : (k : Int) < ns.length := by have := (List.getElem?_eq_some_iff.mp h).1; omega
    exact ⟨d, by simp [φ__law_cell, mkFn0, mkFn, okArgs, env0, pinIx, d__law_cell, h, h1]⟩
  | none =>
    have h1 : ¬ (k : Int) < ns.length := by have := List.getElem?_eq_none_iff.mp h; omega
    exact ⟨0, by simp [φ__law_cell, mkFn0, mkFn, okArgs, env0, pinIx, d__law_cell, h, h1]⟩
theorem rng_at {lo : Int} {n i : Nat} {d : D} (h : (rngD lo n)[i]? = some d) : i < n ∧ d = .int (lo + i) := by
  unfold rngD at h
  rw [List.getElem?_map] at h
  cases q : (List.range n)[i]? with
  | none => rw [q] at h; cases h
  | some j =>
    rw [q] at h
    cases h
    have hlt : i < n := by simpa using (List.getElem?_eq_some_iff.mp q).1
    rw [List.getElem?_range hlt] at q
    cases q
    exact ⟨hlt, rfl⟩
@[simp] theorem rng_len (lo : Int) (n : Nat) : (rngD lo n).length = n := by simp [rngD]
def DgP (ns : List Int) (b : Nat) (e : Env) : Prop := ∃ (L : List Int) (v4 v5 v6 v7 : Option SV), L.length ≤ b ∧ e = ⟨[some (.fz (.scr ns)), some (.fz (.int 0)), some (.fz (.int 63)), some (.ol (fzs (iDs L))), v4, v5, v6, v7], []⟩
def dg1 : M Fl := dIf (dT (dOp (fB fun i j => decide (j < i)) (dVar 5) (dC (.int 0)))) (dSeq (dDrop (dApp 3 (dOp fMod (dCB intD (dCons (dVar 5) dNil)) (dC (.int 1000)))))
  (dSet 5 (dOp fDiv (dVar 5) (dC (.int 1000))))) dNext
theorem dg1_ok (ns : List Int) (b : Nat) (hb : b ≤ 10000) (L : List Int) (c : Int) (v4 v6 v7 : Option SV) (hL : L.length ≤ b) : ∃ e', loopF (gN 6) dg1 (rngD 0 60) ⟨[some (.fz (.scr ns)), some (.fz (.int 0)), some (.fz (.int 63)), some (.ol (fzs (iDs L))), v4, some (.fz (.int c)), v6, v7], []⟩ = .ok .nx e' ∧ DgP ns (b + 60) e' := by
  have h := loopF_inv0 (g := gN 6) (body := dg1) (fun i e => ∃ (L : List Int) (c : Int) (v6 : Option SV), L.length ≤ b + i ∧ e = ⟨[some (.fz (.scr ns)), some (.fz (.int 0)), some (.fz (.int 63)), some (.ol (fzs (iDs L))), v4, some (.fz (.int c)), v6, v7], []⟩) (rngD 0 60) _ ⟨L, c, v6, hL, rfl⟩ (by
    rintro i d e hd ⟨L, c, v6, hL, rfl⟩
    obtain ⟨hi, rfl⟩ := rng_at hd
    have hz : L.length < sizeLine := size_gt (by omega)
    by_cases hc : 0 < c
    · refine ⟨_, ⟨[some (.fz (.scr ns)), some (.fz (.int 0)), some (.fz (.int 63)), some (.ol (fzs (iDs (L ++ [c % 1000])))), v4, some (.fz (.int (c / 1000))), some (.fz (.int (0 + (i : Nat)))), v7], []⟩, rfl, .inl ?_, L ++ [c % 1000], c / 1000, _, by simp; omega, rfl⟩
      simp [dg1, hc, hz]
    · refine ⟨_, ⟨[some (.fz (.scr ns)), some (.fz (.int 0)), some (.fz (.int 63)), some (.ol (fzs (iDs L))), v4, some (.fz (.int c)), some (.fz (.int (0 + (i : Nat)))), v7], []⟩, rfl, .inl ?_, L, c, _, by omega, rfl⟩
      simp [dg1, hc])
  obtain ⟨e', h1, L', c', v6', h2, rfl⟩ := h
  exact ⟨_, h1, L', v4, _, v6', v7, by simpa using h2, rfl⟩
def dg2 : M Fl := dSeq (dSet 7 (dOp fMod (dCB intD (dCons (dOp (fI (· + ·)) (dOp (fI (· + ·)) (dOp fMul (dVar 7) (dC (.int 16807))) (dOp fMul (dC (.int 7)) (dVar 6))) (dC (.int 1))) dNil)) (dC (.int 2147483647))))
  (dDrop (dApp 3 (dOp fMod (dCB intD (dCons (dOp fDiv (dVar 7) (dC (.int 997))) dNil)) (dC (.int 1000)))))
theorem dg2_ok (ns : List Int) (b : Nat) (hb : b ≤ 10000) (L : List Int) (c : Int) (v4 v5 v6 : Option SV) (hL : L.length ≤ b) : ∃ e', loopF (gN 6) dg2 (rngD 0 12) ⟨[some (.fz (.scr ns)), some (.fz (.int 0)), some (.fz (.int 63)), some (.ol (fzs (iDs L))), v4, v5, v6, some (.fz (.int c))], []⟩ = .ok .nx e' ∧ DgP ns (b + 60) e' := by
  have h := loopF_inv0 (g := gN 6) (body := dg2) (fun i e => ∃ (L : List Int) (c : Int) (v6 : Option SV), L.length ≤ b + i ∧ e = ⟨[some (.fz (.scr ns)), some (.fz (.int 0)), some (.fz (.int 63)), some (.ol (fzs (iDs L))), v4, v5, v6, some (.fz (.int c))], []⟩) (rngD 0 12) _ ⟨L, c, v6, hL, rfl⟩ (by
    rintro i d e hd ⟨L, c, v6, hL, rfl⟩
    obtain ⟨hi, rfl⟩ := rng_at hd
    have hz : L.length < sizeLine := size_gt (by omega)
    refine ⟨_, ⟨[some (.fz (.scr ns)), some (.fz (.int 0)), some (.fz (.int 63)), some (.ol (fzs (iDs (L ++ [((c * 16807 + 7 * (0 + (i : Nat)) + 1) % 2147483647) / 997 % 1000])))), v4, v5, some (.fz (.int (0 + (i : Nat)))), some (.fz (.int ((c * 16807 + 7 * (0 + (i : Nat)) + 1) % 2147483647)))], []⟩, rfl, .inl ?_, _, _, _, ?_, rfl⟩
    · simp [dg2, hz]
    · simp; omega)
  obtain ⟨e', h1, L', c', v6', h2, rfl⟩ := h
  exact ⟨_, h1, L', v4, v5, v6', _, by rw [rng_len] at h2; omega, rfl⟩
def dgT : M Fl := dIf (dT (dOp (fB fun i j => decide (j ≤ i)) (dVar 5) (dOp fPow (dC (.int 10)) (dC (.int 18))))) (dFor (dRng1 (dCons (dC (.int 60)) dNil)) (gN 6) dg1) (dSeq (dSet 7 (dOp fMod (dCB intD (dCons (dOp (fI (· + ·)) (dOp (fI (· + ·)) (dOp fMul (dVar 5) (dC (.int 48271))) (dOp fMul (dVar 4) (dC (.int 69621)))) (dC (.int 11))) dNil)) (dC (.int 2147483647))))
      (dFor (dRng1 (dCons (dC (.int 12)) dNil)) (gN 6) dg2))
theorem t5 (ns : List Int) (b i : Nat) (hb : b ≤ 10000) (L : List Int) (v6 v7 : Option SV) (hL : L.length ≤ b) (c : Int) (hx : e18 ≤ c) : ∃ e', dgT ⟨[some (.fz (.scr ns)), some (.fz (.int 0)), some (.fz (.int 63)), some (.ol (fzs (iDs L))), some (.fz (.int i)), some (.fz (.int c)), v6, v7], []⟩ = .ok .nx e' ∧ DgP ns (b + 60) e' := by
  obtain ⟨e', h1, h2⟩ := dg1_ok ns b hb L c (some (.fz (.int i))) v6 v7 hL
  refine ⟨e', ?_, h2⟩
  unfold dgT
  simp [hx, h1]
def dgS : M Fl := dSet 7 (dOp fMod (dCB intD (dCons (dOp (fI (· + ·)) (dOp (fI (· + ·)) (dOp fMul (dVar 5) (dC (.int 48271))) (dOp fMul (dVar 4) (dC (.int 69621)))) (dC (.int 11))) dNil)) (dC (.int 2147483647)))
theorem dgS_ok (x1 x2 x3 x4 v6 v7 : Option SV) (c i : Int) : ∃ s : Int, dgS ⟨[x1, x2, x3, x4, some (.fz (.int i)), some (.fz (.int c)), v6, v7], []⟩ = .ok .nx ⟨[x1, x2, x3, x4, some (.fz (.int i)), some (.fz (.int c)), v6, some (.fz (.int s))], []⟩ := by
  refine ⟨(c * 48271 + i * 69621 + 11) % 2147483647, ?_⟩
  simp [dgS]
theorem t6 (ns : List Int) (b i : Nat) (hb : b ≤ 10000) (L : List Int) (v6 v7 : Option SV) (hL : L.length ≤ b) (c : Int) (hx : ¬ e18 ≤ c) : ∃ e', dgT ⟨[some (.fz (.scr ns)), some (.fz (.int 0)), some (.fz (.int 63)), some (.ol (fzs (iDs L))), some (.fz (.int i)), some (.fz (.int c)), v6, v7], []⟩ = .ok .nx e' ∧ DgP ns (b + 60) e' := by
  obtain ⟨s, hs⟩ := dgS_ok (some (.fz (.scr ns))) (some (.fz (.int 0))) (some (.fz (.int 63))) (some (.ol (fzs (iDs L)))) v6 v7 c i
  obtain ⟨e', h1, h2⟩ := dg2_ok ns b hb L s (some (.fz (.int i))) (some (.fz (.int c))) v6 hL
  refine ⟨e', ?_, h2⟩
  unfold dgS at hs
  unfold dgT
  rw [ev_if, ev_t, ev_op]
  simp [hx, hs, h1, -ev_set]
end VF
set_option maxRecDepth 100000
set_option maxHeartbeats 4000000
namespace VF
set_option autoImplicit false
open PySem L2
def plD : Nat → D → Bool
  | _, .non => true
  | _, .int _ => true
  | _, .str s => PyData.strOk s
  | n + 1, .lst ds => ds.all (plD n)
  | n + 1, .tup ds => ds.all (plD n)
  | _, _ => false
theorem pl_all {n : Nat} (ih : ∀ d, plD n d = true → ∃ p, toP d = some p ∧ p.canLay0 = true ∧ p.depth ≤ n) : ∀ ds : List D, ds.all (plD n) = true → ∃ ps, toPs ds = some ps ∧ PyData.canLayAll0 ps = true ∧ PyData.depthAll ps ≤ n
  | [], _ => ⟨[], rfl, rfl, by simp [PyData.depthAll]⟩
  | d :: ds, h => by
    rw [List.all_cons, Bool.and_eq_true] at h
    obtain ⟨p, h1, h2, h3⟩ := ih d h.1
    obtain ⟨ps, q1, q2, q3⟩ := pl_all ih ds h.2
    refine ⟨p :: ps, by unfold toPs; rw [h1, q1], by simp [PyData.canLayAll0, h2, q2], ?_⟩
    simp only [PyData.depthAll]
    omega
theorem pl_ok : ∀ (n : Nat) (d : D), plD n d = true → ∃ p, toP d = some p ∧ p.canLay0 = true ∧ p.depth ≤ n := by
  have base : ∀ (n : Nat) (s : Str), PyData.strOk s = true → ∃ p, toP (.str s) = some p ∧ p.canLay0 = true ∧ p.depth ≤ n := fun n s h => ⟨.str s, rfl, by simp [PyData.canLay0, h], by simp [PyData.depth]⟩
  intro n
  induction n with
  | zero =>
    intro d h
    cases d with
    | non => exact ⟨_, rfl, rfl, by simp [PyData.depth]⟩
    | int i => exact ⟨_, rfl, rfl, by simp [PyData.depth]⟩
    | str s => exact base _ s h
    | _ => cases h
  | succ n ih =>
    intro d h
    cases d with
    | non => exact ⟨_, rfl, rfl, by simp [PyData.depth]⟩
    | int i => exact ⟨_, rfl, rfl, by simp [PyData.depth]⟩
    | str s => exact base _ s h
    | lst ds =>
      obtain ⟨ps, h1, h2, h3⟩ := pl_all ih ds h
      exact ⟨.list ps, by show (toPs ds).map _ = _; rw [h1]; rfl, by simpa [PyData.canLay0] using h2, by simp only [PyData.depth]; omega⟩
    | tup ds =>
      obtain ⟨ps, h1, h2, h3⟩ := pl_all ih ds h
      exact ⟨.tuple ps, by show (toPs ds).map _ = _; rw [h1]; rfl, by simpa [PyData.canLay0] using h2, by simp only [PyData.depth]; omega⟩
    | _ => cases h
theorem pl_eqs {n m : Nat} (ih : ∀ a b p q, plD n a = true → plD m b = true → toP a = some p → toP b = some q → (PyData.eqv p q = true ↔ a = b)) : ∀ (as bs : List D) (ps qs : List PyData), as.all (plD n) = true → bs.all (plD m) = true → toPs as = some ps → toPs bs = some qs → (PyData.eqvAll ps qs = true ↔ as = bs)
  | [], [], ps, qs, _, _, q1, q2 => by cases q1; cases q2; simp [PyData.eqvAll]
  | [], b :: bs, ps, qs, _, hb, q1, q2 => by
    cases q1
    unfold toPs at q2
    split at q2
    · cases q2; simp [PyData.eqvAll]
    · cases q2
  | a :: as, [], ps, qs, ha, _, q1, q2 => by
    cases q2
    unfold toPs at q1
    split at q1
    · cases q1; simp [PyData.eqvAll]
    · cases q1
  | a :: as, b :: bs, ps, qs, ha, hb, q1, q2 => by
    rw [List.all_cons, Bool.and_eq_true] at ha hb
    unfold toPs at q1 q2
    split at q1
    · split at q2
      · rename_i p ps z1 z2 _ _ q qs z3 z4
        cases q1; cases q2
        simp only [PyData.eqvAll, Bool.and_eq_true, ih a b p q ha.1 hb.1 z1 z3, pl_eqs ih as bs ps qs ha.2 hb.2 z2 z4, List.cons.injEq]
      · cases q2
    · cases q1
theorem toP_lst (ds : List D) : toP (.lst ds) = (toPs ds).map .list := rfl
theorem toP_tup (ds : List D) : toP (.tup ds) = (toPs ds).map .tuple := rfl
theorem pl_eq : ∀ (n m : Nat) (a b : D) (p q : PyData), plD n a = true → plD m b = true → toP a = some p → toP b = some q → (PyData.eqv p q = true ↔ a = b) := by
  intro n
  induction n with
  | zero =>
    intro m a b p q ha hb ea eb
    cases a with
    | non => cases ea; cases b <;> first | (exfalso; revert hb; cases m <;> (intro hb; cases hb); done) | (cases eb; simp [PyData.eqv]; done) | (rw [toP_lst] at eb; cases z : toPs _ <;> rw [z] at eb <;> cases eb; simp [PyData.eqv]; done) | (rw [toP_tup] at eb; cases z : toPs _ <;> rw [z] at eb <;> cases eb; simp [PyData.eqv]; done)
    | int i => cases ea; cases b <;> first | (exfalso; revert hb; cases m <;> (intro hb; cases hb); done) | (cases eb; simp [PyData.eqv]; done) | (rw [toP_lst] at eb; cases z : toPs _ <;> rw [z] at eb <;> cases eb; simp [PyData.eqv]; done) | (rw [toP_tup] at eb; cases z : toPs _ <;> rw [z] at eb <;> cases eb; simp [PyData.eqv]; done)
    | str i => cases ea; cases b <;> first | (exfalso; revert hb; cases m <;> (intro hb; cases hb); done) | (cases eb; simp [PyData.eqv]; done) | (rw [toP_lst] at eb; cases z : toPs _ <;> rw [z] at eb <;> cases eb; simp [PyData.eqv]; done) | (rw [toP_tup] at eb; cases z : toPs _ <;> rw [z] at eb <;> cases eb; simp [PyData.eqv]; done)
    | _ => cases ha
  | succ n ih =>
    intro m a b p q ha hb ea eb
    cases a with
    | non => cases ea; cases b <;> first | (exfalso; revert hb; cases m <;> (intro hb; cases hb); done) | (cases eb; simp [PyData.eqv]; done) | (rw [toP_lst] at eb; cases z : toPs _ <;> rw [z] at eb <;> cases eb; simp [PyData.eqv]; done) | (rw [toP_tup] at eb; cases z : toPs _ <;> rw [z] at eb <;> cases eb; simp [PyData.eqv]; done)
    | int i => cases ea; cases b <;> first | (exfalso; revert hb; cases m <;> (intro hb; cases hb); done) | (cases eb; simp [PyData.eqv]; done) | (rw [toP_lst] at eb; cases z : toPs _ <;> rw [z] at eb <;> cases eb; simp [PyData.eqv]; done) | (rw [toP_tup] at eb; cases z : toPs _ <;> rw [z] at eb <;> cases eb; simp [PyData.eqv]; done)
    | str i => cases ea; cases b <;> first | (exfalso; revert hb; cases m <;> (intro hb; cases hb); done) | (cases eb; simp [PyData.eqv]; done) | (rw [toP_lst] at eb; cases z : toPs _ <;> rw [z] at eb <;> cases eb; simp [PyData.eqv]; done) | (rw [toP_tup] at eb; cases z : toPs _ <;> rw [z] at eb <;> cases eb; simp [PyData.eqv]; done)
    | lst as =>
      rw [toP_lst] at ea
      cases z1 : toPs as with
      | none => rw [z1] at ea; cases ea
      | some ps =>
        rw [z1] at ea; cases ea
        cases b with
        | lst bs =>
          rw [toP_lst] at eb
          cases z2 : toPs bs with
          | none => rw [z2] at eb; cases eb
          | some qs =>
            rw [z2] at eb; cases eb
            cases m with
            | zero => cases hb
            | succ m =>
              simp only [PyData.eqv, D.lst.injEq]
              exact pl_eqs (fun a b p q h1 h2 h3 h4 => ih m a b p q h1 h2 h3 h4) as bs ps qs ha hb z1 z2
        | tup bs => rw [toP_tup] at eb; cases z : toPs bs <;> rw [z] at eb <;> cases eb; simp [PyData.eqv]
        | _ => first | (exfalso; revert hb; cases m <;> (intro hb; cases hb); done) | (cases eb; simp [PyData.eqv]; done)
    | tup as =>
      rw [toP_tup] at ea
      cases z1 : toPs as with
      | none => rw [z1] at ea; cases ea
      | some ps =>
        rw [z1] at ea; cases ea
        cases b with
        | tup bs =>
          rw [toP_tup] at eb
          cases z2 : toPs bs with
          | none => rw [z2] at eb; cases eb
          | some qs =>
            rw [z2] at eb; cases eb
            cases m with
            | zero => cases hb
            | succ m =>
              simp only [PyData.eqv, D.tup.injEq]
              exact pl_eqs (fun a b p q h1 h2 h3 h4 => ih m a b p q h1 h2 h3 h4) as bs ps qs ha hb z1 z2
        | lst bs => rw [toP_lst] at eb; cases z : toPs bs <;> rw [z] at eb <;> cases eb; simp [PyData.eqv]
        | _ => first | (exfalso; revert hb; cases m <;> (intro hb; cases hb); done) | (cases eb; simp [PyData.eqv]; done)
    | _ => cases ha
theorem eqD_pl {a b : D} [Decidable (a = b)] (ha : plD 64 a = true) (hb : plD 64 b = true) : eqD a b = some (decide (a = b)) := by
  obtain ⟨p, h1, h2, h3⟩ := pl_ok 64 a ha
  obtain ⟨q, k1, k2, k3⟩ := pl_ok 64 b hb
  have e := pl_eq 64 64 a b p q ha hb h1 k1
  unfold eqD
  rw [h1, k1]
  simp only
  rw [if_pos (by simp [shp, PyData.plain_of_canLay0 _ h2, PyData.plain_of_canLay0 _ k2, h3, k3])]
  by_cases h : a = b
  · rw [e.mpr h, decide_eq_true h]
  · rw [decide_eq_false h]
    cases z : PyData.eqv p q with
    | true => exact absurd (e.mp z) h
    | false => rfl
theorem iDs_all (L : List Int) (n : Nat) : (iDs L).all (plD n) = true := by
  rw [List.all_eq_true]
  intro d hd
  obtain ⟨i, _, rfl⟩ := List.mem_map.mp hd
  cases n <;> rfl
theorem iDs_inj {a b : List Int} : iDs a = iDs b ↔ a = b := by
  constructor
  · intro h
    induction a generalizing b with
    | nil => cases b <;> simp_all [iDs]
    | cons x xs ih => cases b with
      | nil => simp [iDs] at h
      | cons y ys =>
        simp only [iDs, List.map_cons, List.cons.injEq, D.int.injEq] at h
        rw [h.1, ih h.2]
  · intro h; rw [h]
@[simp] theorem fEq_int (i j : Int) : fEq (.int i) (.int j) = some (.bl (decide (i = j))) := by
  have : Decidable (D.int i = D.int j) := if h : i = j then isTrue (by rw [h]) else isFalse (fun q => h (D.int.inj q))
  unfold fEq
  rw [eqD_pl rfl rfl]
  simp
@[simp] theorem fNe_int (i j : Int) : fNe (.int i) (.int j) = some (.bl (decide (i ≠ j))) := by
  have : Decidable (D.int i = D.int j) := if h : i = j then isTrue (by rw [h]) else isFalse (fun q => h (D.int.inj q))
  unfold fNe
  rw [eqD_pl rfl rfl]
  simp
@[simp] theorem fEq_iDs (a b : List Int) : fEq (.lst (iDs a)) (.lst (iDs b)) = some (.bl (decide (a = b))) := by
  have : Decidable (D.lst (iDs a) = D.lst (iDs b)) := if h : a = b then isTrue (by rw [h]) else isFalse (fun q => h (iDs_inj.mp (D.lst.inj q)))
  unfold fEq
  rw [eqD_pl (a := .lst (iDs a)) (b := .lst (iDs b)) (iDs_all a 63) (iDs_all b 63)]
  simp [iDs_inj]
@[simp] theorem fNe_iDs (a b : List Int) : fNe (.lst (iDs a)) (.lst (iDs b)) = some (.bl (decide (a ≠ b))) := by
  have : Decidable (D.lst (iDs a) = D.lst (iDs b)) := if h : a = b then isTrue (by rw [h]) else isFalse (fun q => h (iDs_inj.mp (D.lst.inj q)))
  unfold fNe
  rw [eqD_pl (a := .lst (iDs a)) (b := .lst (iDs b)) (iDs_all a 63) (iDs_all b 63)]
  simp [iDs_inj]
@[simp] theorem truD_bl (b : Bool) : truD (.bl b) = some b := (rfl)
@[simp] theorem truD_lst (ds : List D) : truD (.lst ds) = some !ds.isEmpty := (rfl)
@[simp] theorem truD_int (i : Int) : truD (.int i) = some (i != 0) := (rfl)
@[simp] theorem truD_non : truD .non = some false := (rfl)
@[simp] theorem iDs_emp (L : List Int) : (iDs L).isEmpty = L.isEmpty := by cases L <;> rfl
@[simp] theorem isi_int_int (i : Int) : isiD [.int i, .ty "int"] = some (.bl true) := (rfl)
theorem kit_ib : kitB "int" "bool" = some false := by decide +kernel
@[simp] theorem isi_int_bool (i : Int) : isiD [.int i, .ty "bool"] = some (.bl false) := by unfold isiD tyName; simp only [kit_ib]; rfl
@[simp] theorem isi_lst_lst (i : List D) : isiD [.lst i, .ty "list"] = some (.bl true) := (rfl)
@[simp] theorem ev_bl (a : M RV) (k : Bool → M RV) (e : Env) : dBl a k e = (a e).bind fun r e => match (view e r).bind blOf with
  | some b => k b e
  | none => .st := (rfl)
@[simp] theorem ev_andV (a b : M RV) (e : Env) : dAndV a b e = (a e).bind fun r e => match (view e r).bind blOf with
  | some true => b e
  | some false => .ok (.fz (.bl false)) e
  | none => .st := by
  show (a e).bind _ = _
  congr 1; funext r e; cases (view e r).bind blOf with
  | none => rfl
  | some b => cases b <;> rfl
@[simp] theorem ev_orV (a b : M RV) (e : Env) : dOrV a b e = (a e).bind fun r e => match (view e r).bind blOf with
  | some true => .ok (.fz (.bl true)) e
  | some false => b e
  | none => .st := by
  show (a e).bind _ = _
  congr 1; funext r e; cases (view e r).bind blOf with
  | none => rfl
  | some b => cases b <;> rfl
@[simp] theorem ev_notV (a : M RV) (e : Env) : dNotV a e = (a e).bind fun r e => match (view e r).bind blOf with
  | some b => .ok (.fz (.bl (!b))) e
  | none => .st := (rfl)
@[simp] theorem ev_ifE (c : M Bool) (a b : M RV) (e : Env) : dIfE c a b e = (c e).bind fun k e => match k with
  | true => a e
  | false => b e := by unfold dIfE M.bind; cases c e <;> (try rfl); rename_i c e; cases c <;> rfl
@[simp] theorem sumD_iDs (L : List Int) : sumD [.lst (iDs L)] = some (.int L.sum) := by unfold sumD; show (intsOf (iDs L)).map _ = _; simp
@[simp] theorem kidI_mk (l : List (Option SV)) (p : List Nat) (j : Nat) (k : Int) : kidI ⟨l, p⟩ j k = (match l[j]? with
  | some (some (.ol xs)) => (match kid xs k with
    | some (.int x) => some x
    | _ => none)
  | _ => none) := (rfl)
@[simp] theorem ev_augIx (j : Nat) (b : M RV) (f : Int → Int → Int) (a : M RV) (e0 : Env) : dAugIx j b f a e0 = (match e0.sl[j]? with
  | some (some (.ol _)) => (b e0).bind fun q e => match view e q with
    | some (.int k) => if 0 ≤ k then (match kidI e j k with
      | some x => (a e).bind fun r e1 => (match view e1 r with
        | some (.int y) => (match e1.sl[j]? with
          | some (some (.ol xs)) => (match ixN xs.length k with
            | some n => .ok .nx (e1.setS j (.ol (xs.set n (.fz (.int (f x y))))))
            | none => .st)
          | _ => .st)
        | _ => .st)
      | _ => .st) else .st
    | _ => .st
  | _ => .st) := (rfl)
def φ__law_draw : Fn := mkFn0 [true, false] 3 d__law_draw
@[simp] theorem draw_φ (ds : List Int) (at_ : Nat) (many : Int) (hm : 0 < many) : φ__law_draw [box ds at_, .fz (.int many)] = .ok (.fz (.int (drawV ds at_ many))) [box ds (at_ + 1), .fz (.int many)] := draw_ok ds at_ many hm
@[simp] theorem box_fold (ds : List Int) : SV.ol (fzs [.lst (iDs ds), .int 0]) = box ds 0 := (rfl)
@[simp] theorem varR_box (i : Nat) (e : Env) (ds : List Int) (k : Nat) : varR i e (some (some (box ds k))) = .ok (.var i) e := (rfl)
def d__law_is_int : M Fl := (dRet (dAndV (dCB isiD (dCons (dVar 0) (dCons (dC (.ty "int")) dNil))) (dNotV (dCB isiD (dCons (dVar 0) (dCons (dC (.ty "bool")) dNil))))))
def φ__law_is_int : Fn := mkFn0 [false] 1 d__law_is_int
@[simp] theorem isint_φ (i : Int) : φ__law_is_int [.fz (.int i)] = .ok (.fz (.bl true)) [.fz (.int i)] := by
  simp [φ__law_is_int, mkFn0, mkFn, okArgs, env0, pinIx, d__law_is_int, List.replicate]
end VF
set_option maxRecDepth 100000
set_option maxHeartbeats 4000000
namespace VF
set_option autoImplicit false
open PySem L2
inductive Res (α : Type) where
  | st | ok (a : α) | ex (x : Exc)
namespace Res
def bind {α β : Type} (p : Res α) (q : α → Res β) : Res β := match p with
  | .st => .st
  | .ok a => q a
  | .ex x => .ex x
@[simp] theorem bind_ok {α β : Type} (a : α) (q : α → Res β) : (Res.ok a).bind q = q a := (rfl)
@[simp] theorem bind_st {α β : Type} (q : α → Res β) : (Res.st : Res α).bind q = .st := (rfl)
@[simp] theorem bind_ex {α β : Type} (x : Exc) (q : α → Res β) : (Res.ex x : Res α).bind q = .ex x := (rfl)
@[simp] theorem bind_assoc {α β γ : Type} (p : Res α) (q : α → Res β) (r : β → Res γ) : (p.bind q).bind r = p.bind fun a => (q a).bind r := by cases p <;> rfl
end Res
class Enc (α : Type) where
  enc : α → D
open Enc (enc)
structure T3 (α β γ : Type) where
  a : α
  b : β
  c : γ
  deriving DecidableEq, Inhabited
structure T4 (α β γ δ : Type) where
  a : α
  b : β
  c : γ
  d : δ
  deriving DecidableEq, Inhabited
structure T5 (α β γ δ ε : Type) where
  a : α
  b : β
  c : γ
  d : δ
  e : ε
  deriving DecidableEq, Inhabited
structure Tup (α : Type) where
  l : List α
  deriving DecidableEq, Inhabited
section
variable {α β γ δ ε : Type}
instance : Enc Int := ⟨.int⟩
instance : Enc Bool := ⟨.bl⟩
instance : Enc Str := ⟨.str⟩
instance : Enc Unit := ⟨fun _ => .non⟩
instance [Enc α] : Enc (List α) := ⟨fun xs => .lst (xs.map enc)⟩
instance [Enc α] : Enc (Tup α) := ⟨fun xs => .tup (xs.l.map enc)⟩
instance [Enc α] [Enc β] : Enc (α × β) := ⟨fun p => .tup [enc p.1, enc p.2]⟩
instance [Enc α] [Enc β] [Enc γ] : Enc (T3 α β γ) := ⟨fun p => .tup [enc p.a, enc p.b, enc p.c]⟩
instance [Enc α] [Enc β] [Enc γ] [Enc δ] : Enc (T4 α β γ δ) := ⟨fun p => .tup [enc p.a, enc p.b, enc p.c, enc p.d]⟩
instance [Enc α] [Enc β] [Enc γ] [Enc δ] [Enc ε] : Enc (T5 α β γ δ ε) := ⟨fun p => .tup [enc p.a, enc p.b, enc p.c, enc p.d, enc p.e]⟩
def encO [Enc α] : Option α → D
  | none => .non
  | some a => enc a
instance [Enc α] : Enc (Option α) := ⟨encO⟩
abbrev encs [Enc α] (xs : List α) : List D := xs.map enc
end
class EqE (α : Type) [Enc α] where
  dep : Nat
  lay : ∀ a : α, ∃ p, toP (enc a) = some p ∧ p.plain = true ∧ p.depth ≤ dep
  eqv : ∀ (a b : α) p q, toP (enc a) = some p → toP (enc b) = some q → (PyData.eqv p q = true ↔ a = b)
class LayE (α : Type) [Enc α] : Prop where
  can : ∀ (a : α) p, toP (enc a) = some p → p.canLay0 = true
class NoN (α : Type) [Enc α] where
  nn : ∀ a : α, toP (enc a) ≠ some .none
section
variable {α β γ δ ε : Type}
instance : EqE Int where
  dep := 0
  lay := fun a => ⟨.int a, rfl, rfl, Nat.le_refl _⟩
  eqv := fun a b p q h1 h2 => by cases h1; cases h2; simp [PyData.eqv]
instance : EqE Bool where
  dep := 0
  lay := fun a => ⟨.bool a, rfl, rfl, Nat.le_refl _⟩
  eqv := fun a b p q h1 h2 => by cases h1; cases h2; simp [PyData.eqv]
instance : EqE Str where
  dep := 0
  lay := fun a => ⟨.str a, rfl, rfl, Nat.le_refl _⟩
  eqv := fun a b p q h1 h2 => by cases h1; cases h2; simp [PyData.eqv]
instance : LayE Int := ⟨fun a p h => by cases h; rfl⟩
instance : LayE Bool := ⟨fun a p h => by cases h; rfl⟩
theorem toPs_can [Enc α] [LayE α] : ∀ (xs : List α) ps, toPs (xs.map enc) = some ps → PyData.canLayAll0 ps = true
  | [], ps, h => by cases h; rfl
  | x :: xs, ps, h => by
    have h' : (match toP (enc x), toPs (xs.map enc) with | some p, some ps => some (p :: ps) | _, _ => none) = some ps := h
    cases z1 : toP (enc x) with
    | none => rw [z1] at h'; cases h'
    | some p => cases z2 : toPs (xs.map enc) with
      | none => rw [z1, z2] at h'; cases h'
      | some ps2 => rw [z1, z2] at h'; cases h'; simp only [PyData.canLayAll0, LayE.can x p z1, toPs_can xs ps2 z2, Bool.and_self]
instance [Enc α] [LayE α] : LayE (List α) := ⟨fun a p h => by
  have h' : (toPs (a.map enc)).map PyData.list = some p := h
  cases z : toPs (a.map enc) with
  | none => rw [z] at h'; cases h'
  | some ps => rw [z] at h'; cases h'; simp only [PyData.canLay0, toPs_can a ps z]⟩
instance : NoN Str := ⟨fun a h => by cases h⟩
instance : NoN Int := ⟨fun a h => by cases h⟩
instance : NoN Bool := ⟨fun a h => by cases h⟩
theorem toPs_lay [Enc α] [EqE α] : ∀ xs : List α, ∃ ps, toPs (xs.map enc) = some ps ∧ PyData.plainAll ps = true ∧ PyData.depthAll ps ≤ EqE.dep α
  | [] => ⟨[], rfl, rfl, by simp [PyData.depthAll]⟩
  | x :: xs => by
    obtain ⟨p, h1, h2, h3⟩ := EqE.lay x
    obtain ⟨ps, k1, k2, k3⟩ := toPs_lay xs
    refine ⟨p :: ps, ?_, by simp [PyData.plainAll, h2, k2], ?_⟩
    · show toPs (enc x :: xs.map enc) = _
      unfold toPs; rw [h1, k1]
    · simp only [PyData.depthAll]; omega
theorem toPs_eqv [Enc α] [EqE α] : ∀ (xs ys : List α) ps qs, toPs (xs.map enc) = some ps → toPs (ys.map enc) = some qs → (PyData.eqvAll ps qs = true ↔ xs = ys)
  | [], [], ps, qs, h1, h2 => by cases h1; cases h2; simp [PyData.eqvAll]
  | [], y :: ys, ps, qs, h1, h2 => by
    cases h1
    obtain ⟨q, l1, _⟩ := EqE.lay y
    obtain ⟨qs', l2, _⟩ := toPs_lay ys
    have : toPs ((y :: ys).map enc) = some (q :: qs') := by show toPs (enc y :: ys.map enc) = _; unfold toPs; rw [l1, l2]
    rw [this] at h2; cases h2; simp [PyData.eqvAll]
  | x :: xs, [], ps, qs, h1, h2 => by
    cases h2
    obtain ⟨q, l1, _⟩ := EqE.lay x
    obtain ⟨qs', l2, _⟩ := toPs_lay xs
    have : toPs ((x :: xs).map enc) = some (q :: qs') := by show toPs (enc x :: xs.map enc) = _; unfold toPs; rw [l1, l2]
    rw [this] at h1; cases h1; simp [PyData.eqvAll]
  | x :: xs, y :: ys, ps, qs, h1, h2 => by
    obtain ⟨p, l1, _⟩ := EqE.lay x
    obtain ⟨ps', l2, _⟩ := toPs_lay xs
    obtain ⟨q, m1, _⟩ := EqE.lay y
    obtain ⟨qs', m2, _⟩ := toPs_lay ys
    have a1 : toPs ((x :: xs).map enc) = some (p :: ps') := by show toPs (enc x :: xs.map enc) = _; unfold toPs; rw [l1, l2]
    have a2 : toPs ((y :: ys).map enc) = some (q :: qs') := by show toPs (enc y :: ys.map enc) = _; unfold toPs; rw [m1, m2]
    rw [a1] at h1; rw [a2] at h2
    cases h1; cases h2
    simp only [PyData.eqvAll, Bool.and_eq_true, EqE.eqv x y p q l1 m1, toPs_eqv xs ys ps' qs' l2 m2, List.cons.injEq]
instance [Enc α] [EqE α] : EqE (List α) where
  dep := EqE.dep α + 1
  lay := fun xs => by
    obtain ⟨ps, k1, k2, k3⟩ := toPs_lay xs
    exact ⟨.list ps, by show (toPs (xs.map enc)).map _ = _; rw [k1]; rfl, by simpa [PyData.plain] using k2, by simp only [PyData.depth]; omega⟩
  eqv := fun xs ys p q h1 h2 => by
    obtain ⟨ps, k1, _⟩ := toPs_lay xs
    obtain ⟨qs, l1, _⟩ := toPs_lay ys
    have e1 : toP (enc xs) = some (.list ps) := by show (toPs (xs.map enc)).map _ = _; rw [k1]; rfl
    have e2 : toP (enc ys) = some (.list qs) := by show (toPs (ys.map enc)).map _ = _; rw [l1]; rfl
    rw [e1] at h1; rw [e2] at h2; cases h1; cases h2
    simp only [PyData.eqv]
    exact toPs_eqv xs ys ps qs k1 l1
instance [Enc α] : NoN (List α) := ⟨fun a h => by
  have h' : (toPs (a.map enc)).map PyData.list = some .none := h
  cases z : toPs (a.map enc) <;> rw [z] at h' <;> cases h'⟩
instance [Enc α] [EqE α] : EqE (Tup α) where
  dep := EqE.dep α + 1
  lay := fun xs => by
    obtain ⟨ps, k1, k2, k3⟩ := toPs_lay xs.l
    exact ⟨.tuple ps, by show (toPs (xs.l.map enc)).map _ = _; rw [k1]; rfl, by simpa [PyData.plain] using k2, by simp only [PyData.depth]; omega⟩
  eqv := fun xs ys p q h1 h2 => by
    obtain ⟨ps, k1, _⟩ := toPs_lay xs.l
    obtain ⟨qs, l1, _⟩ := toPs_lay ys.l
    have e1 : toP (enc xs) = some (.tuple ps) := by show (toPs (xs.l.map enc)).map _ = _; rw [k1]; rfl
    have e2 : toP (enc ys) = some (.tuple qs) := by show (toPs (ys.l.map enc)).map _ = _; rw [l1]; rfl
    rw [e1] at h1; rw [e2] at h2; cases h1; cases h2
    simp only [PyData.eqv]
    rw [toPs_eqv xs.l ys.l ps qs k1 l1]
    cases xs; cases ys; simp
theorem toP_tup2 {ds : List D} {ps : List PyData} (h : toPs ds = some ps) : toP (.tup ds) = some (.tuple ps) := by show (toPs ds).map _ = _; rw [h]; rfl
instance [Enc α] [EqE α] [Enc β] [EqE β] : EqE (α × β) where
  dep := max (EqE.dep α) (EqE.dep β) + 1
  lay := fun x => by
    obtain ⟨p, h1, h2, h3⟩ := EqE.lay x.1
    obtain ⟨q, k1, k2, k3⟩ := EqE.lay x.2
    refine ⟨.tuple [p, q], toP_tup2 (by simp [toPs, h1, k1]), by simp [PyData.plain, PyData.plainAll, h2, k2], ?_⟩
    simp only [PyData.depth, PyData.depthAll]; omega
  eqv := fun x y p q h1 h2 => by
    obtain ⟨p1, a1, _⟩ := EqE.lay x.1
    obtain ⟨p2, a2, _⟩ := EqE.lay x.2
    obtain ⟨q1, b1, _⟩ := EqE.lay y.1
    obtain ⟨q2, b2, _⟩ := EqE.lay y.2
    have e1 : toP (enc x) = some (.tuple [p1, p2]) := toP_tup2 (by simp [toPs, a1, a2])
    have e2 : toP (enc y) = some (.tuple [q1, q2]) := toP_tup2 (by simp [toPs, b1, b2])
    rw [e1] at h1; rw [e2] at h2; cases h1; cases h2
    simp only [PyData.eqv, PyData.eqvAll, Bool.and_true, Bool.and_eq_true, EqE.eqv _ _ _ _ a1 b1, EqE.eqv _ _ _ _ a2 b2]
    exact ⟨fun h => Prod.ext h.1 h.2, fun h => by rw [h]; exact ⟨rfl, rfl⟩⟩
instance [Enc α] [Enc β] : NoN (α × β) := ⟨fun a h => by
  have h' : (toPs [enc a.1, enc a.2]).map PyData.tuple = some .none := h
  cases z : toPs [enc a.1, enc a.2] <;> rw [z] at h' <;> cases h'⟩
instance [Enc α] : NoN (Tup α) := ⟨fun a h => by
  have h' : (toPs (a.l.map enc)).map PyData.tuple = some .none := h
  cases z : toPs (a.l.map enc) <;> rw [z] at h' <;> cases h'⟩
instance [Enc α] [EqE α] [Enc β] [EqE β] [Enc γ] [EqE γ] : EqE (T3 α β γ) where
  dep := max (EqE.dep α) (max (EqE.dep β) (EqE.dep γ)) + 1
  lay := fun x => by
    obtain ⟨p, h1, h2, h3⟩ := EqE.lay x.a
    obtain ⟨q, k1, k2, k3⟩ := EqE.lay x.b
    obtain ⟨r, l1, l2, l3⟩ := EqE.lay x.c
    refine ⟨.tuple [p, q, r], toP_tup2 (by simp [toPs, h1, k1, l1]), by simp [PyData.plain, PyData.plainAll, h2, k2, l2], ?_⟩
    simp only [PyData.depth, PyData.depthAll]; omega
  eqv := fun x y p q h1 h2 => by
    obtain ⟨p1, a1, _⟩ := EqE.lay x.a
    obtain ⟨p2, a2, _⟩ := EqE.lay x.b
    obtain ⟨p3, a3, _⟩ := EqE.lay x.c
    obtain ⟨q1, b1, _⟩ := EqE.lay y.a
    obtain ⟨q2, b2, _⟩ := EqE.lay y.b
    obtain ⟨q3, b3, _⟩ := EqE.lay y.c
    have e1 : toP (enc x) = some (.tuple [p1, p2, p3]) := toP_tup2 (by simp [toPs, a1, a2, a3])
    have e2 : toP (enc y) = some (.tuple [q1, q2, q3]) := toP_tup2 (by simp [toPs, b1, b2, b3])
    rw [e1] at h1; rw [e2] at h2; cases h1; cases h2
    simp only [PyData.eqv, PyData.eqvAll, Bool.and_true, Bool.and_eq_true, EqE.eqv _ _ _ _ a1 b1, EqE.eqv _ _ _ _ a2 b2, EqE.eqv _ _ _ _ a3 b3]
    cases x; cases y; simp
instance [Enc α] [Enc β] [Enc γ] : NoN (T3 α β γ) := ⟨fun a h => by
  have h' : (toPs [enc a.a, enc a.b, enc a.c]).map PyData.tuple = some .none := h
  cases z : toPs [enc a.a, enc a.b, enc a.c] <;> rw [z] at h' <;> cases h'⟩
instance [Enc α] [EqE α] [Enc β] [EqE β] [Enc γ] [EqE γ] [Enc δ] [EqE δ] : EqE (T4 α β γ δ) where
  dep := max (max (EqE.dep α) (EqE.dep δ)) (max (EqE.dep β) (EqE.dep γ)) + 1
  lay := fun x => by
    obtain ⟨p, h1, h2, h3⟩ := EqE.lay x.a
    obtain ⟨q, k1, k2, k3⟩ := EqE.lay x.b
    obtain ⟨r, l1, l2, l3⟩ := EqE.lay x.c
    obtain ⟨s, m1, m2, m3⟩ := EqE.lay x.d
    refine ⟨.tuple [p, q, r, s], toP_tup2 (by simp [toPs, h1, k1, l1, m1]), by simp [PyData.plain, PyData.plainAll, h2, k2, l2, m2], ?_⟩
    simp only [PyData.depth, PyData.depthAll]; omega
  eqv := fun x y p q h1 h2 => by
    obtain ⟨p1, a1, _⟩ := EqE.lay x.a
    obtain ⟨p2, a2, _⟩ := EqE.lay x.b
    obtain ⟨p3, a3, _⟩ := EqE.lay x.c
    obtain ⟨p4, a4, _⟩ := EqE.lay x.d
    obtain ⟨q1, b1, _⟩ := EqE.lay y.a
    obtain ⟨q2, b2, _⟩ := EqE.lay y.b
    obtain ⟨q3, b3, _⟩ := EqE.lay y.c
    obtain ⟨q4, b4, _⟩ := EqE.lay y.d
    have e1 : toP (enc x) = some (.tuple [p1, p2, p3, p4]) := toP_tup2 (by simp [toPs, a1, a2, a3, a4])
    have e2 : toP (enc y) = some (.tuple [q1, q2, q3, q4]) := toP_tup2 (by simp [toPs, b1, b2, b3, b4])
    rw [e1] at h1; rw [e2] at h2; cases h1; cases h2
    simp only [PyData.eqv, PyData.eqvAll, Bool.and_true, Bool.and_eq_true, EqE.eqv _ _ _ _ a1 b1, EqE.eqv _ _ _ _ a2 b2, EqE.eqv _ _ _ _ a3 b3, EqE.eqv _ _ _ _ a4 b4]
    cases x; cases y; simp
theorem toP_some [Enc α] (a : α) : toP (enc (some a)) = toP (enc a) := (rfl)
theorem eqv_non_l : ∀ q : PyData, PyData.eqv .none q = true ↔ q = .none := by intro q; cases q <;> simp [PyData.eqv]
theorem eqv_non_r : ∀ q : PyData, PyData.eqv q .none = true ↔ q = .none := by intro q; cases q <;> simp [PyData.eqv]
instance [Enc α] [EqE α] [NoN α] : EqE (Option α) where
  dep := EqE.dep α
  lay := fun x => match x with
    | none => ⟨.none, rfl, rfl, Nat.zero_le _⟩
    | some a => EqE.lay a
  eqv := fun x y p q h1 h2 => by
    cases x with
    | none =>
      cases h1
      rw [eqv_non_l]
      cases y with
      | none => cases h2; simp
      | some b =>
        have := NoN.nn b
        rw [toP_some] at h2
        constructor
        · intro e; subst e; exact absurd h2 this
        · intro e; cases e
    | some a =>
      cases y with
      | none =>
        cases h2
        rw [eqv_non_r]
        have := NoN.nn a
        rw [toP_some] at h1
        constructor
        · intro e; subst e; exact absurd h1 this
        · intro e; cases e
      | some b =>
        rw [toP_some] at h1 h2
        rw [EqE.eqv a b p q h1 h2]
        simp
theorem shaped_enc [Enc α] [EqE α] (a : α) (hd : EqE.dep α ≤ 64) : ∃ p, toP (enc a) = some p ∧ shp p = true := by
  obtain ⟨p, h1, h2, h3⟩ := EqE.lay a
  exact ⟨p, h1, by simp [shp, h2]; omega⟩
theorem eqD_enc [Enc α] [EqE α] [DecidableEq α] (a b : α) (hd : EqE.dep α ≤ 64) : eqD (enc a) (enc b) = some (decide (a = b)) := by
  obtain ⟨p, h1, h2⟩ := shaped_enc a hd
  obtain ⟨q, k1, k2⟩ := shaped_enc b hd
  have e := EqE.eqv a b p q h1 k1
  unfold eqD
  rw [h1, k1]
  simp only
  rw [if_pos (by simp [h2, k2])]
  by_cases h : a = b
  · rw [e.mpr h, decide_eq_true h]
  · rw [decide_eq_false h]
    cases z : PyData.eqv p q with
    | true => exact absurd (e.mp z) h
    | false => rfl
theorem fEq_enc [Enc α] [EqE α] [DecidableEq α] (a b : α) (hd : EqE.dep α ≤ 64) : fEq (enc a) (enc b) = some (.bl (decide (a = b))) := by
  unfold fEq; rw [eqD_enc a b hd]; rfl
theorem fNe_enc [Enc α] [EqE α] [DecidableEq α] (a b : α) (hd : EqE.dep α ≤ 64) : fNe (enc a) (enc b) = some (.bl (decide (a ≠ b))) := by
  unfold fNe; rw [eqD_enc a b hd]; simp
theorem eqF_eqv : ∀ {a b : D} {p q : PyData}, flatD a = true → flatD b = true → toP a = some p → toP b = some q → eqF a b = PyData.eqv p q := by
  intro a b p q ha hb h1 h2
  cases a <;> cases ha <;> cases b <;> cases hb <;> cases h1 <;> cases h2 <;> rfl
theorem any_mem [Enc α] [EqE α] [DecidableEq α] (a : α) (p : PyData) (ha : toP (enc a) = some p) : ∀ (xs : List α) (ps : List PyData), toPs (xs.map enc) = some ps → (ps.any fun z => PyData.eqv z p) = decide (a ∈ xs)
  | [], ps, h => by cases h; simp
  | x :: xs, ps, h => by
    obtain ⟨q, l1, _⟩ := EqE.lay x
    obtain ⟨qs, l2, _⟩ := toPs_lay xs
    have e : toPs ((x :: xs).map enc) = some (q :: qs) := by show toPs (enc x :: xs.map enc) = _; unfold toPs; rw [l1, l2]
    rw [e] at h; cases h
    rw [List.any_cons, any_mem a p ha xs qs l2]
    have e2 := EqE.eqv x a q p l1 ha
    by_cases hx : a = x
    · subst hx; rw [e2.mpr rfl]; simp
    · have : PyData.eqv q p = false := by
        cases z : PyData.eqv q p with
        | true => exact absurd (e2.mp z).symm hx
        | false => rfl
      rw [this]; simp [hx]
theorem inD_enc [Enc α] [EqE α] [DecidableEq α] (a : α) (xs : List α) (hd : EqE.dep α ≤ 63) : inD (enc a) (.lst (xs.map enc)) = some (decide (a ∈ xs)) := by
  obtain ⟨p, h1, h2⟩ := shaped_enc a (by omega)
  obtain ⟨ps, k1, k2, k3⟩ := toPs_lay xs
  unfold inD
  dsimp only
  by_cases hf : (flatD (enc a) && (xs.map enc).all flatD) = true
  · rw [if_pos hf]
    rw [Bool.and_eq_true] at hf
    congr 1
    rw [← any_mem a p h1 xs ps k1]
    have : ∀ (ds : List D) (ps : List PyData), ds.all flatD = true → toPs ds = some ps → (ds.any fun y => eqF y (enc a)) = ps.any fun z => PyData.eqv z p := by
      intro ds
      induction ds with
      | nil => intro ps _ h; cases h; rfl
      | cons d ds ih =>
        intro ps hall h
        rw [List.all_cons, Bool.and_eq_true] at hall
        unfold toPs at h
        cases z1 : toP d with
        | none => rw [z1] at h; cases h
        | some r =>
          cases z2 : toPs ds with
          | none => rw [z1, z2] at h; cases h
          | some rs =>
            rw [z1, z2] at h; cases h
            rw [List.any_cons, List.any_cons, ih rs hall.2 z2, eqF_eqv hall.1 hf.1 z1 h1]
    exact this _ _ hf.2 k1
  · rw [if_neg hf, h1, k1]
    simp only
    rw [if_pos (by
      rw [Bool.and_eq_true]
      refine ⟨h2, ?_⟩
      simp [shp, PyData.plain, PyData.depth, k2]; omega), any_mem a p h1 xs ps k1]
theorem fIn_enc [Enc α] [EqE α] [DecidableEq α] (a : α) (xs : List α) (hd : EqE.dep α ≤ 63) : fIn (enc a) (.lst (xs.map enc)) = some (.bl (decide (a ∈ xs))) := by
  unfold fIn; rw [inD_enc a xs hd]; rfl
end
end VF
set_option maxRecDepth 100000
set_option maxHeartbeats 4000000
namespace VF
set_option autoImplicit false
open PySem L2
open Enc (enc)
inductive SD where
  | fz (d : D) | ol (ds : List D) | clr | val (d : D) | cf | any | x (s : SV)
def SD.ok : SD → Option SV → Prop
  | .fz d, o => o = some (.fz d)
  | .ol ds, o => o = some (.ol (fzs ds))
  | .clr, o => o = none
  | .val d, o => o = some (.fz d) ∨ ∃ ds, d = .lst ds ∧ o = some (.ol (fzs ds))
  | .cf, o => o = none ∨ ∃ d, o = some (.fz d)
  | .any, _ => True
  | .x s, o => o = some s
def F2 : List SD → List (Option SV) → Prop
  | [], [] => True
  | s :: S, o :: l => s.ok o ∧ F2 S l
  | _, _ => False
theorem F2.get : ∀ {S : List SD} {l : List (Option SV)} {i : Nat} {s : SD}, F2 S l → S[i]? = some s → ∃ o, l[i]? = some o ∧ s.ok o
  | s :: S, o :: l, 0, s', h, e => by cases e; exact ⟨o, rfl, h.1⟩
  | s :: S, o :: l, i + 1, s', h, e => by
    obtain ⟨o', h1, h2⟩ := F2.get (i := i) h.2 (by simpa using e)
    exact ⟨o', by simpa using h1, h2⟩
  | [], _, _, _, _, e => by simp at e
  | _ :: _, [], _, _, h, _ => h.elim
theorem F2.set : ∀ {S : List SD} {l : List (Option SV)} {s : SD} {o : Option SV} (i : Nat), F2 S l → s.ok o → F2 (S.set i s) (l.set i o)
  | s' :: S, o' :: l, s, o, 0, h, k => ⟨k, h.2⟩
  | s' :: S, o' :: l, s, o, i + 1, h, k => ⟨h.1, F2.set i h.2 k⟩
  | [], [], _, _, _, _, _ => trivial
  | [], _ :: _, _, _, _, h, _ => h.elim
  | _ :: _, [], _, _, _, h, _ => h.elim
structure Has (pn : List Nat) (S : List SD) (e : Env) : Prop where
  pn : e.pn = pn
  sl : F2 S e.sl
inductive W : List SD → List SD → Prop
  | nil : W [] []
  | rf {s : SD} {S S' : List SD} : W S S' → W (s :: S) (s :: S')
  | an {s : SD} {S S' : List SD} : W S S' → W (s :: S) (.any :: S')
  | cc {S S' : List SD} : W S S' → W (.clr :: S) (.cf :: S')
  | cz {d : D} {S S' : List SD} : W S S' → W (.fz d :: S) (.cf :: S')
  | vz {d : D} {S S' : List SD} : W S S' → W (.fz d :: S) (.val d :: S')
  | vo {ds : List D} {S S' : List SD} : W S S' → W (.ol ds :: S) (.val (.lst ds) :: S')
theorem W.refl : ∀ S : List SD, W S S
  | [] => .nil
  | _ :: S => .rf (W.refl S)
theorem F2.weak {S S' : List SD} (w : W S S') : ∀ {l : List (Option SV)}, F2 S l → F2 S' l := by
  induction w with
  | nil => intro l h; exact h
  | rf w ih => intro l h; cases l with
    | nil => exact h.elim
    | cons o l => exact ⟨h.1, ih h.2⟩
  | an w ih => intro l h; cases l with
    | nil => exact h.elim
    | cons o l => exact ⟨trivial, ih h.2⟩
  | cc w ih => intro l h; cases l with
    | nil => exact h.elim
    | cons o l => exact ⟨.inl h.1, ih h.2⟩
  | cz w ih => intro l h; cases l with
    | nil => exact h.elim
    | cons o l => exact ⟨.inr ⟨_, h.1⟩, ih h.2⟩
  | vz w ih => intro l h; cases l with
    | nil => exact h.elim
    | cons o l => exact ⟨.inl h.1, ih h.2⟩
  | vo w ih => intro l h; cases l with
    | nil => exact h.elim
    | cons o l => exact ⟨.inr ⟨_, rfl, h.1⟩, ih h.2⟩
theorem Has.weak {pn : List Nat} {S S' : List SD} {e : Env} (h : Has pn S e) (w : W S S') : Has pn S' e := ⟨h.pn, h.sl.weak w⟩
theorem Has.setS {pn : List Nat} {S : List SD} {e : Env} {s : SD} {v : SV} (h : Has pn S e) (i : Nat) (k : s.ok (some v)) : Has pn (S.set i s) (e.setS i v) := ⟨h.pn, h.sl.set i k⟩
theorem Has.clr {pn : List Nat} {S : List SD} {e : Env} (h : Has pn S e) (i : Nat) : Has pn (S.set i .clr) (e.clr i) := ⟨h.pn, h.sl.set i rfl⟩
inductive Opd where
  | f (d : D) | w (ds : List D) | y (d : D) | v (i : Nat) | u (i : Nat) (d : D) | o (s : SV)
def ROk : RV → Opd → Prop
  | r, .f d => r = .fz d
  | r, .w ds => r = .own (.ol (fzs ds))
  | r, .y d => r = .fz d ∨ ∃ ds, d = .lst ds ∧ r = .own (.ol (fzs ds))
  | r, .v i => r = .var i
  | r, .u i d => r = .fz d ∨ r = .var i
  | r, .o s => r = .own s
inductive Dt (S : List SD) : Opd → D → Prop
  | f {d : D} : Dt S (.f d) d
  | w {ds : List D} : Dt S (.w ds) (.lst ds)
  | y {d : D} : Dt S (.y d) d
  | v {i : Nat} {ds : List D} : S[i]? = some (.ol ds) → Dt S (.v i) (.lst ds)
  | vz {i : Nat} {d : D} : S[i]? = some (.fz d) → Dt S (.v i) d
  | u {i : Nat} {d : D} : S[i]? = some (.val d) → Dt S (.u i d) d
  | o {c : Str} {ns : List Str} {xs : List SV} {d : D} : SV.toD (.oo c ns xs) = d → Dt S (.o (.oo c ns xs)) d
  | x {i : Nat} {c : Str} {ns : List Str} {xs : List SV} {d : D} : S[i]? = some (.x (.oo c ns xs)) → SV.toD (.oo c ns xs) = d → Dt S (.v i) d
section
variable {pn : List Nat} {S S' S1 S2 : List SD} {e : Env} {r : RV} {o : Opd} {d : D}
theorem Has.slot (h : Has pn S e) {i : Nat} {s : SD} (q : S[i]? = some s) : ∃ o, e.sl[i]? = some o ∧ s.ok o := h.sl.get q
theorem view_of {i : Nat} {s : SV} (h : e.sl[i]? = some (some s)) : VF.view e (.var i) = some s.toD := by unfold VF.view; simp only [h]
theorem frz_of {i : Nat} {s : SV} (h : e.sl[i]? = some (some s)) : VF.frzR (.var i) e = some (s.toD, e.setS i (.fz s.toD)) := by unfold VF.frzR; simp only [h]
theorem Dt.view (h : Has pn S e) (k : ROk r o) (q : Dt S o d) : view e r = some d := by
  cases q with
  | f => cases k; rfl
  | w => cases k; show some (SV.toD _) = _; rw [toD_ol]
  | y => rcases k with rfl | ⟨ds, rfl, rfl⟩
         · rfl
         · show some (SV.toD _) = _; rw [toD_ol]
  | v q =>
    cases k
    obtain ⟨o, h1, h2⟩ := h.slot q
    cases h2
    rw [view_of h1, toD_ol]
  | vz q =>
    cases k
    obtain ⟨o, h1, h2⟩ := h.slot q
    cases h2
    rw [view_of h1]; rfl
  | u q =>
    rcases k with rfl | rfl
    · rfl
    · obtain ⟨o, h1, h2⟩ := h.slot q
      rcases h2 with rfl | ⟨ds, rfl, rfl⟩
      · rw [view_of h1]; rfl
      · rw [view_of h1, toD_ol]
  | o e => cases k; subst e; rfl
  | x q e =>
    cases k
    subst e
    obtain ⟨o, h1, h2⟩ := h.slot q
    cases h2
    rw [view_of h1]
inductive Fz (S : List SD) : Opd → D → List SD → Prop
  | f {d : D} : Fz S (.f d) d S
  | w {ds : List D} : Fz S (.w ds) (.lst ds) S
  | y {d : D} : Fz S (.y d) d S
  | v {i : Nat} {ds : List D} : S[i]? = some (.ol ds) → Fz S (.v i) (.lst ds) (S.set i (.fz (.lst ds)))
  | vz {i : Nat} {d : D} : S[i]? = some (.fz d) → Fz S (.v i) d (S.set i (.fz d))
  | u {i : Nat} {d : D} : S[i]? = some (.val d) → Fz S (.u i d) d S
  | o {s : SV} : Fz S (.o s) s.toD S
  | x {i : Nat} {s : SV} : S[i]? = some (.x s) → Fz S (.v i) s.toD (S.set i (.fz s.toD))
theorem F2.same : ∀ {S : List SD} {l : List (Option SV)} {s : SD} {o : Option SV} {i : Nat}, F2 S l → S[i]? = some s → s.ok o → F2 S (l.set i o)
  | s' :: S, o' :: l, s, o, 0, h, q, k => by cases q; exact ⟨k, h.2⟩
  | s' :: S, o' :: l, s, o, i + 1, h, q, k => ⟨h.1, F2.same (i := i) h.2 (by simpa using q) k⟩
  | [], [], _, _, _, _, q, _ => by simp at q
  | [], _ :: _, _, _, _, h, _, _ => h.elim
  | _ :: _, [], _, _, _, h, _, _ => h.elim
theorem Fz.frz (h : Has pn S e) (k : ROk r o) (q : Fz S o d S') : ∃ e', frzR r e = some (d, e') ∧ Has pn S' e' := by
  cases q with
  | f => cases k; exact ⟨e, rfl, h⟩
  | w => cases k; exact ⟨e, by show some (SV.toD _, e) = _; rw [toD_ol], h⟩
  | y => rcases k with rfl | ⟨ds, rfl, rfl⟩
         · exact ⟨e, rfl, h⟩
         · exact ⟨e, by show some (SV.toD _, e) = _; rw [toD_ol], h⟩
  | v q =>
    cases k
    obtain ⟨o, h1, h2⟩ := h.slot q
    cases h2
    exact ⟨_, by rw [frz_of h1, toD_ol], h.setS _ rfl⟩
  | vz q =>
    cases k
    obtain ⟨o, h1, h2⟩ := h.slot q
    cases h2
    exact ⟨_, by rw [frz_of h1]; rfl, h.setS _ rfl⟩
  | u q =>
    rcases k with rfl | rfl
    · exact ⟨e, rfl, h⟩
    · obtain ⟨o, h1, h2⟩ := h.slot q
      rcases h2 with rfl | ⟨ds, rfl, rfl⟩
      · exact ⟨e.setS _ (.fz d), by rw [frz_of h1]; rfl, ⟨h.pn, h.sl.same q (.inl rfl)⟩⟩
      · exact ⟨e.setS _ (.fz (.lst ds)), by rw [frz_of h1, toD_ol], ⟨h.pn, h.sl.same q (.inl rfl)⟩⟩
  | o => cases k; exact ⟨e, rfl, h⟩
  | x q =>
    cases k
    obtain ⟨o, h1, h2⟩ := h.slot q
    cases h2
    exact ⟨_, by rw [frz_of h1], h.setS _ rfl⟩
inductive Fzs : List SD → List Opd → List D → List SD → Prop
  | nil {S : List SD} : Fzs S [] [] S
  | cons {S S1 S2 : List SD} {o : Opd} {os : List Opd} {d : D} {ds : List D} : Fz S o d S1 → Fzs S1 os ds S2 → Fzs S (o :: os) (d :: ds) S2
def ROks : List RV → List Opd → Prop
  | [], [] => True
  | r :: rs, o :: os => ROk r o ∧ ROks rs os
  | _, _ => False
theorem Fzs.frz {os : List Opd} {ds : List D} (q : Fzs S os ds S') : ∀ {e : Env} {rs : List RV}, Has pn S e → ROks rs os → ∃ e', frzRs rs e = some (ds, e') ∧ Has pn S' e' := by
  induction q with
  | nil => intro e rs h k; cases rs with
    | nil => exact ⟨e, rfl, h⟩
    | cons _ _ => exact k.elim
  | cons q1 q2 ih => intro e rs h k; cases rs with
    | nil => exact k.elim
    | cons r rs =>
      obtain ⟨e1, h1, h2⟩ := q1.frz h k.1
      obtain ⟨e2, h3, h4⟩ := ih h2 k.2
      refine ⟨e2, ?_, h4⟩
      unfold frzRs
      simp only [h1, h3]
inductive Dts (S : List SD) : List Opd → List D → Prop
  | nil : Dts S [] []
  | cons {o : Opd} {os : List Opd} {d : D} {ds : List D} : Dt S o d → Dts S os ds → Dts S (o :: os) (d :: ds)
theorem Dts.view {os : List Opd} {ds : List D} (q : Dts S os ds) : ∀ {rs : List RV}, Has pn S e → ROks rs os → rs.mapM (VF.view e) = some ds := by
  induction q with
  | nil => intro rs h k; cases rs with
    | nil => rfl
    | cons _ _ => exact k.elim
  | cons q1 q2 ih => intro rs h k; cases rs with
    | nil => exact k.elim
    | cons r rs => simp [Dt.view h k.1 q1, ih h k.2]
inductive St (S : List SD) (i : Nat) : Opd → List SD → Prop
  | f {d : D} : St S i (.f d) (S.set i (.fz d))
  | w {ds : List D} : St S i (.w ds) (S.set i (.ol ds))
  | y {d : D} : St S i (.y d) (S.set i (.val d))
  | v {j : Nat} {ds : List D} : S[j]? = some (.ol ds) → St S i (.v j) ((S.set j (.fz (.lst ds))).set i (.fz (.lst ds)))
  | u {j : Nat} {d : D} : S[j]? = some (.val d) → St S i (.u j d) ((S.set j (.val d)).set i (.val d))
  | o {s : SV} : St S i (.o s) (S.set i (.x s))
theorem St.put {i : Nat} (h : Has pn S e) (k : ROk r o) (q : St S i o S') (hi : i ∉ pn) : ∃ e', putR i r e = some e' ∧ Has pn S' e' := by
  have hi' : i ∉ e.pn := by rw [h.pn]; exact hi
  unfold putR
  rw [if_neg hi']
  cases q with
  | f => cases k; exact ⟨_, rfl, h.setS (s := .fz _) i rfl⟩
  | w => cases k; exact ⟨_, rfl, h.setS (s := .ol _) i rfl⟩
  | o => cases k; exact ⟨_, rfl, h.setS (s := .x _) i rfl⟩
  | y => rcases k with rfl | ⟨ds, rfl, rfl⟩
         · exact ⟨_, rfl, h.setS (s := .val _) i (.inl rfl)⟩
         · exact ⟨_, rfl, h.setS (s := .val _) i (.inr ⟨_, rfl, rfl⟩)⟩
  | v q =>
    cases k
    obtain ⟨o, h1, h2⟩ := h.slot q
    cases h2
    refine ⟨_, by simp only [h1, toD_ol]; rfl, ?_⟩
    exact (h.setS (s := .fz _) _ rfl).setS (s := .fz _) _ rfl
  | u q =>
    rcases k with rfl | rfl
    · refine ⟨_, rfl, ?_⟩
      rename_i j d
      refine ⟨h.pn, F2.set i ?_ (.inl rfl)⟩
      have same : S.set j (.val d) = S := by
        obtain ⟨hl, hg⟩ := List.getElem?_eq_some_iff.mp q
        exact List.ext_getElem? fun n => by
          rw [List.getElem?_set]
          split
          · rename_i c; subst c; rw [q]
          · rfl
      rw [same]; exact h.sl
    · obtain ⟨o, h1, h2⟩ := h.slot q
      rcases h2 with rfl | ⟨ds, rfl, rfl⟩
      · exact ⟨_, by simp only [h1]; rfl, (h.setS (s := .val _) (v := .fz _) _ (.inl rfl)).setS (s := .val _) (v := .fz _) _ (.inl rfl)⟩
      · exact ⟨_, by simp only [h1, toD_ol], (h.setS (s := .val (.lst ds)) (v := .fz (.lst ds)) _ (.inl rfl)).setS (s := .val (.lst ds)) (v := .fz (.lst ds)) _ (.inl rfl)⟩
end
def SmD {α β : Type} (r : R β) (p : Res α) (G : α → β → Env → Prop) (X : Exc → Env → Prop) : Prop := match p with
  | .st => True
  | .ok a => ∃ b e, r = .ok b e ∧ G a b e
  | .ex x => ∃ e, r = .ex x e ∧ X x e
structure Sm {α β : Type} (r : R β) (p : Res α) (G : α → β → Env → Prop) (X : Exc → Env → Prop) : Prop where
  run : SmD r p G X
section
variable {α β γ δ : Type} {X : Exc → Env → Prop}
theorem Sm.bind {r : R β} {p : Res α} {G : α → β → Env → Prop} {K : β → M δ} {q : α → Res γ} {G' : γ → δ → Env → Prop} (h : Sm r p G X) (k : ∀ a b e, G a b e → Sm (K b e) (q a) G' X) : Sm (r.bind K) (p.bind q) G' X := by
  cases p with
  | st => first | trivial | exact ⟨trivial⟩
  | ok a => obtain ⟨b, e, rfl, h2⟩ := h; exact k a b e h2
  | ex x => obtain ⟨e, rfl, h2⟩ := h; exact ⟨e, rfl, h2⟩
theorem Sm.mono {r : R β} {p : Res α} {G G' : α → β → Env → Prop} {X' : Exc → Env → Prop} (h : Sm r p G X) (k : ∀ a b e, G a b e → G' a b e) (kx : ∀ x e, X x e → X' x e) : Sm r p G' X' := by
  cases p with
  | st => first | trivial | exact ⟨trivial⟩
  | ok a => obtain ⟨b, e, h1, h2⟩ := h; exact ⟨b, e, h1, k _ _ _ h2⟩
  | ex x => obtain ⟨e, h1, h2⟩ := h; exact ⟨e, h1, kx _ _ h2⟩
def okK {β : Type} : β → M β := fun b e => .ok b e
theorem bind_okK (r : R β) : r.bind okK = r := by cases r <;> rfl
theorem Sm.top {r : R β} {p : Res α} {G : α → β → Env → Prop} (h : Sm (r.bind okK) p G X) : Sm r p G X := by rwa [bind_okK] at h
theorem rbind_assoc {a b c : Type} (r : R a) (f : a → M b) (g : b → M c) : (r.bind f).bind g = r.bind fun x e => (f x e).bind g := by cases r <;> rfl
end
def PJ (pn : List Nat) (S : List SD) (m : M RV) (o : Opd) : Prop := ∀ e, Has pn S e → ∃ r, m e = .ok r e ∧ ROk r o
def PB (pn : List Nat) (S : List SD) (m : M Bool) (c : Bool) : Prop := ∀ e, Has pn S e → m e = .ok c e
def PA (pn : List Nat) (S : List SD) (m : M (List RV)) (os : List Opd) : Prop := ∀ e, Has pn S e → ∃ rs, m e = .ok rs e ∧ ROks rs os
section
variable {pn : List Nat} {S : List SD} {a b c : M RV} {oa ob oc : Opd} {ma : M (List RV)} {os : List Opd}
theorem p_fz {i : Nat} {d : D} (q : S[i]? = some (.fz d)) : PJ pn S (dVar i) (.f d) := fun e h => by
  obtain ⟨o, h1, h2⟩ := h.slot q
  cases h2
  exact ⟨.fz d, by unfold dVar; rw [h1], rfl⟩
theorem p_ol {i : Nat} {ds : List D} (q : S[i]? = some (.ol ds)) : PJ pn S (dVar i) (.v i) := fun e h => by
  obtain ⟨o, h1, h2⟩ := h.slot q
  cases h2
  exact ⟨.var i, by unfold dVar; rw [h1], rfl⟩
theorem p_c {d : D} : PJ pn S (dC d) (.f d) := fun e h => ⟨.fz d, rfl, rfl⟩
theorem p_op {fn : D → D → Option D} {x y z : D} (ha : PJ pn S a oa) (hb : PJ pn S b ob) (da : Dt S oa x) (db : Dt S ob y) (h : fn x y = some z) : PJ pn S (dOp fn a b) (.f z) := fun e he => by
  obtain ⟨r1, h1, k1⟩ := ha e he
  obtain ⟨r2, h2, k2⟩ := hb e he
  refine ⟨.fz z, ?_, rfl⟩
  rw [ev_op, h1, bind_ok, h2, bind_ok, da.view he k1, db.view he k2]
  simp only [h]
section
variable {x y : Int} (ha : PJ pn S a oa) (hb : PJ pn S b ob) (da : Dt S oa (.int x) := by first | exact .f | exact .u rfl) (db : Dt S ob (.int y) := by first | exact .f | exact .u rfl)
include ha hb da db
theorem p_int {g : Int → Int → Int} : PJ pn S (dOp (fI g) a b) (.f (.int (g x y))) := p_op ha hb da db rfl
theorem p_cmp {g : Int → Int → Bool} : PJ pn S (dOp (fB g) a b) (.f (.bl (g x y))) := p_op ha hb da db rfl
theorem p_mulK (h : (inB x 64 || inB y 64) = true) : PJ pn S (dOp fMul a b) (.f (.int (x * y))) := p_op ha hb da db (if_pos h)
theorem p_modK (h : 0 < y) : PJ pn S (dOp fMod a b) (.f (.int (x % y))) := p_op ha hb da db (if_pos h)
theorem p_divK (h : 0 < y ∧ y < 1073741824) : PJ pn S (dOp fDiv a b) (.f (.int (x / y))) := p_op ha hb da db (if_pos h)
end
section
variable {α : Type} [Enc α] [EqE α] [DecidableEq α] {x y : α} {xs : List α} (ha : PJ pn S a oa) (hb : PJ pn S b ob)
include ha hb
theorem p_eq (da : Dt S oa (enc x) := by first | exact .f | exact .v rfl | exact .vz rfl | exact .w | exact .y | exact .u rfl) (db : Dt S ob (enc y) := by first | exact .f | exact .v rfl | exact .vz rfl | exact .w | exact .y | exact .u rfl) (hd : EqE.dep α ≤ 64 := by decide) : PJ pn S (dOp fEq a b) (.f (.bl (decide (x = y)))) := p_op ha hb da db (fEq_enc x y hd)
theorem p_ne (da : Dt S oa (enc x) := by first | exact .f | exact .v rfl | exact .vz rfl | exact .w | exact .y | exact .u rfl) (db : Dt S ob (enc y) := by first | exact .f | exact .v rfl | exact .vz rfl | exact .w | exact .y | exact .u rfl) (hd : EqE.dep α ≤ 64 := by decide) : PJ pn S (dOp fNe a b) (.f (.bl (decide (x ≠ y)))) := p_op ha hb da db (fNe_enc x y hd)
theorem p_in (da : Dt S oa (enc x) := by first | exact .f | exact .v rfl | exact .vz rfl | exact .w | exact .y | exact .u rfl) (db : Dt S ob (enc xs) := by first | exact .f | exact .v rfl | exact .vz rfl | exact .w | exact .y | exact .u rfl) (hd : EqE.dep α ≤ 63 := by decide) : PJ pn S (dOp fIn a b) (.f (.bl (decide (x ∈ xs)))) := p_op ha hb da db (fIn_enc x xs hd)
end
theorem p_isN {α : Type} [Enc α] [NoN α] {x : Option α} (ha : PJ pn S a oa) (hb : PJ pn S b (.f .non)) (da : Dt S oa (enc x) := by first | exact .f | exact .v rfl | exact .vz rfl | exact .w | exact .y | exact .u rfl) : PJ pn S (dOp fIsN a b) (.f (.bl x.isNone)) := by
  refine p_op ha hb da .f ?_
  cases x with
  | none => rfl
  | some z =>
    show fIsN (enc z) .non = _
    have := NoN.nn z
    cases q : enc z with
    | non => rw [q] at this; exact absurd rfl this
    | _ => rfl
theorem pa_nil' : PA pn S dNil [] := fun e h => ⟨[], rfl, trivial⟩
theorem pa_cons' {o : Opd} (ha : PJ pn S a o) (hs : PA pn S ma os) : PA pn S (dCons a ma) (o :: os) := fun e h => by
  obtain ⟨r, h1, k1⟩ := ha e h
  obtain ⟨rs, h2, k2⟩ := hs e h
  exact ⟨r :: rs, by rw [ev_cons, h1, bind_ok, h2, bind_ok], k1, k2⟩
theorem p_cb {fn : List D → Option D} {ds : List D} {z : D} (ha : PA pn S ma os) (da : Dts S os ds) (h : fn ds = some z) : PJ pn S (dCB fn ma) (.f z) := fun e he => by
  obtain ⟨rs, h1, k1⟩ := ha e he
  refine ⟨.fz z, ?_, rfl⟩
  rw [ev_cb, h1, bind_ok, da.view he k1]
  simp only [h]
theorem p_len {α : Type} [Enc α] {xs : List α} (ha : PJ pn S a oa) (da : Dt S oa (enc xs) := by first | exact .f | exact .v rfl | exact .vz rfl | exact .w | exact .y | exact .u rfl) : PJ pn S (dCB lenD (dCons a dNil)) (.f (.int xs.length)) :=
  p_cb (pa_cons' ha pa_nil') (.cons da .nil) (by show some (D.int ((xs.map enc).length : Nat)) = _; rw [List.length_map])
theorem p_toInt {x : Int} (ha : PJ pn S a oa) (da : Dt S oa (.int x) := by first | exact .f | exact .u rfl) : PJ pn S (dCB intD (dCons a dNil)) (.f (.int x)) := p_cb (pa_cons' ha pa_nil') (.cons da .nil) rfl
theorem intsOf_enc (xs : List Int) : intsOf (xs.map enc) = some xs := intsOf_map xs
theorem p_sum {xs : List Int} (ha : PJ pn S a oa) (da : Dt S oa (enc xs) := by first | exact .f | exact .v rfl | exact .vz rfl | exact .w | exact .y | exact .u rfl) : PJ pn S (dCB sumD (dCons a dNil)) (.f (.int xs.sum)) :=
  p_cb (pa_cons' ha pa_nil') (.cons da .nil) (by unfold sumD; show (intsOf (xs.map enc)).map _ = _; rw [intsOf_enc]; rfl)
inductive Cl : Opd → D → Prop
  | f {d : D} : Cl (.f d) d
  | w {ds : List D} : Cl (.w ds) (.lst ds)
  | y {d : D} : Cl (.y d) d
inductive Cls : List Opd → List D → Prop
  | nil : Cls [] []
  | cons {o : Opd} {os : List Opd} {d : D} {ds : List D} : Cl o d → Cls os ds → Cls (o :: os) (d :: ds)
theorem Cl.frz {o : Opd} {d : D} {r : RV} (q : Cl o d) (k : ROk r o) (e : Env) : frzR r e = some (d, e) := by
  cases q with
  | f => cases k; rfl
  | w => cases k; show some (SV.toD _, e) = _; rw [toD_ol]
  | y => rcases k with rfl | ⟨ds, rfl, rfl⟩
         · rfl
         · show some (SV.toD _, e) = _; rw [toD_ol]
theorem Cls.frz {os : List Opd} {ds : List D} (q : Cls os ds) : ∀ {rs : List RV}, ROks rs os → ∀ e, frzRs rs e = some (ds, e) := by
  induction q with
  | nil => intro rs k e; cases rs with
    | nil => rfl
    | cons _ _ => exact k.elim
  | cons q1 q2 ih => intro rs k e; cases rs with
    | nil => exact k.elim
    | cons r rs =>
      unfold frzRs
      simp only [q1.frz k.1 e, ih k.2 e]
theorem p_lst {ds : List D} (ha : PA pn S ma os) (da : Cls os ds) (h : ds.length ≤ 1000000 := by exact Nat.le_of_ble_eq_true rfl) : PJ pn S (dLst ma) (.w ds) := fun e he => by
  obtain ⟨rs, h1, k1⟩ := ha e he
  refine ⟨.own (.ol (fzs ds)), ?_, rfl⟩
  rw [ev_lst, h1, bind_ok, da.frz k1 e]
  simp only
  rw [if_pos (size_ge (by omega))]
theorem p_tup {ds : List D} (ha : PA pn S ma os) (da : Cls os ds) (h : ds.length ≤ 1000000 := by exact Nat.le_of_ble_eq_true rfl) : PJ pn S (dTup ma) (.f (.tup ds)) := fun e he => by
  obtain ⟨rs, h1, k1⟩ := ha e he
  refine ⟨.fz (.tup ds), ?_, rfl⟩
  show (ma e).bind _ = _
  rw [h1, bind_ok, da.frz k1 e]
  simp only
  rw [if_pos (size_ge (by omega))]
def PP (pn : List Nat) (S : List SD) (m : M (Option Int)) (i : Option Int) : Prop := ∀ e, Has pn S e → m e = .ok i e
theorem pp_no : PP pn S dNoPart none := fun _ _ => rfl
theorem pp_at {x : Int} (ha : PJ pn S a oa) (da : Dt S oa (.int x) := by first | exact .f | exact .u rfl) : PP pn S (dPart a) (some x) := fun e h => by
  obtain ⟨r, h1, k1⟩ := ha e h
  unfold dPart
  rw [mbind, h1, bind_ok, da.view h k1]
def cutL {α : Type} (xs : List α) (lo hi : Option Int) : List α := (xs.drop (HT.sIx xs.length 0 lo)).take (HT.sIx xs.length xs.length hi - HT.sIx xs.length 0 lo)
theorem cutD_enc {α : Type} [Enc α] (xs : List α) (lo hi : Option Int) : cutD (xs.map enc) lo hi = (cutL xs lo hi).map enc := by
  unfold cutD cutL
  simp [List.map_take, List.map_drop]
theorem p_cut {α : Type} [Enc α] {xs : List α} {ml mh : M (Option Int)} {lo hi : Option Int} (ha : PJ pn S a oa) (hl : PP pn S ml lo) (hh : PP pn S mh hi) (da : Cl oa (enc xs) := by first | exact .f | exact .w | exact .y) : PJ pn S (dSl a ml mh) (.w (encs (cutL xs lo hi))) := fun e he => by
  obtain ⟨r, h1, k1⟩ := ha e he
  refine ⟨.own (.ol (fzs (encs (cutL xs lo hi)))), ?_, rfl⟩
  unfold dSl
  rw [mbind, h1, bind_ok, da.frz k1 e]
  show ((ml e).bind _) = _
  rw [hl e he, bind_ok, hh e he, bind_ok, cutD_enc]
  rfl
section
variable {t u : M Bool} {c1 c2 : Bool}
theorem b_t (ha : PJ pn S a (.f (.bl c1))) : PB pn S (dT a) c1 := fun e h => by
  obtain ⟨r, h1, k1⟩ := ha e h
  cases k1
  rw [ev_t, h1, bind_ok]; rfl
theorem b_and (h1 : PB pn S t c1) (h2 : PB pn S u c2) : PB pn S (dAnd t u) (c1 && c2) := fun e h => by
  rw [ev_and, h1 e h, bind_ok]; cases c1 with
  | true => exact h2 e h
  | false => rfl
theorem b_or (h1 : PB pn S t c1) (h2 : PB pn S u c2) : PB pn S (dOr t u) (c1 || c2) := fun e h => by
  rw [ev_or, h1 e h, bind_ok]; cases c1 with
  | true => rfl
  | false => exact h2 e h
end
end
end VF
set_option maxRecDepth 100000
set_option maxHeartbeats 4000000
namespace VF
set_option autoImplicit false
open PySem L2
open Enc (enc)
def geti {α : Type} (xs : List α) (i : Int) : Res α := match atI xs i with
  | some a => .ok a
  | none => .st
@[irreducible] def ok62 (n : Int) : Bool := small62 n
@[irreducible] def okDiv (y : Int) : Bool := decide (0 < y ∧ y < 1073741824)
@[irreducible] def okMul (x y : Int) : Bool := inB x 64 || inB y 64
@[irreducible] def okPow (x y : Int) : Bool := decide (0 ≤ y ∧ y ≤ 1000000 ∧ x.natAbs < 2 ^ 64)
@[irreducible] def okLt (n : Nat) : Bool := decide (n < sizeLine)
@[irreducible] def okLe (n : Nat) : Bool := decide (n ≤ sizeLine)
@[irreducible] def okLr (n : Int) : Bool := decide (n ≤ 1000000 ∧ -(2 ^ 62) ≤ n)
theorem ok62_eq (n : Int) : ok62 n = small62 n := by rw [ok62]
theorem okPow_eq (x y : Int) : okPow x y = decide (0 ≤ y ∧ y ≤ 1000000 ∧ x.natAbs < 2 ^ 64) := by rw [okPow]
theorem okLt_eq (n : Nat) : okLt n = decide (n < sizeLine) := by rw [okLt]
theorem okLe_eq (n : Nat) : okLe n = decide (n ≤ sizeLine) := by rw [okLe]
def modR (x y : Int) : Res Int := if 0 < y then .ok (x % y) else .st
def powR (x y : Int) : Res Int := if okPow x y = true then .ok (x ^ y.toNat) else .st
def appR {α : Type} (xs : List α) (x : α) : Res (List α) := if okLt xs.length = true then .ok (xs ++ [x]) else .st
def maxR : List Int → Res Int
  | x :: y :: z :: xs => .ok (maxI x (y :: z :: xs))
  | [x, y] => .ok (maxI x [y])
  | [x] => .ok x
  | [] => .st
def irng (lo : Int) (n : Nat) : List Int := (List.range n).map fun i => lo + (i : Nat)
def rngR (lo hi : Int) : Res (List Int) := if (ok62 lo && ok62 hi) = true then .ok (irng lo (hi - lo).toNat) else .st
def rng1R (n : Int) : Res (List Int) := if ok62 n = true then .ok (irng 0 n.toNat) else .st
def catR {α : Type} (xs ys : List α) : Res (List α) := if okLe (xs.length + ys.length) = true then .ok (xs ++ ys) else .st
def enumL {α : Type} (xs : List α) : List (Int × α) := xs.mapIdx fun i x => ((i : Nat), x)
def unO {α : Type} : Option α → Res α
  | some a => .ok a
  | none => .st
inductive Lp (σ τ : Type) where
  | go (s : σ) | bk (s : σ) | out (t : τ)
def forR {α σ τ : Type} (f : α → σ → Res (Lp σ τ)) : List α → σ → (σ → Res τ) → Res τ
  | [], s, k => k s
  | x :: xs, s, k => (f x s).bind fun l => match l with
    | .go s' => forR f xs s' k
    | .bk s' => k s'
    | .out t => .ok t
def foldR {α σ : Type} (f : α → σ → Res σ) : List α → σ → Res σ
  | [], s => .ok s
  | x :: xs, s => (f x s).bind fun s' => foldR f xs s'
def compGo {α β σ : Type} (f : α → σ → Res (Option β × σ)) : List α → σ → List β → Res (List β × σ)
  | [], s, acc => .ok (acc, s)
  | x :: xs, s, acc => match f x s with
    | .ok (some y, s') => compGo f xs s' (acc ++ [y])
    | .ok (none, s') => compGo f xs s' acc
    | _ => .st
def filS {α β σ : Type} (f : α → σ → Res (Option β × σ)) (xs : List α) (s : σ) : Res (List β × σ) := if okLe xs.length = true then compGo f xs s [] else .st
def mapS {α β σ : Type} (f : α → σ → Res (β × σ)) (xs : List α) (s : σ) : Res (List β × σ) := filS (fun x s => (f x s).bind fun p => .ok (some p.1, p.2)) xs s
def filC {α β : Type} (f : α → Res (Option β)) (xs : List α) : Res (List β) := (filS (fun x (_ : Unit) => (f x).bind fun o => .ok (o, ())) xs ()).bind fun p => .ok p.1
def mapC {α β : Type} (f : α → Res β) (xs : List α) : Res (List β) := filC (fun x => (f x).bind fun y => .ok (some y)) xs
section
variable {α β γ δ σ τ : Type} {pn : List Nat} {S S' S1 S2 : List SD} {e : Env} {X : Exc → Env → Prop} {P : Res α} {G : α → γ → Env → Prop} {r q : RV} {o oa ob oc : Opd} {d x y z : D}
theorem c_pure {a : M RV} {K : RV → M γ} (h : Has pn S e) (ha : PJ pn S a o) (k : ∀ r, ROk r o → Sm (K r e) P G X) : Sm ((a e).bind K) P G X := by
  obtain ⟨r, h1, k1⟩ := ha e h
  rw [h1]; exact k r k1
theorem c_pureB {t : M Bool} {c : Bool} {K : Bool → M γ} (h : Has pn S e) (ht : PB pn S t c) (k : Sm (K c e) P G X) : Sm ((t e).bind K) P G X := by
  rw [ht e h]; exact k
theorem c_pureA {a : M (List RV)} {os : List Opd} {K : List RV → M γ} (h : Has pn S e) (ha : PA pn S a os) (k : ∀ rs, ROks rs os → Sm (K rs e) P G X) : Sm ((a e).bind K) P G X := by
  obtain ⟨r, h1, k1⟩ := ha e h
  rw [h1]; exact k r k1
def seqK (b : M Fl) (K : Fl → M γ) : Fl → M γ := fun f => match f with
  | .nx => fun e => (b e).bind K
  | f => K f
theorem c_seq {a b : M Fl} {K : Fl → M γ} (k : Sm ((a e).bind (seqK b K)) P G X) : Sm ((dSeq a b e).bind K) P G X := by
  have : (dSeq a b e).bind K = (a e).bind (seqK b K) := by
    unfold dSeq M.bind
    cases a e with
    | st => rfl
    | ok f e => cases f <;> rfl
    | ex x e => rfl
  rw [this]; exact k
def setK (i : Nat) (K : Fl → M γ) : RV → M γ := fun r e => match putR i r e with
  | some e' => K .nx e'
  | none => .st
theorem c_set {i : Nat} {a : M RV} {K : Fl → M γ} (k : Sm ((a e).bind (setK i K)) P G X) : Sm ((dSet i a e).bind K) P G X := by
  have : (dSet i a e).bind K = (a e).bind (setK i K) := by
    unfold dSet M.bind
    cases a e with
    | st => rfl
    | ok f e =>
      show R.bind (match putR i f e with | some e' => R.ok Fl.nx e' | none => R.st) K = setK i K f e
      unfold setK
      cases putR i f e <;> rfl
    | ex x e => rfl
  rw [this]; exact k
theorem f_set {i : Nat} {K : Fl → M γ} (h : Has pn S e) (ho : ROk r o) (s : St S i o S') (hi : i ∉ pn) (k : ∀ e', Has pn S' e' → Sm (K .nx e') P G X) : Sm (setK i K r e) P G X := by
  obtain ⟨e', h1, h2⟩ := s.put h ho hi
  unfold setK; simp only [h1]; exact k e' h2
def retK (K : Fl → M γ) : RV → M γ := fun r e => K (.rt r) e
theorem c_ret {a : M RV} {K : Fl → M γ} (k : Sm ((a e).bind (retK K)) P G X) : Sm ((dRet a e).bind K) P G X := by
  have : (dRet a e).bind K = (a e).bind (retK K) := by
    unfold dRet M.bind
    cases a e <;> rfl
  rw [this]; exact k
def dropK (K : Fl → M γ) : RV → M γ := fun _ e => K .nx e
theorem c_drop {a : M RV} {K : Fl → M γ} (k : Sm ((a e).bind (dropK K)) P G X) : Sm ((dDrop a e).bind K) P G X := by
  have : (dDrop a e).bind K = (a e).bind (dropK K) := by
    unfold dDrop M.bind
    cases a e <;> rfl
  rw [this]; exact k
def ifK (a b : M Fl) (K : Fl → M γ) : Bool → M γ := fun c e => match c with
  | true => (a e).bind K
  | false => (b e).bind K
theorem c_if {t : M Bool} {a b : M Fl} {K : Fl → M γ} (k : Sm ((t e).bind (ifK a b K)) P G X) : Sm ((dIf t a b e).bind K) P G X := by
  have : (dIf t a b e).bind K = (t e).bind (ifK a b K) := by
    unfold dIf M.bind
    cases t e with
    | st => rfl
    | ok c e => cases c <;> rfl
    | ex x e => rfl
  rw [this]; exact k
theorem f_if {c : Bool} {a b : M Fl} {K : Fl → M γ} {P1 P2 : Res α} (k1 : c = true → Sm ((a e).bind K) P1 G X) (k2 : c = false → Sm ((b e).bind K) P2 G X) : Sm (ifK a b K c e) (if c = true then P1 else P2) G X := by
  cases c with
  | true => exact k1 rfl
  | false => exact k2 rfl
def Jn (pn : List Nat) (I : σ → List SD) : σ → Fl → Env → Prop := fun s f e => f = .nx ∧ Has pn (I s) e
theorem f_ifJ {c : Bool} {a b : M Fl} {K : Fl → M γ} {P1 P2 : Res σ} {k : σ → Res α} (_h : Has pn S e) (I : σ → List SD) (k1 : c = true → Sm ((a e).bind okK) P1 (Jn pn I) X) (k2 : c = false → Sm ((b e).bind okK) P2 (Jn pn I) X) (k3 : ∀ s e', Has pn (I s) e' → Sm (K .nx e') (k s) G X) :
    Sm (ifK a b K c e) ((if c = true then P1 else P2).bind k) G X := by
  have go : ∀ (m : M Fl) (p : Res σ), Sm ((m e).bind okK) p (Jn pn I) X → Sm ((m e).bind K) (p.bind k) G X := fun m p h => h.top.bind fun s f e' hj => by
    obtain ⟨rfl, hj⟩ := hj
    exact k3 s e' hj
  cases c with
  | true => exact go a P1 (k1 rfl)
  | false => exact go b P2 (k2 rfl)
theorem f_jn {I : σ → List SD} {s : σ} (h : Has pn S e) (w : W S (I s) := by first | exact W.refl _ | (repeat (first | exact W.nil | refine W.rf ?_ | refine W.cz ?_ | refine W.cc ?_ | refine W.vz ?_ | refine W.vo ?_ | refine W.an ?_))) : Sm (okK Fl.nx e) (.ok s) (Jn pn I) X := ⟨.nx, e, rfl, rfl, h.weak w⟩
theorem c_next {K : Fl → M γ} (k : Sm (K .nx e) P G X) : Sm ((dNext e).bind K) P G X := k
def opK2 (fn : D → D → Option D) (r : RV) (K : RV → M γ) : RV → M γ := fun q e => match view e r, view e q with
  | some x, some y => (match fn x y with
    | some d => K (.fz d) e
    | none => .st)
  | _, _ => .st
def opK1 (fn : D → D → Option D) (b : M RV) (K : RV → M γ) : RV → M γ := fun r e => (b e).bind (opK2 fn r K)
theorem c_op {fn : D → D → Option D} {a b : M RV} {K : RV → M γ} (k : Sm ((a e).bind (opK1 fn b K)) P G X) : Sm ((dOp fn a b e).bind K) P G X := by
  have : (dOp fn a b e).bind K = (a e).bind (opK1 fn b K) := by
    rw [ev_op, rbind_assoc]
    congr 1; funext r e
    unfold opK1
    rw [rbind_assoc]
    congr 1; funext q e
    unfold opK2
    cases view e r with
    | none => rfl
    | some x => cases view e q with
      | none => rfl
      | some y => simp only; cases fn x y <;> rfl
  rw [this]; exact k
theorem c_op2 {fn : D → D → Option D} {b : M RV} {K : RV → M γ} (k : Sm ((b e).bind (opK2 fn r K)) P G X) : Sm (opK1 fn b K r e) P G X := k
theorem f_op {fn : D → D → Option D} {K : RV → M γ} (h : Has pn S e) (k1 : ROk r oa) (k2 : ROk q ob) (da : Dt S oa x) (db : Dt S ob y) (hf : fn x y = some z) (k : Sm (K (.fz z) e) P G X) : Sm (opK2 fn r K q e) P G X := by
  unfold opK2
  rw [da.view h k1, db.view h k2]
  simp only [hf]; exact k
section
variable {i j : Int} {K : RV → M γ} {k : Int → Res α} (h : Has pn S e) (k1 : ROk r oa) (k2 : ROk q ob) (da : Dt S oa (.int i) := by first | exact .f | exact .u rfl) (db : Dt S ob (.int j) := by first | exact .f | exact .u rfl)
include h k1 k2 da db
theorem f_int {g : Int → Int → Int} (kk : Sm (K (.fz (.int (g i j))) e) P G X) : Sm (opK2 (fI g) r K q e) P G X := f_op h k1 k2 da db rfl kk
theorem f_cmp {g : Int → Int → Bool} (kk : Sm (K (.fz (.bl (g i j))) e) P G X) : Sm (opK2 (fB g) r K q e) P G X := f_op h k1 k2 da db rfl kk
theorem f_mod (kk : ∀ v, Sm (K (.fz (.int v)) e) (k v) G X) : Sm (opK2 fMod r K q e) ((modR i j).bind k) G X := by
  by_cases c : 0 < j
  · unfold modR; rw [if_pos c]; exact f_op h k1 k2 da db (if_pos c) (kk _)
  · unfold modR; rw [if_neg c]; first | trivial | exact ⟨trivial⟩
theorem f_pow (kk : ∀ v, Sm (K (.fz (.int v)) e) (k v) G X) : Sm (opK2 fPow r K q e) ((powR i j).bind k) G X := by
  by_cases c : 0 ≤ j ∧ j ≤ 1000000 ∧ i.natAbs < 2 ^ 64
  · unfold powR; rw [okPow_eq, if_pos (decide_eq_true c)]; exact f_op h k1 k2 da db (if_pos c) (kk _)
  · unfold powR; rw [okPow_eq, if_neg (by rw [decide_eq_true_iff]; exact c)]; first | trivial | exact ⟨trivial⟩
end
def tK (K : Bool → M γ) : RV → M γ := fun r e => match view e r with
  | some (.bl b) => K b e
  | _ => .st
theorem c_t {a : M RV} {K : Bool → M γ} (k : Sm ((a e).bind (tK K)) P G X) : Sm ((dT a e).bind K) P G X := by
  have : (dT a e).bind K = (a e).bind (tK K) := by
    rw [ev_t, rbind_assoc]
    congr 1; funext r e
    unfold tK
    cases view e r with
    | none => rfl
    | some d => cases d <;> rfl
  rw [this]; exact k
theorem f_t {c : Bool} {K : Bool → M γ} (h : Has pn S e) (k1 : ROk r o) (kk : Sm (K c e) P G X) (da : Dt S o (.bl c) := by first | exact .f | exact .u rfl) : Sm (tK K r e) P G X := by
  unfold tK; rw [da.view h k1]; exact kk
def truK (K : Bool → M γ) : RV → M γ := fun r e => match (view e r).bind truD with
  | some b => K b e
  | none => .st
theorem c_tru {a : M RV} {K : Bool → M γ} (k : Sm ((a e).bind (truK K)) P G X) : Sm ((dTru a e).bind K) P G X := by
  have : (dTru a e).bind K = (a e).bind (truK K) := by
    rw [ev_tru, rbind_assoc]
    congr 1; funext r e
    unfold truK
    cases (view e r).bind truD <;> rfl
  rw [this]; exact k
theorem f_tru {c : Bool} {K : Bool → M γ} (h : Has pn S e) (k1 : ROk r o) (da : Dt S o d) (hd : truD d = some c) (kk : Sm (K c e) P G X) : Sm (truK K r e) P G X := by
  unfold truK; rw [da.view h k1]; simp only [Option.bind, hd]; exact kk
def andK (u : M Bool) (K : Bool → M γ) : Bool → M γ := fun c e => match c with
  | true => (u e).bind K
  | false => K false e
def orK (u : M Bool) (K : Bool → M γ) : Bool → M γ := fun c e => match c with
  | true => K true e
  | false => (u e).bind K
theorem c_and {t u : M Bool} {K : Bool → M γ} (k : Sm ((t e).bind (andK u K)) P G X) : Sm ((dAnd t u e).bind K) P G X := by
  have : (dAnd t u e).bind K = (t e).bind (andK u K) := by
    unfold dAnd M.bind
    cases t e with
    | st => rfl
    | ok c e => cases c <;> rfl
    | ex x e => rfl
  rw [this]; exact k
theorem c_or {t u : M Bool} {K : Bool → M γ} (k : Sm ((t e).bind (orK u K)) P G X) : Sm ((dOr t u e).bind K) P G X := by
  have : (dOr t u e).bind K = (t e).bind (orK u K) := by
    unfold dOr M.bind
    cases t e with
    | st => rfl
    | ok c e => cases c <;> rfl
    | ex x e => rfl
  rw [this]; exact k
def notK (K : Bool → M γ) : Bool → M γ := fun c e => K (!c) e
theorem c_not {t : M Bool} {K : Bool → M γ} (k : Sm ((t e).bind (notK K)) P G X) : Sm ((dNot t e).bind K) P G X := by
  have : (dNot t e).bind K = (t e).bind (notK K) := by
    unfold dNot M.bind
    cases t e <;> rfl
  rw [this]; exact k
theorem f_not {c : Bool} {K : Bool → M γ} (kk : Sm (K (!c) e) P G X) : Sm (notK K c e) P G X := kk
def Tb (pn : List Nat) (S : List SD) : Bool → Bool → Env → Prop := fun b b' e => b' = b ∧ Has pn S e
theorem f_tb {c : Bool} (h : Has pn S e) : Sm (okK c e) (.ok c) (Tb pn S) X := ⟨c, e, rfl, rfl, h⟩
theorem f_and {c : Bool} {u : M Bool} {P1 : Res Bool} {K : Bool → M γ} {k : Bool → Res α} (h : Has pn S e) (k1 : c = true → Sm ((u e).bind okK) P1 (Tb pn S) X) (kk : ∀ b e', Has pn S e' → Sm (K b e') (k b) G X) : Sm (andK u K c e) ((if c = true then P1 else .ok false).bind k) G X := by
  cases c with
  | true => exact (k1 rfl).top.bind fun a b e' hj => by obtain ⟨rfl, hj⟩ := hj; exact kk _ _ hj
  | false => exact kk _ _ h
theorem f_or {c : Bool} {u : M Bool} {P1 : Res Bool} {K : Bool → M γ} {k : Bool → Res α} (h : Has pn S e) (k1 : c = false → Sm ((u e).bind okK) P1 (Tb pn S) X) (kk : ∀ b e', Has pn S e' → Sm (K b e') (k b) G X) : Sm (orK u K c e) ((if c = true then .ok true else P1).bind k) G X := by
  cases c with
  | false => exact (k1 rfl).top.bind fun a b e' hj => by obtain ⟨rfl, hj⟩ := hj; exact kk _ _ hj
  | true => exact kk _ _ h
def Ve (pn : List Nat) (S : List SD) (o : δ → Opd) : δ → RV → Env → Prop := fun v r e => ROk r (o v) ∧ Has pn S e
theorem f_ve {o : δ → Opd} {v : δ} (h : Has pn S e) (k : ROk r (o v)) : Sm (okK r e) (.ok v) (Ve pn S o) X := ⟨r, e, rfl, k, h⟩
def andVK (b : M RV) (K : RV → M γ) : RV → M γ := fun r e => match (view e r).bind blOf with
  | some true => (b e).bind K
  | some false => K (.fz (.bl false)) e
  | none => .st
def orVK (b : M RV) (K : RV → M γ) : RV → M γ := fun r e => match (view e r).bind blOf with
  | some true => K (.fz (.bl true)) e
  | some false => (b e).bind K
  | none => .st
theorem c_andV {a b : M RV} {K : RV → M γ} (k : Sm ((a e).bind (andVK b K)) P G X) : Sm ((dAndV a b e).bind K) P G X := by
  have : (dAndV a b e).bind K = (a e).bind (andVK b K) := by
    rw [ev_andV, rbind_assoc]
    congr 1; funext r e
    unfold andVK
    cases (view e r).bind blOf with
    | none => rfl
    | some c => cases c <;> rfl
  rw [this]; exact k
theorem c_orV {a b : M RV} {K : RV → M γ} (k : Sm ((a e).bind (orVK b K)) P G X) : Sm ((dOrV a b e).bind K) P G X := by
  have : (dOrV a b e).bind K = (a e).bind (orVK b K) := by
    rw [ev_orV, rbind_assoc]
    congr 1; funext r e
    unfold orVK
    cases (view e r).bind blOf with
    | none => rfl
    | some c => cases c <;> rfl
  rw [this]; exact k
abbrev oB : Bool → Opd := fun c => .f (.bl c)
theorem f_andV {c : Bool} {b : M RV} {P1 : Res Bool} {K : RV → M γ} {k : Bool → Res α} (h : Has pn S e) (kr : ROk r (.f (.bl c))) (k1 : c = true → Sm ((b e).bind okK) P1 (Ve pn S oB) X) (kk : ∀ v e', Has pn S e' → Sm (K (.fz (.bl v)) e') (k v) G X) : Sm (andVK b K r e) ((if c = true then P1 else .ok false).bind k) G X := by
  cases kr
  unfold andVK
  simp only [view_fz, Option.bind, blOf_bl]
  cases c with
  | true => exact (k1 rfl).top.bind fun a b e' hj => by obtain ⟨hr, hj⟩ := hj; cases hr; exact kk _ _ hj
  | false => exact kk _ _ h
theorem f_orV {c : Bool} {b : M RV} {P1 : Res Bool} {K : RV → M γ} {k : Bool → Res α} (h : Has pn S e) (kr : ROk r (.f (.bl c))) (k1 : c = false → Sm ((b e).bind okK) P1 (Ve pn S oB) X) (kk : ∀ v e', Has pn S e' → Sm (K (.fz (.bl v)) e') (k v) G X) : Sm (orVK b K r e) ((if c = true then .ok true else P1).bind k) G X := by
  cases kr
  unfold orVK
  simp only [view_fz, Option.bind, blOf_bl]
  cases c with
  | false => exact (k1 rfl).top.bind fun a b e' hj => by obtain ⟨hr, hj⟩ := hj; cases hr; exact kk _ _ hj
  | true => exact kk _ _ h
def chK2 (f g : D → D → Option D) (c : M RV) (r : RV) (K : RV → M γ) : RV → M γ := fun q e => match view e r, view e q with
  | some x, some y => (match (f x y).bind blOf with
    | some true => (c e).bind fun p e => (match view e q, view e p with
      | some y, some z => (match g y z with
        | some d => K (.fz d) e
        | none => .st)
      | _, _ => .st)
    | some false => K (.fz (.bl false)) e
    | none => .st)
  | _, _ => .st
def chK1 (f g : D → D → Option D) (b c : M RV) (K : RV → M γ) : RV → M γ := fun r e => (b e).bind (chK2 f g c r K)
theorem c_chain {f g : D → D → Option D} {a b c : M RV} {K : RV → M γ} (k : Sm ((a e).bind (chK1 f g b c K)) P G X) : Sm ((dChain f g a b c e).bind K) P G X := by
  have : (dChain f g a b c e).bind K = (a e).bind (chK1 f g b c K) := by
    rw [ev_chain, rbind_assoc]
    congr 1; funext r e
    unfold chK1
    rw [rbind_assoc]
    congr 1; funext q e
    unfold chK2
    cases view e r with
    | none => rfl
    | some x => cases view e q with
      | none => rfl
      | some y =>
        simp only
        cases (f x y).bind blOf with
        | none => rfl
        | some t => cases t with
          | false => rfl
          | true =>
            simp only
            rw [rbind_assoc]
            congr 1; funext p e
            cases view e q with
            | none => rfl
            | some y => cases view e p with
              | none => rfl
              | some z => simp only; cases g y z <;> rfl
  rw [this]; exact k
theorem c_chain2 {f g : D → D → Option D} {b c : M RV} {K : RV → M γ} (k : Sm ((b e).bind (chK2 f g c r K)) P G X) : Sm (chK1 f g b c K r e) P G X := k
theorem f_chain {f g : Int → Int → Bool} {i j l : Int} {c : M RV} {K : RV → M γ} (h : Has pn S e) (k1 : ROk r oa) (k2 : ROk q ob) (hc : PJ pn S c oc) (k : Sm (K (.fz (.bl (f i j && g j l))) e) P G X) (da : Dt S oa (.int i) := by first | exact .f | exact .u rfl) (db : Dt S ob (.int j) := by first | exact .f | exact .u rfl) (dc : Dt S oc (.int l) := by first | exact .f | exact .u rfl) : Sm (chK2 (fB f) (fB g) c r K q e) P G X := by
  unfold chK2
  rw [da.view h k1, db.view h k2]
  simp only [fB_int, Option.bind, blOf_bl]
  cases hh : f i j with
  | false => rw [hh] at k; exact k
  | true =>
    rw [hh] at k
    obtain ⟨p, h3, k3⟩ := hc e h
    simp only [h3, bind_ok, db.view h k2, dc.view h k3, fB_int]
    exact k
def ixK2 (r : RV) (K : RV → M γ) : RV → M γ := fun q e => match view e q with
  | some (.int i) => (match itemR e r i with
    | some d => K (.fz d) e
    | none => .st)
  | _ => .st
def ixK1 (b : M RV) (K : RV → M γ) : RV → M γ := fun r e => (b e).bind (ixK2 r K)
theorem c_ix {a b : M RV} {K : RV → M γ} (k : Sm ((a e).bind (ixK1 b K)) P G X) : Sm ((dIx a b e).bind K) P G X := by
  have : (dIx a b e).bind K = (a e).bind (ixK1 b K) := by
    rw [ev_ix, rbind_assoc]
    congr 1; funext r e
    unfold ixK1
    rw [rbind_assoc]
    congr 1; funext q e
    unfold ixK2
    cases view e q with
    | none => rfl
    | some x => cases x <;> first | rfl | (simp only; cases itemR e r _ <;> rfl)
  rw [this]; exact k
theorem c_ix2 {b : M RV} {K : RV → M γ} (k : Sm ((b e).bind (ixK2 r K)) P G X) : Sm (ixK1 b K r e) P G X := k
theorem item_dt {ds : List D} {i : Int} (h : Has pn S e) (k : ROk r o) (q : Dt S o (.lst ds)) : itemR e r i = atI ds i := by
  cases q with
  | f => cases k; rfl
  | w => cases k; exact kid_map ds i
  | y => rcases k with rfl | ⟨ds', e1, rfl⟩
         · rfl
         · cases e1; exact kid_map ds i
  | v q =>
    cases k
    obtain ⟨o, h1, h2⟩ := h.slot q
    cases h2
    show (match e.sl[_]? with | some (some s) => itemS s i | _ => none) = _
    rw [h1]; exact kid_map ds i
  | vz q =>
    cases k
    obtain ⟨o, h1, h2⟩ := h.slot q
    cases h2
    show (match e.sl[_]? with | some (some s) => itemS s i | _ => none) = _
    rw [h1]; rfl
  | u q =>
    rcases k with rfl | rfl
    · rfl
    · obtain ⟨o, h1, h2⟩ := h.slot q
      show (match e.sl[_]? with | some (some s) => itemS s i | _ => none) = _
      rcases h2 with rfl | ⟨ds', e1, rfl⟩
      · rw [h1]; rfl
      · cases e1; rw [h1]; exact kid_map ds i
  | o e => cases e
  | x q e => cases e
theorem f_ix {ω : Type} [Enc ω] {xs : List ω} {i : Int} {K : RV → M γ} {k : ω → Res α} (h : Has pn S e) (k1 : ROk r oa) (k2 : ROk q ob) (kk : ∀ v, Sm (K (.fz (enc v)) e) (k v) G X) (da : Dt S oa (enc xs) := by first | exact .f | exact .v rfl | exact .vz rfl | exact .w | exact .y | exact .u rfl) (db : Dt S ob (.int i) := by first | exact .f | exact .u rfl) : Sm (ixK2 r K q e) ((geti xs i).bind k) G X := by
  unfold ixK2
  rw [db.view h k2]
  simp only
  rw [item_dt h k1 da]
  unfold geti
  rw [atI_map]
  cases atI xs i with
  | none => first | trivial | exact ⟨trivial⟩
  | some v => exact kk v
end
end VF
set_option maxRecDepth 100000
set_option maxHeartbeats 4000000
namespace VF
set_option autoImplicit false
open PySem L2
open Enc (enc)
section
variable {α β γ δ σ τ : Type} {pn : List Nat} {S S' S1 S2 : List SD} {e : Env} {X : Exc → Env → Prop} {P : Res α} {G : α → γ → Env → Prop} {r q : RV} {o oa ob oc : Opd} {d x y z : D}
def consK2 (r : RV) (K : List RV → M γ) : List RV → M γ := fun rs e => K (r :: rs) e
def consK1 (b : M (List RV)) (K : List RV → M γ) : RV → M γ := fun r e => (b e).bind (consK2 r K)
theorem c_cons {a : M RV} {b : M (List RV)} {K : List RV → M γ} (k : Sm ((a e).bind (consK1 b K)) P G X) : Sm ((dCons a b e).bind K) P G X := by
  have : (dCons a b e).bind K = (a e).bind (consK1 b K) := by
    rw [ev_cons, rbind_assoc]
    congr 1; funext r e
    unfold consK1
    rw [rbind_assoc]
    rfl
  rw [this]; exact k
theorem c_cons2 {b : M (List RV)} {K : List RV → M γ} (k : Sm ((b e).bind (consK2 r K)) P G X) : Sm (consK1 b K r e) P G X := k
theorem f_cons {rs : List RV} {K : List RV → M γ} (k : Sm (K (r :: rs) e) P G X) : Sm (consK2 r K rs e) P G X := k
theorem c_nil {K : List RV → M γ} (k : Sm (K [] e) P G X) : Sm ((dNil e).bind K) P G X := k
def cbK (fn : List D → Option D) (K : RV → M γ) : List RV → M γ := fun rs e => match rs.mapM (view e) with
  | some xs => (match fn xs with
    | some d => K (.fz d) e
    | none => .st)
  | none => .st
theorem c_cb {fn : List D → Option D} {a : M (List RV)} {K : RV → M γ} (k : Sm ((a e).bind (cbK fn K)) P G X) : Sm ((dCB fn a e).bind K) P G X := by
  have : (dCB fn a e).bind K = (a e).bind (cbK fn K) := by
    rw [ev_cb, rbind_assoc]
    congr 1; funext r e
    unfold cbK
    cases r.mapM (view e) with
    | none => rfl
    | some x => simp only; cases fn x <;> rfl
  rw [this]; exact k
theorem f_cb {fn : List D → Option D} {rs : List RV} {os : List Opd} {ds : List D} {K : RV → M γ} (h : Has pn S e) (kr : ROks rs os) (da : Dts S os ds) (hf : fn ds = some d) (k : Sm (K (.fz d) e) P G X) : Sm (cbK fn K rs e) P G X := by
  unfold cbK; rw [da.view h kr]; simp only [hf]; exact k
theorem maxI_ge : ∀ (xs : List Int) (m : Int), m ≤ maxI m xs ∧ (∀ x ∈ xs, x ≤ maxI m xs) ∧ (maxI m xs = m ∨ maxI m xs ∈ xs)
  | [], m => ⟨Int.le_refl _, fun _ h => absurd h List.not_mem_nil, .inl rfl⟩
  | x :: xs, m => by
    unfold maxI
    by_cases c : x > m
    · rw [if_pos c]
      obtain ⟨h1, h2, h3⟩ := maxI_ge xs x
      refine ⟨by omega, fun y hy => ?_, ?_⟩
      · rcases List.mem_cons.mp hy with q | q
        · rw [q]; exact h1
        · exact h2 y q
      · rcases h3 with h3 | h3
        · right; rw [h3]; exact List.mem_cons_self
        · right; exact List.mem_cons_of_mem _ h3
    · rw [if_neg c]
      obtain ⟨h1, h2, h3⟩ := maxI_ge xs m
      refine ⟨h1, fun y hy => ?_, ?_⟩
      · rcases List.mem_cons.mp hy with q | q
        · rw [q]; omega
        · exact h2 y q
      · rcases h3 with h3 | h3
        · left; exact h3
        · right; exact List.mem_cons_of_mem _ h3
theorem maxD_enc (xs : List Int) : maxD [.lst (xs.map enc)] = match maxR xs with | .ok v => some (.int v) | _ => none := by
  cases xs with
  | nil => rfl
  | cons a xs => cases xs with
    | nil => rfl
    | cons b xs => cases xs with
      | nil => rfl
      | cons c xs =>
        show (match intsOf ((a :: b :: c :: xs).map enc) with | some (n :: ns) => some (D.int (maxI n ns)) | _ => none) = _
        rw [intsOf_enc]; rfl
theorem f_max {xs : List Int} {K : RV → M γ} {k : Int → Res α} (h : Has pn S e) (kr : ROk r o) (kk : ∀ v, Sm (K (.fz (.int v)) e) (k v) G X) (da : Dt S o (enc xs) := by first | exact .f | exact .v rfl | exact .vz rfl | exact .w | exact .y | exact .u rfl) : Sm (cbK maxD K [r] e) ((maxR xs).bind k) G X := by
  unfold cbK
  rw [(Dts.cons da .nil).view h (rs := [r]) ⟨kr, trivial⟩]
  show Sm (match maxD [.lst (xs.map enc)] with | some d => K (.fz d) e | none => .st) _ G X
  rw [maxD_enc]
  cases xs with
  | nil => first | trivial | exact ⟨trivial⟩
  | cons a xs => cases xs with
    | nil => exact kk _
    | cons b xs => cases xs with
      | nil => exact kk _
      | cons c xs => exact kk _
def lstK (K : RV → M γ) : List RV → M γ := fun rs e => match frzRs rs e with
  | some (ds, e') => if ds.length ≤ sizeLine then K (.own (.ol (fzs ds))) e' else .st
  | none => .st
def tupK (K : RV → M γ) : List RV → M γ := fun rs e => match frzRs rs e with
  | some (ds, e') => if ds.length ≤ sizeLine then K (.fz (.tup ds)) e' else .st
  | none => .st
theorem c_lst {a : M (List RV)} {K : RV → M γ} (k : Sm ((a e).bind (lstK K)) P G X) : Sm ((dLst a e).bind K) P G X := by
  have : (dLst a e).bind K = (a e).bind (lstK K) := by
    rw [ev_lst, rbind_assoc]
    congr 1; funext r e
    unfold lstK
    cases frzRs r e with
    | none => rfl
    | some x => simp only; split <;> rfl
  rw [this]; exact k
theorem c_tup {a : M (List RV)} {K : RV → M γ} (k : Sm ((a e).bind (tupK K)) P G X) : Sm ((dTup a e).bind K) P G X := by
  have : (dTup a e).bind K = (a e).bind (tupK K) := by
    unfold dTup
    rw [mbind, rbind_assoc]
    congr 1; funext r e
    unfold tupK
    cases frzRs r e with
    | none => rfl
    | some x => simp only; split <;> rfl
  rw [this]; exact k
theorem f_lst {rs : List RV} {os : List Opd} {ds : List D} {K : RV → M γ} (h : Has pn S e) (kr : ROks rs os) (da : Fzs S os ds S') (hl : ds.length ≤ 1000000) (k : ∀ r e', ROk r (.w ds) → Has pn S' e' → Sm (K r e') P G X) : Sm (lstK K rs e) P G X := by
  obtain ⟨e', h1, h2⟩ := da.frz h kr
  unfold lstK; rw [h1]; simp only
  rw [if_pos (size_ge (by omega))]
  exact k _ _ rfl h2
theorem f_tup {rs : List RV} {os : List Opd} {ds : List D} {K : RV → M γ} (h : Has pn S e) (kr : ROks rs os) (da : Fzs S os ds S') (hl : ds.length ≤ 1000000) (k : ∀ r e', ROk r (.f (.tup ds)) → Has pn S' e' → Sm (K r e') P G X) : Sm (tupK K rs e) P G X := by
  obtain ⟨e', h1, h2⟩ := da.frz h kr
  unfold tupK; rw [h1]; simp only
  rw [if_pos (size_ge (by omega))]
  exact k _ _ rfl h2
def slK (l h : M (Option Int)) (K : RV → M γ) : RV → M γ := fun r e => match frzR r e with
  | some (.lst ds, e1) => (l e1).bind fun lo e2 => (h e2).bind fun hi e3 => K (.own (.ol (fzs (cutD ds lo hi)))) e3
  | _ => .st
theorem c_sl {a : M RV} {l h : M (Option Int)} {K : RV → M γ} (k : Sm ((a e).bind (slK l h K)) P G X) : Sm ((dSl a l h e).bind K) P G X := by
  have : (dSl a l h e).bind K = (a e).bind (slK l h K) := by
    unfold dSl
    rw [mbind, rbind_assoc]
    congr 1; funext r e
    unfold slK
    cases frzR r e with
    | none => rfl
    | some p =>
      obtain ⟨d, e1⟩ := p
      cases d <;> first | rfl | (simp only [rbind_assoc]; rfl)
  rw [this]; exact k
theorem f_sl {ω : Type} [Enc ω] {xs : List ω} {ml mh : M (Option Int)} {lo hi : Option Int} {K : RV → M γ} (h : Has pn S e) (kr : ROk r o) (da : Fz S o (enc xs) S') (hl : PP pn S' ml lo) (hh : PP pn S' mh hi) (k : ∀ r e', ROk r (.w (encs (cutL xs lo hi))) → Has pn S' e' → Sm (K r e') P G X) : Sm (slK ml mh K r e) P G X := by
  obtain ⟨e', h1, h2⟩ := da.frz h kr
  unfold slK; rw [h1]
  show Sm ((ml e').bind _) P G X
  rw [hl e' h2, bind_ok, hh e' h2, bind_ok, cutD_enc]
  exact k _ _ rfl h2
def addK2 (ds : List D) (K : RV → M γ) : RV → M γ := fun q e2 => match frzR q e2 with
    | some (.lst es, e3) => if ds.length + es.length ≤ sizeLine then K (.own (.ol (fzs (ds ++ es)))) e3 else .st
    | _ => .st
def addK1 (b : M RV) (K : RV → M γ) : RV → M γ := fun r e => match frzR r e with
  | some (.lst ds, e1) => (b e1).bind (addK2 ds K)
  | _ => .st
theorem c_addL {a b : M RV} {K : RV → M γ} (k : Sm ((a e).bind (addK1 b K)) P G X) : Sm ((dAddL a b e).bind K) P G X := by
  have : (dAddL a b e).bind K = (a e).bind (addK1 b K) := by
    unfold dAddL
    rw [mbind, rbind_assoc]
    congr 1; funext r e
    unfold addK1
    cases frzR r e with
    | none => rfl
    | some p =>
      obtain ⟨d, e1⟩ := p
      cases d with
      | lst ds =>
        simp only [rbind_assoc]
        congr 1; funext q e2
        unfold addK2
        cases frzR q e2 with
        | none => rfl
        | some p =>
          obtain ⟨d, e3⟩ := p
          cases d with
          | lst es => simp only; split <;> rfl
          | _ => rfl
      | _ => rfl
  rw [this]; exact k
theorem f_addL1 {ω : Type} [Enc ω] {xs : List ω} {b : M RV} {K : RV → M γ} (h : Has pn S e) (kr : ROk r o) (da : Fz S o (enc xs) S') (k : ∀ e', Has pn S' e' → Sm ((b e').bind (addK2 (encs xs) K)) P G X) : Sm (addK1 b K r e) P G X := by
  obtain ⟨e', h1, h2⟩ := da.frz h kr
  unfold addK1; rw [h1]; exact k _ h2
theorem f_addL2 {ω : Type} [Enc ω] {xs ys : List ω} {K : RV → M γ} {k : List ω → Res α} (h : Has pn S e) (kr : ROk r o) (da : Fz S o (enc ys) S') (kk : ∀ v r e', ROk r (.w (encs v)) → Has pn S' e' → Sm (K r e') (k v) G X) : Sm (addK2 (encs xs) K r e) ((catR xs ys).bind k) G X := by
  obtain ⟨e', h1, h2⟩ := da.frz h kr
  unfold addK2; rw [h1]
  show Sm (if (encs xs).length + (encs ys).length ≤ sizeLine then K (.own (.ol (fzs (encs xs ++ encs ys)))) e' else .st) _ G X
  unfold catR
  simp only [encs, List.length_map, okLe_eq, decide_eq_true_eq]
  split
  · refine kk (xs ++ ys) _ e' ?_ h2
    simp [ROk]
  · first | trivial | exact ⟨trivial⟩
theorem rngD_enc (lo : Int) (n : Nat) : rngD lo n = (irng lo n).map enc := by
  unfold rngD irng
  rw [List.map_map]
  rfl
def appK (i : Nat) (K : RV → M γ) : RV → M γ := fun r e => match frzR r e with
    | some (d, e1) => (match e1.sl[i]? with
      | some (some (.ol xs)) => if xs.length < sizeLine then K (.fz .non) (e1.setS i (.ol (xs ++ [.fz d]))) else .st
      | _ => .st)
    | none => .st
theorem c_app {i : Nat} {ds : List D} {a : M RV} {K : RV → M γ} (h : Has pn S e) (hi : S[i]? = some (.ol ds)) (k : Sm ((a e).bind (appK i K)) P G X) : Sm ((dApp i a e).bind K) P G X := by
  obtain ⟨o, h1, h2⟩ := h.slot hi
  cases h2
  have : (dApp i a e).bind K = (a e).bind (appK i K) := by
    rw [ev_app, h1]
    simp only [rbind_assoc]
    congr 1; funext r e
    unfold appK
    cases frzR r e with
    | none => rfl
    | some p =>
      simp only
      cases p.2.sl[i]? with
      | none => rfl
      | some o => cases o with
        | none => rfl
        | some s => cases s <;> first | rfl | (simp only; split <;> rfl)
  rw [this]; exact k
theorem f_app {ω : Type} [Enc ω] {i : Nat} {xs : List ω} {v : ω} {K : RV → M γ} {k : List ω → Res α} (h : Has pn S e) (kr : ROk r o) (da : Fz S o (enc v) S') (hi : S'[i]? = some (.ol (encs xs))) (kk : ∀ v r e', ROk r (.f .non) → Has pn (S'.set i (.ol (encs v))) e' → Sm (K r e') (k v) G X) : Sm (appK i K r e) ((appR xs v).bind k) G X := by
  obtain ⟨e', h1, h2⟩ := da.frz h kr
  obtain ⟨o', h3, h4⟩ := h2.slot hi
  cases h4
  unfold appK appR
  rw [h1]
  simp only [h3, fzs_len, encs, List.length_map, okLt_eq, decide_eq_true_eq]
  split
  · refine kk (xs ++ [v]) _ _ rfl (h2.setS i ?_)
    simp [SD.ok, fzs]
  · first | trivial | exact ⟨trivial⟩
def itK (K : List D → M γ) : RV → M γ := fun r e => match frzR r e with
  | some (d, e1) => (match walk d with
    | some ds => K ds e1
    | none => .st)
  | none => .st
theorem c_it {a : M RV} {K : List D → M γ} (k : Sm ((a e).bind (itK K)) P G X) : Sm ((dIt a e).bind K) P G X := by
  have : (dIt a e).bind K = (a e).bind (itK K) := by
    rw [ev_it, rbind_assoc]
    congr 1; funext r e
    unfold itK
    cases frzR r e with
    | none => rfl
    | some p => simp only; cases walk p.1 <;> rfl
  rw [this]; exact k
theorem f_it {ω : Type} [Enc ω] {xs : List ω} {K : List D → M γ} (h : Has pn S e) (kr : ROk r o) (da : Fz S o (enc xs) S') (k : ∀ e', Has pn S' e' → Sm (K (xs.map enc) e') P G X) : Sm (itK K r e) P G X := by
  obtain ⟨e', h1, h2⟩ := da.frz h kr
  unfold itK; rw [h1]; exact k _ h2
def rg1K (K : List D → M γ) : List RV → M γ := fun rs e => match rs.mapM (view e) with
  | some ds => (match oneI ds with
    | some j => if small62 j = true then K (rngD 0 j.toNat) e else .st
    | none => .st)
  | none => .st
theorem c_rng1 {a : M (List RV)} {K : List D → M γ} (k : Sm ((a e).bind (rg1K K)) P G X) : Sm ((dRng1 a e).bind K) P G X := by
  have : (dRng1 a e).bind K = (a e).bind (rg1K K) := by
    rw [ev_rng1, rbind_assoc]
    congr 1; funext r e
    unfold rg1K
    cases r.mapM (view e) with
    | none => rfl
    | some ds => simp only; cases oneI ds with
      | none => rfl
      | some j => simp only; split <;> rfl
  rw [this]; exact k
theorem f_rng1 {j : Int} {K : List D → M γ} {k : List Int → Res α} (h : Has pn S e) (kr : ROk r o) (kk : ∀ v : List Int, Sm (K (v.map enc) e) (k v) G X) (da : Dt S o (.int j) := by first | exact .f | exact .u rfl) : Sm (rg1K K [r] e) ((rng1R j).bind k) G X := by
  unfold rg1K rng1R
  rw [(Dts.cons da .nil).view h (rs := [r]) ⟨kr, trivial⟩]
  simp only [oneI_int, ok62_eq]
  split
  · rw [rngD_enc]; exact kk _
  · first | trivial | exact ⟨trivial⟩
def rg2K (K : List D → M γ) : List RV → M γ := fun rs e => match rs.mapM (view e) with
  | some ds => (match twoI ds with
    | some (i, j) => if (small62 i && small62 j) = true then K (rngD i (j - i).toNat) e else .st
    | none => .st)
  | none => .st
theorem c_rng2 {a : M (List RV)} {K : List D → M γ} (k : Sm ((a e).bind (rg2K K)) P G X) : Sm ((dRng2 a e).bind K) P G X := by
  have : (dRng2 a e).bind K = (a e).bind (rg2K K) := by
    rw [ev_rng2, rbind_assoc]
    congr 1; funext r e
    unfold rg2K
    cases r.mapM (view e) with
    | none => rfl
    | some ds => simp only; cases twoI ds with
      | none => rfl
      | some j => simp only; split <;> rfl
  rw [this]; exact k
theorem f_rng2 {i j : Int} {K : List D → M γ} {k : List Int → Res α} (h : Has pn S e) (kr : ROk r o) (kq : ROk q ob) (kk : ∀ v : List Int, Sm (K (v.map enc) e) (k v) G X) (da : Dt S o (.int i) := by first | exact .f | exact .u rfl) (db : Dt S ob (.int j) := by first | exact .f | exact .u rfl) : Sm (rg2K K [r, q] e) ((rngR i j).bind k) G X := by
  unfold rg2K rngR
  rw [(Dts.cons da (.cons db .nil)).view h (rs := [r, q]) ⟨kr, kq, trivial⟩]
  simp only [twoI_int, ok62_eq]
  split
  · rw [rngD_enc]; exact kk _
  · first | trivial | exact ⟨trivial⟩
def enumK (K : List D → M γ) : List RV → M γ := fun rs e => match frzRs rs e with
  | some (ds, e1) => (match oneL ds with
    | some xs => K (enumD xs) e1
    | none => .st)
  | none => .st
theorem c_enum {a : M (List RV)} {K : List D → M γ} (k : Sm ((a e).bind (enumK K)) P G X) : Sm ((dEnum a e).bind K) P G X := by
  have : (dEnum a e).bind K = (a e).bind (enumK K) := by
    unfold dEnum
    rw [mbind, rbind_assoc]
    congr 1; funext r e
    unfold enumK
    cases frzRs r e with
    | none => rfl
    | some p => simp only; cases oneL p.1 <;> rfl
  rw [this]; exact k
theorem enumD_enc {ω : Type} [Enc ω] (xs : List ω) : enumD (xs.map enc) = (enumL xs).map enc := by
  unfold enumD enumL
  refine List.ext_getElem? fun n => ?_
  rw [List.getElem?_mapIdx, List.getElem?_map, List.getElem?_map, List.getElem?_mapIdx]
  cases xs[n]? <;> rfl
theorem f_enum {ω : Type} [Enc ω] {xs : List ω} {K : List D → M γ} (h : Has pn S e) (kr : ROk r o) (da : Fz S o (enc xs) S') (k : ∀ e', Has pn S' e' → Sm (K ((enumL xs).map enc) e') P G X) : Sm (enumK K [r] e) P G X := by
  obtain ⟨e', h1, h2⟩ := (Fzs.cons da .nil).frz h (rs := [r]) ⟨kr, trivial⟩
  unfold enumK; rw [h1]
  show Sm (K (enumD (xs.map enc)) e') P G X
  rw [enumD_enc]
  exact k _ h2
end
end VF
set_option maxRecDepth 100000
set_option maxHeartbeats 4000000
namespace VF
set_option autoImplicit false
open PySem L2
open Enc (enc)
section
variable {α β γ δ σ τ ω ψ : Type} {pn : List Nat} {S S' S1 S2 : List SD} {e : Env} {X : Exc → Env → Prop} {P : Res α} {G : α → γ → Env → Prop} {r q : RV} {o oa ob oc : Opd} {d x y z : D}
def TG (pn : List Nat) (S : List SD) (g : Tg) (d : D) (S' : List SD) : Prop := ∀ e, Has pn S e → ∃ e', g d e = some e' ∧ Has pn S' e'
def TGs (pn : List Nat) (S : List SD) (g : Tgs) (ds : List D) (S' : List SD) : Prop := ∀ e, Has pn S e → ∃ e', g ds e = some e' ∧ Has pn S' e'
theorem tg_n {i : Nat} (hi : i ∉ pn := by decide) : TG pn S (gN i) d (S.set i (.fz d)) := fun e h => St.put (o := .f d) (r := .fz d) h rfl .f hi
theorem tgs_no : TGs pn S gNo [] S := fun e h => ⟨e, rfl, h⟩
theorem tgs_co {g : Tg} {g' : Tgs} {ds : List D} (h1 : TG pn S g d S1) (h2 : TGs pn S1 g' ds S2) : TGs pn S (gCo g g') (d :: ds) S2 := fun e h => by
  obtain ⟨e1, k1, k2⟩ := h1 e h
  obtain ⟨e2, k3, k4⟩ := h2 e1 k2
  exact ⟨e2, by unfold gCo; simp only [k1, k3], k4⟩
theorem tg_tup {n : Nat} {g : Tgs} {ds : List D} (h : TGs pn S g ds S') (hn : ds.length = n := by rfl) : TG pn S (gTp n g) (.tup ds) S' := fun e he => by
  obtain ⟨e', k1, k2⟩ := h e he
  exact ⟨e', by unfold gTp; simp only [hn, if_true, k1], k2⟩
def forK (g : Tg) (body : M Fl) (K : Fl → M γ) : List D → M γ := fun ds e => (loopF g body ds e).bind K
theorem c_for {it : M (List D)} {g : Tg} {body : M Fl} {K : Fl → M γ} (k : Sm ((it e).bind (forK g body K)) P G X) : Sm ((dFor it g body e).bind K) P G X := by
  have : (dFor it g body e).bind K = (it e).bind (forK g body K) := by
    unfold dFor
    rw [mbind, rbind_assoc]
    rfl
  rw [this]; exact k
def GB (pn : List Nat) (I : σ → List SD) (K : Fl → M γ) (G : α → γ → Env → Prop) (X : Exc → Env → Prop) : Lp σ α → Fl → Env → Prop
  | .go s, f, e => (f = .nx ∨ f = .ct) ∧ Has pn (I s) e
  | .bk s, f, e => f = .bk ∧ Has pn (I s) e
  | .out t, f, e => (∃ r, f = .rt r) ∧ Sm (K f e) (.ok t) G X
theorem loopF_cons {g : Tg} {body : M Fl} {ds : List D} : loopF g body (d :: ds) e = match g d e with
    | none => R.st
    | some e1 => (body e1).bind fun f e2 => match f with
      | .nx => loopF g body ds e2
      | .ct => loopF g body ds e2
      | .bk => .ok .nx e2
      | .rt r => .ok (.rt r) e2 := by
  show (match g d e with
      | none => R.st
      | some e1 => (match body e1 with
        | .ok .nx e2 => loopF g body ds e2
        | .ok .ct e2 => loopF g body ds e2
        | .ok .bk e2 => .ok .nx e2
        | .ok (.rt r) e2 => .ok (.rt r) e2
        | .ex x e2 => .ex x e2
        | .st => .st)) = _
  cases g d e with
  | none => rfl
  | some e1 =>
    simp only
    cases body e1 with
    | st => rfl
    | ok f e2 => cases f <;> rfl
    | ex x e2 => rfl
theorem f_for [Enc ω] {xs : List ω} {g : Tg} {body : M Fl} {f : ω → σ → Res (Lp σ α)} {k : σ → Res α} {K : Fl → M γ} {I1 : ω → σ → List SD} (I : σ → List SD) (tg : ∀ x s, TG pn (I s) g (enc x) (I1 x s))
    (step : ∀ x s e, Has pn (I1 x s) e → Sm ((body e).bind okK) (f x s) (GB pn I K G X) X) (kk : ∀ s e', Has pn (I s) e' → Sm (K .nx e') (k s) G X) : ∀ {s0 : σ} {S : List SD} {e : Env}, Has pn S e → (w : W S (I s0) := by first | exact W.refl _ | (repeat (first | exact W.nil | refine W.rf ?_ | refine W.cz ?_ | refine W.cc ?_ | refine W.vz ?_ | refine W.vo ?_ | refine W.an ?_))) → Sm (forK g body K (xs.map enc) e) (forR f xs s0 k) G X := by
  have main : ∀ (xs : List ω) (s0 : σ) (e : Env), Has pn (I s0) e → Sm (forK g body K (xs.map enc) e) (forR f xs s0 k) G X := by
    intro xs
    induction xs with
    | nil => intro s0 e h; exact kk _ _ h
    | cons x xs ih =>
      intro s0 e h
      obtain ⟨e1, h1, h2⟩ := tg x s0 e h
      show Sm ((loopF g body (enc x :: xs.map enc) e).bind K) _ G X
      rw [loopF_cons, h1]
      simp only
      rw [rbind_assoc]
      unfold forR
      refine (step x s0 e1 h2).top.bind fun l fl e2 hj => ?_
      cases l with
      | go s =>
        obtain ⟨h3, h4⟩ := hj
        rcases h3 with rfl | rfl <;> exact ih s e2 h4
      | bk s =>
        obtain ⟨rfl, h4⟩ := hj
        exact kk s e2 h4
      | out t =>
        obtain ⟨⟨r, rfl⟩, h4⟩ := hj
        exact h4
  intro s0 S e h w
  exact main xs s0 e (h.weak w)
def Jc (pn : List Nat) (I : σ → List SD) : σ → Fl → Env → Prop := fun s f e => (f = .nx ∨ f = .ct) ∧ Has pn (I s) e
theorem f_fold [Enc ω] {xs : List ω} {g : Tg} {body : M Fl} {f : ω → σ → Res σ} {k : σ → Res α} {K : Fl → M γ} {I1 : ω → σ → List SD} (I : σ → List SD) (tg : ∀ x s, TG pn (I s) g (enc x) (I1 x s))
    (step : ∀ x s e, Has pn (I1 x s) e → Sm ((body e).bind okK) (f x s) (Jc pn I) X) (kk : ∀ s e', Has pn (I s) e' → Sm (K .nx e') (k s) G X) : ∀ {s0 : σ} {S : List SD} {e : Env}, Has pn S e → (w : W S (I s0) := by first | exact W.refl _ | (repeat (first | exact W.nil | refine W.rf ?_ | refine W.cz ?_ | refine W.cc ?_ | refine W.vz ?_ | refine W.vo ?_ | refine W.an ?_))) → Sm (forK g body K (xs.map enc) e) ((foldR f xs s0).bind k) G X := by
  have main : ∀ (xs : List ω) (s0 : σ) (e : Env), Has pn (I s0) e → Sm (forK g body K (xs.map enc) e) ((foldR f xs s0).bind k) G X := by
    intro xs
    induction xs with
    | nil => intro s0 e h; exact kk _ _ h
    | cons x xs ih =>
      intro s0 e h
      obtain ⟨e1, h1, h2⟩ := tg x s0 e h
      show Sm ((loopF g body (enc x :: xs.map enc) e).bind K) _ G X
      rw [loopF_cons, h1]
      simp only
      rw [rbind_assoc]
      unfold foldR
      rw [Res.bind_assoc]
      refine (step x s0 e1 h2).top.bind fun s fl e2 hj => ?_
      obtain ⟨h3, h4⟩ := hj
      rcases h3 with rfl | rfl <;> exact ih s e2 h4
  intro s0 S e h w
  exact main xs s0 e (h.weak w)
theorem f_jc {I : σ → List SD} {s : σ} (h : Has pn S e) (w : W S (I s) := by first | exact W.refl _ | (repeat (first | exact W.nil | refine W.rf ?_ | refine W.cz ?_ | refine W.cc ?_ | refine W.vz ?_ | refine W.vo ?_ | refine W.an ?_))) : Sm (okK Fl.nx e) (.ok s) (Jc pn I) X := ⟨.nx, e, rfl, .inl rfl, h.weak w⟩
theorem f_go {I : σ → List SD} {K : Fl → M γ} {s : σ} (h : Has pn S e) (w : W S (I s) := by first | exact W.refl _ | (repeat (first | exact W.nil | refine W.rf ?_ | refine W.cz ?_ | refine W.cc ?_ | refine W.vz ?_ | refine W.vo ?_ | refine W.an ?_))) : Sm (okK Fl.nx e) (.ok (.go s)) (GB pn I K G X) X := ⟨.nx, e, rfl, .inl rfl, h.weak w⟩
theorem f_out {I : σ → List SD} {K : Fl → M γ} {t : α} (k : Sm (K (.rt r) e) (.ok t) G X) : Sm (okK (Fl.rt r) e) (.ok (.out t)) (GB pn I K G X) X := ⟨.rt r, e, rfl, ⟨r, rfl⟩, k⟩
def wipeS : List Nat → List SD → List SD
  | [], S => S
  | v :: vs, S => (wipeS vs S).set v .clr
theorem wipe_has (h : Has pn S e) : ∀ own, Has pn (wipeS own S) (wipeE own e)
  | [] => h
  | v :: vs => (wipe_has h vs).clr v
def cfS : SD → Bool
  | .fz _ => true
  | .clr => true
  | .cf => true
  | _ => false
def restS : List Nat → List SD → List SD → List SD
  | [], _, T => T
  | v :: vs, S, T => match S[v]? with
    | some s => restS vs S (T.set v s)
    | none => T
def restB : List Nat → List SD → List SD → Bool
  | [], _, _ => true
  | v :: vs, S, T => !vs.contains v && (match S[v]? with
    | some s => cfS s && (match T[v]? with
      | some .clr => restB vs S (T.set v s)
      | _ => false)
    | none => false)
theorem rest_has {e0 : Env} (h0 : Has pn S e0) : ∀ (own : List Nat) {T : List SD} {e : Env}, restB own S T = true → Has pn T e → ∃ e', restE own e0 e = some e' ∧ Has pn (restS own S T) e'
  | [], T, e, _, h => ⟨e, rfl, h⟩
  | v :: vs, T, e, hb, h => by
    unfold restB at hb
    rw [Bool.and_eq_true] at hb
    obtain ⟨b1, b2⟩ := hb
    cases q : S[v]? with
    | none => rw [q] at b2; cases b2
    | some s =>
      rw [q] at b2
      simp only [Bool.and_eq_true] at b2
      obtain ⟨b3, b4⟩ := b2
      cases q2 : T[v]? with
      | none => rw [q2] at b4; cases b4
      | some t =>
        rw [q2] at b4
        cases t with
        | clr =>
          simp only at b4
          obtain ⟨o, h1, h2⟩ := h0.slot q
          obtain ⟨o2, h3, h4⟩ := h.slot q2
          cases h4
          have hc : isClr e v = true := by unfold isClr; rw [h3]
          have hcont : vs.contains v = false := by simpa using b1
          have two : o = none ∨ ∃ d, o = some (.fz d) := by
            cases s with
            | fz d => exact .inr ⟨d, h2⟩
            | clr => exact .inl h2
            | cf => exact h2
            | _ => cases b3
          rcases two with rfl | ⟨d, rfl⟩
          · have h5 : Has pn (T.set v s) e := ⟨h.pn, by
              have := h.sl.set v h2
              rwa [show e.sl.set v none = e.sl from List.ext_getElem? fun n => by
                rw [List.getElem?_set]; split
                · rename_i c; subst c; split
                  · exact h3.symm
                  · rename_i hh; exact (List.getElem?_eq_none (by omega)).symm
                · rfl] at this⟩
            obtain ⟨e', k1, k2⟩ := rest_has h0 vs b4 h5
            refine ⟨e', ?_, by unfold restS; rw [q]; exact k2⟩
            unfold restE
            rw [if_neg (by rw [hcont]; decide), if_pos hc, h1]
            exact k1
          · have h5 : Has pn (T.set v s) (e.setS v (.fz d)) := h.setS v h2
            obtain ⟨e', k1, k2⟩ := rest_has h0 vs b4 h5
            refine ⟨e', ?_, by unfold restS; rw [q]; exact k2⟩
            unfold restE
            rw [if_neg (by rw [hcont]; decide), if_pos hc, h1]
            exact k1
        | _ => cases b4
def compK (own : List Nat) (g : Tg) (tt : M Bool) (te : M RV) (K : RV → M γ) : List D → M γ := fun ds e0 => if noPn own e0 = true then (match loopC own g tt te ds [] (wipeE own e0) with
  | .ok acc e1 => (match restE own e0 e1 with
    | some e2 => K (.own (.ol (fzs acc))) e2
    | none => .st)
  | _ => .st) else .st
theorem c_comp {own : List Nat} {it : M (List D)} {g : Tg} {tt : M Bool} {te : M RV} {K : RV → M γ} (k : Sm ((it e).bind (compK own g tt te K)) P G X) : Sm ((dComp own it g tt te e).bind K) P G X := by
  have : (dComp own it g tt te e).bind K = (it e).bind (compK own g tt te K) := by
    unfold dComp
    rw [mbind, rbind_assoc]
    congr 1; funext ds e0
    unfold compK
    split
    · cases loopC own g tt te ds [] (wipeE own e0) with
      | st => rfl
      | ok acc e1 => simp only; cases restE own e0 e1 <;> rfl
      | ex x e1 => rfl
    · rfl
  rw [this]; exact k
def cmpK (te : M RV) (K : Option RV → M γ) : Bool → M γ := fun b e => match b with
  | true => (te e).bind fun r e => K (some r) e
  | false => K none e
def GC [Enc ψ] (pn : List Nat) (own : List Nat) (I : σ → List SD) : (Option ψ × σ) → Option RV → Env → Prop
  | (some v, s), some r, e => ∃ o S2 S3, Has pn S2 e ∧ ROk r o ∧ Fz S2 o (enc v) S3 ∧ W (wipeS own S3) (I s)
  | (none, s), none, e => ∃ S2, Has pn S2 e ∧ W (wipeS own S2) (I s)
  | _, _, _ => False
theorem noPn_of {own : List Nat} (h : Has pn S e) (hp : (own.all fun v => !pn.contains v) = true) : noPn own e = true := by
  unfold noPn; rw [h.pn]; exact hp
theorem comp_go [Enc ω] [Enc ψ] {own : List Nat} {g : Tg} {tt : M Bool} {te : M RV} {f : ω → σ → Res (Option ψ × σ)} {I1 : ω → σ → List SD} {X' : Exc → Env → Prop} (I : σ → List SD) (hp : (own.all fun v => !pn.contains v) = true) (tg : ∀ x s, TG pn (I s) g (enc x) (I1 x s))
    (step : ∀ x s e, Has pn (I1 x s) e → Sm ((tt e).bind (cmpK te okK)) (f x s) (GC pn own I) X') : ∀ (xs : List ω) (s : σ) (acc : List ψ) (e : Env) ys s', Has pn (I s) e → acc.length + xs.length ≤ sizeLine → compGo f xs s acc = .ok (ys, s') → ∃ e', loopC own g tt te (xs.map enc) (acc.map enc) e = .ok (ys.map enc) e' ∧ Has pn (I s') e'
  | [], s, acc, e, ys, s', h, _, q => by cases q; exact ⟨e, rfl, h⟩
  | x :: xs, s, acc, e, ys, s', h, hl, q => by
    obtain ⟨e1, h1, h2⟩ := tg x s e h
    have st := step x s e1 h2
    rw [List.length_cons] at hl
    show ∃ e', loopC own g tt te (enc x :: xs.map enc) (acc.map enc) e = _ ∧ _
    unfold compGo at q
    unfold loopC
    simp only [h1]
    cases z : f x s with
    | st => rw [z] at q; cases q
    | ex x' => rw [z] at q; cases q
    | ok p =>
      rw [z] at q st
      obtain ⟨b, e4, h4, h5⟩ := st
      cases z2 : tt e1 with
      | st => rw [z2] at h4; cases h4
      | ex x' e5 => rw [z2] at h4; cases h4
      | ok t e2 =>
        rw [z2, bind_ok] at h4
        cases t with
        | false =>
          have h4' : okK (none : Option RV) e2 = .ok b e4 := h4
          cases h4'
          obtain ⟨o, s1⟩ := p
          cases o with
          | some v => exact h5.elim
          | none =>
            obtain ⟨S2, k1, k2⟩ := h5
            simp only at q ⊢
            rw [if_pos (noPn_of k1 hp)]
            exact comp_go I hp tg step xs s1 acc _ ys s' ((wipe_has k1 own).weak k2) (by omega) q
        | true =>
          have h4' : ((te e2).bind fun r e => okK (some r) e) = .ok b e4 := h4
          cases z3 : te e2 with
          | st => rw [z3] at h4'; cases h4'
          | ex x' e5 => rw [z3] at h4'; cases h4'
          | ok r e3 =>
            rw [z3, bind_ok] at h4'
            cases h4'
            obtain ⟨o, s1⟩ := p
            cases o with
            | none => exact h5.elim
            | some v =>
              obtain ⟨oo, S2, S3, k1, k2, k3, k4⟩ := h5
              obtain ⟨e5, k5, k6⟩ := k3.frz k1 k2
              simp only [z3, k5] at q ⊢
              rw [if_pos (by rw [noPn_of k6 hp, Bool.and_true]; exact decide_eq_true (by rw [List.length_map]; omega))]
              have := comp_go I hp tg step xs s1 (acc ++ [v]) _ ys s' ((wipe_has k6 own).weak k4) (by rw [List.length_append, List.length_singleton]; omega) q
              rwa [List.map_append] at this
theorem f_filS [Enc ω] [Enc ψ] {own : List Nat} {xs : List ω} {g : Tg} {tt : M Bool} {te : M RV} {f : ω → σ → Res (Option ψ × σ)} {I1 : ω → σ → List SD} {K : RV → M γ} {k : List ψ × σ → Res α} {s0 : σ} (I : σ → List SD) (h : Has pn S e) (w : W (wipeS own S) (I s0)) (tg : ∀ x s, TG pn (I s) g (enc x) (I1 x s))
    (step : ∀ x s e, Has pn (I1 x s) e → Sm ((tt e).bind (cmpK te okK)) (f x s) (GC pn own I) fun _ _ => True) (J : σ → List SD) (kk : ∀ ys s r e', ROk r (.w (encs ys)) → Has pn (J s) e' → Sm (K r e') (k (ys, s)) G X)
    (hp : (own.all fun v => !pn.contains v) = true := by decide) (hr : ∀ s, restB own S (I s) = true := by intro _; rfl) (hw : ∀ s, W (restS own S (I s)) (J s) := by exact fun _ => W.refl _) : Sm (compK own g tt te K (xs.map enc) e) ((filS f xs s0).bind k) G X := by
  unfold filS
  rw [okLe_eq]
  split
  · rename_i hz
    rw [decide_eq_true_iff] at hz
    cases q : compGo f xs s0 [] with
    | st => first | trivial | exact ⟨trivial⟩
    | ex x =>
      exfalso
      have : ∀ (xs : List ω) (s : σ) (acc : List ψ) x, compGo f xs s acc ≠ .ex x := by
        intro xs
        induction xs with
        | nil => intro s acc x h; cases h
        | cons y ys ih =>
          intro s acc x h
          unfold compGo at h
          split at h
          · exact ih _ _ _ h
          · exact ih _ _ _ h
          · cases h
      exact this _ _ _ _ q
    | ok p =>
      obtain ⟨ys, s'⟩ := p
      obtain ⟨e1, h1, h2⟩ := comp_go I hp tg step xs s0 [] _ ys s' ((wipe_has h own).weak w) (by simpa using hz) q
      obtain ⟨e2, h3, h4⟩ := rest_has h own (hr s') h2
      unfold compK
      rw [if_pos (noPn_of h hp)]
      have h1' : loopC own g tt te (xs.map enc) [] (wipeE own e) = .ok (ys.map enc) e1 := h1
      rw [h1']
      simp only [h3]
      exact kk ys s' _ e2 rfl (h4.weak (hw s'))
  · first | trivial | exact ⟨trivial⟩
def GE [Enc ψ] (pn : List Nat) (own : List Nat) (I : List SD) : ψ → RV → Env → Prop := fun v r e => ∃ o S2 S3, Has pn S2 e ∧ ROk r o ∧ Fz S2 o (enc v) S3 ∧ W (wipeS own S3) I
def GEo [Enc ψ] (pn : List Nat) (own : List Nat) (I : List SD) : Option ψ → Option RV → Env → Prop
  | some v, some r, e => ∃ o S2 S3, Has pn S2 e ∧ ROk r o ∧ Fz S2 o (enc v) S3 ∧ W (wipeS own S3) I
  | none, none, e => ∃ S2, Has pn S2 e ∧ W (wipeS own S2) I
  | _, _, _ => False
def GEs [Enc ψ] (pn : List Nat) (own : List Nat) (I : σ → List SD) : ψ × σ → RV → Env → Prop := fun v r e => ∃ o S2 S3, Has pn S2 e ∧ ROk r o ∧ Fz S2 o (enc v.1) S3 ∧ W (wipeS own S3) (I v.2)
theorem f_el [Enc ψ] {own : List Nat} {I S3 : List SD} {v : ψ} (h : Has pn S e) (kr : ROk r o) (da : Fz S o (enc v) S3 := by first | exact .f | exact .w | exact .y | exact .v rfl | exact .vz rfl | exact .u rfl) (w : W (wipeS own S3) I := by first | exact W.refl _ | (repeat (first | exact W.nil | refine W.rf ?_ | refine W.cz ?_ | refine W.cc ?_ | refine W.vz ?_ | refine W.vo ?_ | refine W.an ?_))) : Sm (okK r e) (.ok v) (GE pn own I) X := ⟨r, e, rfl, o, S, S3, h, kr, da, w⟩
theorem f_elS [Enc ψ] {own : List Nat} {I : σ → List SD} {S3 : List SD} {v : ψ} {s : σ} (h : Has pn S e) (kr : ROk r o) (da : Fz S o (enc v) S3 := by first | exact .f | exact .w | exact .y | exact .v rfl | exact .vz rfl | exact .u rfl) (w : W (wipeS own S3) (I s) := by first | exact W.refl _ | (repeat (first | exact W.nil | refine W.rf ?_ | refine W.cz ?_ | refine W.cc ?_ | refine W.vz ?_ | refine W.vo ?_ | refine W.an ?_))) : Sm (okK r e) (.ok (v, s)) (GEs pn own I) X := ⟨r, e, rfl, o, S, S3, h, kr, da, w⟩
def someK (K : Option RV → M γ) : RV → M γ := fun r e => K (some r) e
theorem f_cmp' {te : M RV} {K : Option RV → M γ} {c : Bool} {P1 P2 : Res α} (k1 : c = true → Sm ((te e).bind (someK K)) P1 G X) (k2 : c = false → Sm (K none e) P2 G X) : Sm (cmpK te K c e) (if c = true then P1 else P2) G X := by
  cases c with
  | true => exact k1 rfl
  | false => exact k2 rfl
theorem f_elo [Enc ψ] {own : List Nat} {I S3 : List SD} {v : ψ} (h : Has pn S e) (kr : ROk r o) (da : Fz S o (enc v) S3 := by first | exact .f | exact .w | exact .y | exact .v rfl | exact .vz rfl | exact .u rfl) (w : W (wipeS own S3) I := by first | exact W.refl _ | (repeat (first | exact W.nil | refine W.rf ?_ | refine W.cz ?_ | refine W.cc ?_ | refine W.vz ?_ | refine W.vo ?_ | refine W.an ?_))) : Sm (someK okK r e) (.ok (some v)) (GEo pn own I) X := ⟨some r, e, rfl, o, S, S3, h, kr, da, w⟩
theorem f_elno [Enc ψ] {own : List Nat} {I : List SD} (h : Has pn S e) (w : W (wipeS own S) I := by first | exact W.refl _ | (repeat (first | exact W.nil | refine W.rf ?_ | refine W.cz ?_ | refine W.cc ?_ | refine W.vz ?_ | refine W.vo ?_ | refine W.an ?_))) : Sm (okK (none : Option RV) e) (.ok (none : Option ψ)) (GEo pn own I) X := ⟨none, e, rfl, S, h, w⟩
theorem f_mapS [Enc ω] [Enc ψ] {own : List Nat} {xs : List ω} {g : Tg} {te : M RV} {f : ω → σ → Res (ψ × σ)} {I1 : ω → σ → List SD} {K : RV → M γ} {k : List ψ × σ → Res α} {s0 : σ} (I : σ → List SD) (h : Has pn S e) (w : W (wipeS own S) (I s0)) (tg : ∀ x s, TG pn (I s) g (enc x) (I1 x s))
    (step : ∀ x s e, Has pn (I1 x s) e → Sm ((te e).bind okK) (f x s) (GEs pn own I) fun _ _ => True) (J : σ → List SD) (kk : ∀ ys s r e', ROk r (.w (encs ys)) → Has pn (J s) e' → Sm (K r e') (k (ys, s)) G X)
    (hp : (own.all fun v => !pn.contains v) = true := by decide) (hr : ∀ s, restB own S (I s) = true := by intro _; rfl) (hw : ∀ s, W (restS own S (I s)) (J s) := by exact fun _ => W.refl _) : Sm (compK own g dYes te K (xs.map enc) e) ((mapS f xs s0).bind k) G X := by
  refine f_filS I h w tg (fun x s e he => ?_) J kk hp hr hw
  show Sm ((te e).bind fun r e => okK (some r) e) _ _ _
  refine (step x s e he).top.bind fun p r e' hj => ?_
  obtain ⟨o, S2, S3, k1, k2, k3, k4⟩ := hj
  exact ⟨some r, e', rfl, o, S2, S3, k1, k2, k3, k4⟩
theorem f_filC [Enc ω] [Enc ψ] {own : List Nat} {xs : List ω} {g : Tg} {tt : M Bool} {te : M RV} {f : ω → Res (Option ψ)} {I1 : ω → List SD} {K : RV → M γ} {k : List ψ → Res α} (h : Has pn S e) (tg : ∀ x, TG pn (wipeS own S) g (enc x) (I1 x))
    (step : ∀ x e, Has pn (I1 x) e → Sm ((tt e).bind (cmpK te okK)) (f x) (GEo pn own (wipeS own S)) fun _ _ => True) (kk : ∀ ys r e', ROk r (.w (encs ys)) → Has pn S e' → Sm (K r e') (k ys) G X)
    (hp : (own.all fun v => !pn.contains v) = true := by decide) (hr : restB own S (wipeS own S) = true := by rfl) (hw : W (restS own S (wipeS own S)) S := by exact W.refl _) : Sm (compK own g tt te K (xs.map enc) e) ((filC f xs).bind k) G X := by
  unfold filC
  rw [Res.bind_assoc]
  have w : ∀ S : List SD, W S S := fun S => by induction S with
    | nil => exact .nil
    | cons s S ih => exact .rf ih
  refine f_filS (σ := Unit) (I1 := fun x _ => I1 x) (fun _ => wipeS own S) h (w _) (fun x _ => tg x) (fun x s e he => ?_) (fun _ => S) (fun ys s r e' kr he => kk ys r e' kr he) hp (fun _ => hr) (fun _ => hw)
  have := step x e he
  cases z : f x with
  | st => first | trivial | exact ⟨trivial⟩
  | ex x' => rw [z] at this; exact ⟨this.run⟩
  | ok o =>
    rw [z] at this
    obtain ⟨b, e', h1, h2⟩ := this
    refine ⟨b, e', h1, ?_⟩
    cases o with
    | none => cases b with
      | none => exact h2
      | some r => exact h2.elim
    | some v => cases b with
      | none => exact h2.elim
      | some r => exact h2
theorem f_mapC [Enc ω] [Enc ψ] {own : List Nat} {xs : List ω} {g : Tg} {te : M RV} {f : ω → Res ψ} {I1 : ω → List SD} {K : RV → M γ} {k : List ψ → Res α} (h : Has pn S e) (tg : ∀ x, TG pn (wipeS own S) g (enc x) (I1 x))
    (step : ∀ x e, Has pn (I1 x) e → Sm ((te e).bind okK) (f x) (GE pn own (wipeS own S)) fun _ _ => True) (kk : ∀ ys r e', ROk r (.w (encs ys)) → Has pn S e' → Sm (K r e') (k ys) G X)
    (hp : (own.all fun v => !pn.contains v) = true := by decide) (hr : restB own S (wipeS own S) = true := by rfl) (hw : W (restS own S (wipeS own S)) S := by exact W.refl _) : Sm (compK own g dYes te K (xs.map enc) e) ((mapC f xs).bind k) G X := by
  unfold mapC
  refine f_filC h tg (fun x e he => ?_) kk hp hr hw
  show Sm ((te e).bind fun r e => okK (some r) e) _ _ _
  refine (step x e he).top.bind fun p r e' hj => ?_
  obtain ⟨o, S2, S3, k1, k2, k3, k4⟩ := hj
  exact ⟨some r, e', rfl, o, S2, S3, k1, k2, k3, k4⟩
inductive Ld : List SD → List Bool → List Opd → List SV → List SD → Prop
  | nil {S : List SD} : Ld S [] [] [] S
  | f {S S1 S2 : List SD} {md : List Bool} {o : Opd} {os : List Opd} {d : D} {ss : List SV} : Fz S o d S1 → Ld S1 md os ss S2 → Ld S (false :: md) (o :: os) (.fz d :: ss) S2
  | t {S S2 : List SD} {md : List Bool} {i : Nat} {os : List Opd} {ds : List D} {ss : List SV} : S[i]? = some (.ol ds) → Ld (S.set i .clr) md os ss S2 → Ld S (true :: md) (.v i :: os) (.ol (fzs ds) :: ss) S2
  | x {S S2 : List SD} {md : List Bool} {i : Nat} {os : List Opd} {s : SV} {ss : List SV} : S[i]? = some (.x s) → Ld (S.set i .clr) md os ss S2 → Ld S (true :: md) (.v i :: os) (s :: ss) S2
theorem Ld.load {md : List Bool} {os : List Opd} {ss : List SV} (q : Ld S md os ss S') : ∀ {e : Env} {rs : List RV}, Has pn S e → ROks rs os → ∃ e', load md rs e = some (ss, e') ∧ Has pn S' e' := by
  induction q with
  | nil => intro e rs h k; cases rs with
    | nil => exact ⟨e, rfl, h⟩
    | cons _ _ => exact k.elim
  | f q1 q2 ih => intro e rs h k; cases rs with
    | nil => exact k.elim
    | cons r rs =>
      obtain ⟨e1, h1, h2⟩ := q1.frz h k.1
      obtain ⟨e2, h3, h4⟩ := ih h2 k.2
      exact ⟨e2, by unfold VF.load loadOne; simp only [h1, h3], h4⟩
  | t q1 q2 ih => intro e rs h k; cases rs with
    | nil => exact k.elim
    | cons r rs =>
      obtain ⟨k1, k2⟩ := k
      cases k1
      obtain ⟨o, h1, h2⟩ := h.slot q1
      cases h2
      obtain ⟨e2, h3, h4⟩ := ih (h.clr _) k2
      exact ⟨e2, by unfold VF.load loadOne; simp only [h1, h3], h4⟩
  | x q1 q2 ih => intro e rs h k; cases rs with
    | nil => exact k.elim
    | cons r rs =>
      obtain ⟨k1, k2⟩ := k
      cases k1
      obtain ⟨o, h1, h2⟩ := h.slot q1
      cases h2
      obtain ⟨e2, h3, h4⟩ := ih (h.clr _) k2
      exact ⟨e2, by unfold VF.load loadOne; simp only [h1, h3], h4⟩
inductive Ul : List SD → List Bool → List Opd → List SV → List SD → Prop
  | nil {S : List SD} : Ul S [] [] [] S
  | f {S S2 : List SD} {md : List Bool} {o : Opd} {os : List Opd} {s : SV} {ss : List SV} : Ul S md os ss S2 → Ul S (false :: md) (o :: os) (s :: ss) S2
  | t {S S2 : List SD} {md : List Bool} {i : Nat} {os : List Opd} {ds : List D} {ss : List SV} : S[i]? = some .clr → Ul (S.set i (.ol ds)) md os ss S2 → Ul S (true :: md) (.v i :: os) (.ol (fzs ds) :: ss) S2
  | x {S S2 : List SD} {md : List Bool} {i : Nat} {os : List Opd} {s : SV} {ss : List SV} : S[i]? = some .clr → Ul (S.set i (.x s)) md os ss S2 → Ul S (true :: md) (.v i :: os) (s :: ss) S2
theorem Ul.unload {md : List Bool} {os : List Opd} {ss : List SV} (q : Ul S md os ss S') : ∀ {e : Env} {rs : List RV}, Has pn S e → ROks rs os → ∃ e', unload md rs ss e = some e' ∧ Has pn S' e' := by
  induction q with
  | nil => intro e rs h k; cases rs with
    | nil => exact ⟨e, rfl, h⟩
    | cons _ _ => exact k.elim
  | f q2 ih => intro e rs h k; cases rs with
    | nil => exact k.elim
    | cons r rs =>
      obtain ⟨e2, h3, h4⟩ := ih h k.2
      exact ⟨e2, by rw [ul_false]; exact h3, h4⟩
  | t q1 q2 ih => intro e rs h k; cases rs with
    | nil => exact k.elim
    | cons r rs =>
      obtain ⟨k1, k2⟩ := k
      cases k1
      obtain ⟨o, h1, h2⟩ := h.slot q1
      cases h2
      obtain ⟨e2, h3, h4⟩ := ih (h.setS _ (s := .ol _) rfl) k2
      refine ⟨e2, ?_, h4⟩
      rw [ul_true]
      rw [if_pos (by unfold isClr; rw [h1])]
      exact h3
  | x q1 q2 ih => intro e rs h k; cases rs with
    | nil => exact k.elim
    | cons r rs =>
      obtain ⟨k1, k2⟩ := k
      cases k1
      obtain ⟨o, h1, h2⟩ := h.slot q1
      cases h2
      obtain ⟨e2, h3, h4⟩ := ih (h.setS _ (s := .x _) rfl) k2
      refine ⟨e2, ?_, h4⟩
      rw [ul_true]
      rw [if_pos (by unfold isClr; rw [h1])]
      exact h3
def FSD (rz : Bool) (φr : FR) (p : Res τ) (ro : τ → SV) (au : τ → List SV) : Prop := match p with
  | .st => True
  | .ok t => φr = .ok (ro t) (au t)
  | .ex x => rz = true ∧ ∃ as, φr = .ex x as
structure FS (rz : Bool) (φr : FR) (p : Res τ) (ro : τ → SV) (au : τ → List SV) : Prop where
  run : FSD rz φr p ro au
def callK (md : List Bool) (φ : Fn) (K : RV → M γ) : List RV → M γ := fun rs e => match load md rs e with
  | some (ss, e1) => (match φ ss with
    | .st => .st
    | .ok r ss' => (match unload md rs ss' e1 with
      | some e2 => K (svR r) e2
      | none => .st)
    | .ex x ss' => (match unload md rs ss' e1 with
      | some e2 => .ex x e2
      | none => .st))
  | none => .st
theorem c_call {md : List Bool} {φ : Fn} {a : M (List RV)} {K : RV → M γ} (k : Sm ((a e).bind (callK md φ K)) P G X) : Sm ((dCall md φ a e).bind K) P G X := by
  have : (dCall md φ a e).bind K = (a e).bind (callK md φ K) := by
    rw [ev_call, rbind_assoc]
    congr 1; funext rs e
    unfold callK
    cases load md rs e with
    | none => rfl
    | some p =>
      simp only
      cases φ p.1 with
      | st => rfl
      | ok r ss' => simp only; cases unload md rs ss' p.2 <;> rfl
      | ex x ss' => simp only; cases unload md rs ss' p.2 <;> rfl
  rw [this]; exact k
theorem f_call {md : List Bool} {φ : Fn} {rs : List RV} {os : List Opd} {ss : List SV} {p : Res τ} {ro : τ → SV} {au : τ → List SV} {oo : τ → Opd} {S2 : τ → List SD} {K : RV → M γ} {k : τ → Res α} (h : Has pn S e) (kr : ROks rs os) (ld : Ld S md os ss S1) (hf : FS false (φ ss) p ro au) (ul : ∀ t, Ul S1 md os (au t) (S2 t)) (ho : ∀ t, ROk (svR (ro t)) (oo t))
    (kk : ∀ t r e', ROk r (oo t) → Has pn (S2 t) e' → Sm (K r e') (k t) G X) : Sm (callK md φ K rs e) (p.bind k) G X := by
  obtain ⟨e1, h1, h2⟩ := ld.load h kr
  unfold callK
  rw [h1]
  cases p with
  | st => first | trivial | exact ⟨trivial⟩
  | ex x => cases hf.run.1
  | ok t =>
    have hf' : φ ss = .ok (ro t) (au t) := hf.run
    obtain ⟨e2, h3, h4⟩ := (ul t).unload h2 kr
    simp only [hf', h3]
    exact kk t _ e2 (ho t) h4
def callBK (n : Nat) (φ : Fn) (K : RV → M γ) : List RV → M γ := fun rs e => match rs.mapM (view e) with
  | some ds => if ds.length = n then (match φ (ds.map .fz) with
    | .ok r _ => (match immS r with
      | some d => K (.fz d) e
      | none => .st)
    | .ex x _ => .ex x e
    | .st => .st) else .st
  | none => .st
theorem c_callB {n : Nat} {φ : Fn} {a : M (List RV)} {K : RV → M γ} (k : Sm ((a e).bind (callBK n φ K)) P G X) : Sm ((dCallB n φ a e).bind K) P G X := by
  have : (dCallB n φ a e).bind K = (a e).bind (callBK n φ K) := by
    rw [ev_callB, rbind_assoc]
    congr 1; funext rs e
    unfold callBK
    cases rs.mapM (view e) with
    | none => rfl
    | some ds =>
      simp only
      split
      · cases φ (ds.map .fz) with
        | st => rfl
        | ok r ss' => simp only; cases immS r <;> rfl
        | ex x ss' => rfl
      · rfl
  rw [this]; exact k
theorem f_callB [Enc τ] {n : Nat} {φ : Fn} {rs : List RV} {os : List Opd} {ds : List D} {p : Res τ} {au : τ → List SV} {K : RV → M γ} {k : τ → Res α} (h : Has pn S e) (kr : ROks rs os) (da : Dts S os ds) (hn : ds.length = n) (hf : FS false (φ (ds.map .fz)) p (fun t => .fz (enc t)) au) (hi : ∀ t : τ, immS (.fz (enc t)) = some (enc t))
    (kk : ∀ t r, ROk r (.f (enc t)) → Sm (K r e) (k t) G X) : Sm (callBK n φ K rs e) (p.bind k) G X := by
  unfold callBK
  rw [da.view h kr]
  simp only
  rw [if_pos hn]
  cases p with
  | st => first | trivial | exact ⟨trivial⟩
  | ex x => cases hf.run.1
  | ok t =>
    have hf' : φ (ds.map .fz) = .ok (.fz (enc t)) (au t) := hf.run
    rw [hf']
    simp only [hi t]
    exact kk t _ rfl
theorem imm_I (t : Int) : immS (.fz (enc t)) = some (enc t) := (rfl)
theorem imm_B (t : Bool) : immS (.fz (enc t)) = some (enc t) := (rfl)
theorem imm_S (t : Str) : immS (.fz (enc t)) = some (enc t) := (rfl)
theorem imm_OI (t : Option Int) : immS (.fz (enc t)) = some (enc t) := by cases t <;> rfl
inductive Rs (pn : List Nat) (S : List SD) : Opd → SV → List SD → Prop
  | f {d : D} : Rs pn S (.f d) (.fz d) S
  | w {ds : List D} : Rs pn S (.w ds) (.ol (fzs ds)) S
  | v {i : Nat} {ds : List D} : S[i]? = some (.ol ds) → i ∉ pn → Rs pn S (.v i) (.ol (fzs ds)) (S.set i .clr)
  | x {i : Nat} {s : SV} : S[i]? = some (.x s) → i ∉ pn → Rs pn S (.v i) s (S.set i .clr)
  | o {s : SV} : Rs pn S (.o s) s S
inductive Os : List SD → Nat → List Bool → List SV → List SV → Prop
  | nil {S : List SD} {i : Nat} : Os S i [] [] []
  | f {S : List SD} {i : Nat} {md : List Bool} {s : SV} {ss as : List SV} : Os S (i + 1) md ss as → Os S i (false :: md) (s :: ss) (s :: as)
  | t {S : List SD} {i : Nat} {md : List Bool} {s : SV} {ds : List D} {ss as : List SV} : S[i]? = some (.ol ds) → Os (S.set i .clr) (i + 1) md ss as → Os S i (true :: md) (s :: ss) (.ol (fzs ds) :: as)
  | x {S : List SD} {i : Nat} {md : List Bool} {s s' : SV} {ss as : List SV} : S[i]? = some (.x s') → Os (S.set i .clr) (i + 1) md ss as → Os S i (true :: md) (s :: ss) (s' :: as)
theorem Rs.res {s : SV} (q : Rs pn S o s S') (h : Has pn S e) (kr : ROk r o) : ∃ e', resOf (.rt r) e = some (s, e') ∧ Has pn S' e' := by
  cases q with
  | f => cases kr; exact ⟨e, rfl, h⟩
  | w => cases kr; exact ⟨e, rfl, h⟩
  | v q hi =>
    cases kr
    obtain ⟨o, h1, h2⟩ := h.slot q
    cases h2
    refine ⟨e.clr _, ?_, h.clr _⟩
    unfold resOf
    simp only [h1]
    rw [if_neg (by rw [h.pn]; exact hi)]
  | x q hi =>
    cases kr
    obtain ⟨o, h1, h2⟩ := h.slot q
    cases h2
    refine ⟨e.clr _, ?_, h.clr _⟩
    unfold resOf
    simp only [h1]
    rw [if_neg (by rw [h.pn]; exact hi)]
  | o => cases kr; exact ⟨e, rfl, h⟩
theorem Os.outs {i : Nat} {md : List Bool} {ss as : List SV} (q : Os S i md ss as) : ∀ {e : Env}, Has pn S e → outs i md ss e = some as := by
  induction q with
  | nil => intro e h; rfl
  | f q ih => intro e h; rw [out_false, ih h]
  | t q1 q2 ih =>
    intro e h
    obtain ⟨o, h1, h2⟩ := h.slot q1
    cases h2
    have := ih (h.clr _)
    show (match e.sl[_]? with | some (some s) => (match VF.outs _ _ _ (e.clr _) with | some r => some (s :: r) | none => none) | _ => none) = _
    rw [h1]
    simp only [this]
  | x q1 q2 ih =>
    intro e h
    obtain ⟨o, h1, h2⟩ := h.slot q1
    cases h2
    have := ih (h.clr _)
    show (match e.sl[_]? with | some (some s) => (match VF.outs _ _ _ (e.clr _) with | some r => some (s :: r) | none => none) | _ => none) = _
    rw [h1]
    simp only [this]
def GF (md : List Bool) (ss : List SV) (ro : τ → SV) (au : τ → List SV) : τ → Fl → Env → Prop := fun t f e => ∃ e1, resOf f e = some (ro t, e1) ∧ outs 0 md ss e1 = some (au t)
theorem f_rt {md : List Bool} {ss : List SV} {ro : τ → SV} {au : τ → List SV} {t : τ} (h : Has pn S e) (kr : ROk r o) (q : Rs pn S o (ro t) S1) (os : Os S1 0 md ss (au t)) : Sm (okK (Fl.rt r) e) (.ok t) (GF md ss ro au) X := by
  obtain ⟨e1, h1, h2⟩ := q.res h kr
  exact ⟨.rt r, e, rfl, e1, h1, os.outs h2⟩
theorem fs_mk0 {md : List Bool} {n : Nat} {m : M Fl} {ss : List SV} {p : Res τ} {ro : τ → SV} {au : τ → List SV} (S0 : List SD) (hok : okArgs md ss = true) (h0 : F2 S0 (env0 md n ss).sl) (hb : ∀ e, Has (pinIx 0 md) S0 e → Sm ((m e).bind okK) p (GF md ss ro au) fun _ _ => False) : FS false (mkFn0 md n m ss) p ro au := by
  have hb' := (hb (env0 md n ss) ⟨rfl, h0⟩).top
  cases p with
  | st => first | trivial | exact ⟨trivial⟩
  | ex x => obtain ⟨_, _, h⟩ := hb'; exact h.elim
  | ok t =>
    obtain ⟨f, e, h1, e1, h2, h3⟩ := hb'
    exact ⟨run_fn0 hok h1 h2 h3⟩
end
end VF
set_option maxRecDepth 100000
set_option maxHeartbeats 4000000
namespace VF
set_option autoImplicit false
open PySem L2
open Enc (enc)
theorem rk_f {d : D} : ROk (.fz d) (.f d) := rfl
theorem rks0 : ROks [] [] := trivial
theorem rks {r : RV} {o : Opd} {rs : List RV} {os : List Opd} (h : ROk r o) (hs : ROks rs os) : ROks (r :: rs) (o :: os) := ⟨h, hs⟩
theorem rk_w {ds : List D} : ROk (.own (.ol (fzs ds))) (.w ds) := rfl
section
variable {α β γ δ σ τ ω ψ : Type} {pn : List Nat} {S S' S1 S2 : List SD} {e : Env} {X : Exc → Env → Prop} {P : Res α} {G : α → γ → Env → Prop} {r q : RV} {o oa ob oc : Opd} {d x y z : D}
section
variable [Enc ω] [EqE ω] [DecidableEq ω] {u v : ω} {us : List ω} {K : RV → M γ} (h : Has pn S e) (k1 : ROk r oa) (k2 : ROk q ob)
include h k1 k2
theorem f_eq (k : Sm (K (.fz (.bl (decide (u = v)))) e) P G X) (da : Dt S oa (enc u) := by first | exact .f | exact .v rfl | exact .vz rfl | exact .w | exact .y | exact .u rfl) (db : Dt S ob (enc v) := by first | exact .f | exact .v rfl | exact .vz rfl | exact .w | exact .y | exact .u rfl) (hd : EqE.dep ω ≤ 64 := by decide) : Sm (opK2 fEq r K q e) P G X := f_op h k1 k2 da db (fEq_enc u v hd) k
theorem f_ne (k : Sm (K (.fz (.bl (decide (u ≠ v)))) e) P G X) (da : Dt S oa (enc u) := by first | exact .f | exact .v rfl | exact .vz rfl | exact .w | exact .y | exact .u rfl) (db : Dt S ob (enc v) := by first | exact .f | exact .v rfl | exact .vz rfl | exact .w | exact .y | exact .u rfl) (hd : EqE.dep ω ≤ 64 := by decide) : Sm (opK2 fNe r K q e) P G X := f_op h k1 k2 da db (fNe_enc u v hd) k
end
section
variable {K : RV → M γ} (h : Has pn S e) (k1 : ROk r oa)
include h k1
theorem f_toInt {i : Int} (k : Sm (K (.fz (.int i)) e) P G X) (da : Dt S oa (.int i) := by first | exact .f | exact .u rfl) : Sm (cbK intD K [r] e) P G X :=
  f_cb h (os := [oa]) ⟨k1, trivial⟩ (.cons da .nil) rfl k
end
theorem p_mulL {i j : Int} {a b : M RV} (ha : PJ pn S a oa) (hb : PJ pn S b ob) (da : Dt S oa (.int i) := by first | exact .f | exact .u rfl) (db : Dt S ob (.int j) := by first | exact .f | exact .u rfl) (h : inB i 64 = true := by decide) : PJ pn S (dOp fMul a b) (.f (.int (i * j))) := p_mulK ha hb da db (by rw [h, Bool.true_or])
theorem p_mulR {i j : Int} {a b : M RV} (ha : PJ pn S a oa) (hb : PJ pn S b ob) (da : Dt S oa (.int i) := by first | exact .f | exact .u rfl) (db : Dt S ob (.int j) := by first | exact .f | exact .u rfl) (h : inB j 64 = true := by decide) : PJ pn S (dOp fMul a b) (.f (.int (i * j))) := p_mulK ha hb da db (by rw [h, Bool.or_true])
section
variable {i j : Int} {K : RV → M γ} (h : Has pn S e) (k1 : ROk r oa) (k2 : ROk q ob) (k : Sm (K (.fz (.int (i * j))) e) P G X) (da : Dt S oa (.int i) := by first | exact .f | exact .u rfl) (db : Dt S ob (.int j) := by first | exact .f | exact .u rfl)
include h k1 k2 k da db
end
theorem f_truB {c : Bool} {K : Bool → M γ} (h : Has pn S e) (k1 : ROk r o) (k : Sm (K c e) P G X) (da : Dt S o (.bl c) := by first | exact .f | exact .u rfl) : Sm (truK K r e) P G X := f_tru h k1 da rfl k
theorem f_truL [Enc ω] {xs : List ω} {K : Bool → M γ} (h : Has pn S e) (k1 : ROk r o) (k : Sm (K (!xs.isEmpty) e) P G X) (da : Dt S o (enc xs) := by first | exact .f | exact .v rfl | exact .vz rfl | exact .w | exact .y | exact .u rfl) : Sm (truK K r e) P G X :=
  f_tru h k1 da (by show some (!(xs.map enc).isEmpty) = _; cases xs <;> rfl) k
theorem c_nx {b : M Fl} {K : Fl → M γ} (k : Sm ((b e).bind K) P G X) : Sm (seqK b K .nx e) P G X := k
theorem f_drop {K : Fl → M γ} (k : Sm (K .nx e) P G X) : Sm (dropK K r e) P G X := k
theorem f_ret {K : Fl → M γ} (k : Sm (K (.rt r) e) P G X) : Sm (retK K r e) P G X := k
theorem f_unO {u : Option ω} {k : ω → Res α} {r : R γ} (kk : ∀ v, u = some v → Sm r (k v) G X) : Sm r ((unO u).bind k) G X := by
  cases u with
  | none => first | trivial | exact ⟨trivial⟩
  | some v => exact kk v rfl
theorem f_setL {i : Nat} {v : ω} {k : ω → Res α} {K : Fl → M γ} (F : ω → SD) (h : Has pn S e) (ho : ROk r o) (s : St S i o (S1.set i (F v))) (hi : i ∉ pn) (kk : ∀ v e', Has pn (S1.set i (F v)) e' → Sm (K .nx e') (k v) G X) : Sm (setK i K r e) ((Res.ok v).bind k) G X := f_set h ho s hi (kk v)
theorem f_rng1' {rs : List RV} {j : Int} {K : List D → M γ} {k : List Int → Res α} (h : Has pn S e) (kr : ROks rs [o]) (kk : ∀ v : List Int, Sm (K (v.map enc) e) (k v) G X) (da : Dt S o (.int j) := by first | exact .f | exact .u rfl) : Sm (rg1K K rs e) ((rng1R j).bind k) G X := by
  match rs, kr with
  | [r], kr => exact f_rng1 h kr.1 kk da
theorem f_rng2' {rs : List RV} {i j : Int} {K : List D → M γ} {k : List Int → Res α} (h : Has pn S e) (kr : ROks rs [oa, ob]) (kk : ∀ v : List Int, Sm (K (v.map enc) e) (k v) G X) (da : Dt S oa (.int i) := by first | exact .f | exact .u rfl) (db : Dt S ob (.int j) := by first | exact .f | exact .u rfl) : Sm (rg2K K rs e) ((rngR i j).bind k) G X := by
  match rs, kr with
  | [r, q], kr => exact f_rng2 h kr.1 kr.2.1 kk da db
theorem f_enum' [Enc ω] {rs : List RV} {xs : List ω} {K : List D → M γ} (h : Has pn S e) (kr : ROks rs [o]) (da : Fz S o (enc xs) S') (k : ∀ e', Has pn S' e' → Sm (K ((enumL xs).map enc) e') P G X) : Sm (enumK K rs e) P G X := by
  match rs, kr with
  | [r], kr => exact f_enum h kr.1 da k
end
structure Bx where
  ds : List Int
  at_ : Nat
def boxD (b : Bx) : List D := [enc b.ds, .int b.at_]
def p__law_draw (b : Bx) (many : Int) : Res (Int × Bx) := if 0 < many then .ok (drawV b.ds b.at_ many, ⟨b.ds, b.at_ + 1⟩) else .st
theorem ss__law_draw (b : Bx) (many : Int) : FS false (φ__law_draw [.ol (fzs (boxD b)), .fz (enc many)]) (p__law_draw b many) (fun t => .fz (enc t.1)) (fun t => [.ol (fzs (boxD t.2)), .fz (enc many)]) := by
  unfold p__law_draw
  split
  · rename_i h
    exact ⟨draw_ok b.ds b.at_ many h⟩
  · first | trivial | exact ⟨trivial⟩
theorem law_of {φ : Fn} {ns : List Int} {p : Res Bool} (h : FS false (φ [.fz (.scr ns)]) p (fun t => .fz (enc t)) (fun _ => [.fz (.scr ns)])) (hp : p = .ok true) : ∃ as', φ [.fz (.scr ns)] = .ok (.fz (.bl true)) as' := by
  rw [hp] at h
  exact ⟨_, h.run⟩
end VF
set_option maxRecDepth 100000
set_option maxHeartbeats 4000000
namespace VF
set_option autoImplicit false
open PySem L2
open Enc (enc)
def noX {α : Type} (p : Res α) : Res α := match p with
  | .ex _ => .st
  | .ok a => .ok a
  | .st => .st
@[simp] theorem noX_ok {α : Type} (a : α) : noX (.ok a) = .ok a := (rfl)
def tryR {σ τ : Type} (p : Res (Lp σ τ)) (h : Exc → Option τ) (k : σ → Res τ) : Res τ := match p with
  | .ok (.go s) => k s
  | .ok (.out t) => .ok t
  | .ok (.bk _) => .st
  | .ex x => (match h x with
    | some t => .ok t
    | none => .st)
  | .st => .st
@[simp] theorem tryR_go {σ τ : Type} (s : σ) (h : Exc → Option τ) (k : σ → Res τ) : tryR (.ok (.go s)) h k = k s := (rfl)
@[simp] theorem tryR_out {σ τ : Type} (t : τ) (h : Exc → Option τ) (k : σ → Res τ) : tryR (.ok (.out t)) h k = .ok t := (rfl)
theorem tryR_ex {σ τ : Type} {x : Exc} {t : τ} {h : Exc → Option τ} {k : σ → Res τ} (q : h x = some t) : tryR (.ex x) h k = .ok t := by unfold tryR; simp only; rw [q]
class Dec (α : Type) extends Enc α where
  dec : D → Option α
  de : ∀ (d : D) (a : α), dec d = some a → d = Enc.enc a
  ed : ∀ a : α, dec (Enc.enc a) = some a
instance : Dec Int where
  dec := fun d => match d with | .int i => some i | _ => none
  de := fun d a h => by cases d <;> first | (cases h; rfl) | cases h
  ed := fun _ => rfl
instance : Dec Str where
  dec := fun d => match d with | .str i => some i | _ => none
  de := fun d a h => by cases d <;> first | (cases h; rfl) | cases h
  ed := fun _ => rfl
instance : Dec (Option Int) where
  dec := fun d => match d with | .int i => some (some i) | .non => some none | _ => none
  de := fun d a h => by cases d <;> first | (cases h; rfl) | cases h
  ed := fun a => by cases a <;> rfl
def decs {α : Type} (f : D → Option α) : List D → Option (List α)
  | [] => some []
  | d :: ds => match f d, decs f ds with
    | some a, some as => some (a :: as)
    | _, _ => none
theorem decs_de {α : Type} [Dec α] : ∀ (ds : List D) (as : List α), decs Dec.dec ds = some as → ds = as.map enc
  | [], as, h => by cases h; rfl
  | d :: ds, as, h => by
    unfold decs at h
    cases z1 : Dec.dec (α := α) d with
    | none => rw [z1] at h; cases h
    | some a =>
      cases z2 : decs (Dec.dec (α := α)) ds with
      | none => rw [z1, z2] at h; cases h
      | some as' =>
        rw [z1, z2] at h
        cases h
        rw [List.map_cons, ← decs_de ds as' z2, ← Dec.de d a z1]
theorem decs_ed {α : Type} [Dec α] : ∀ as : List α, decs (Dec.dec (α := α)) (as.map enc) = some as
  | [] => rfl
  | a :: as => by
    show decs _ (enc a :: as.map enc) = _
    unfold decs
    rw [Dec.ed, decs_ed as]
instance {α : Type} [Dec α] : Dec (List α) where
  dec := fun d => match d with | .lst ds => decs Dec.dec ds | _ => none
  de := fun d as h => by cases d <;> first | (show D.lst _ = D.lst _; rw [decs_de _ as h]) | cases h
  ed := fun as => decs_ed as
section
variable {α β τ : Type} [Dec α] [Dec β]
def ex0 (c : Str) (t : Option τ) (x : Exc) : Option τ := if x.c = c ∧ x.ns = [] then (match x.ds with
  | [] => t
  | _ => none) else none
def ex1 (c f : Str) (k : α → Option τ) (x : Exc) : Option τ := if x.c = c ∧ x.ns = [f] then (match x.ds with
  | [d] => (match Dec.dec (α := α) d with
    | some a => k a
    | none => none)
  | _ => none) else none
def ex2 (c f g : Str) (k : α → β → Option τ) (x : Exc) : Option τ := if x.c = c ∧ x.ns = [g, f] then (match x.ds with
  | [d', d] => (match Dec.dec (α := α) d, Dec.dec (α := β) d' with
    | some a, some b => k a b
    | _, _ => none)
  | _ => none) else none
theorem ex1_some {c f : Str} {k : α → Option τ} {x : Exc} {r : τ} (h : ex1 c f k x = some r) : ∃ a, x = ⟨c, [f], [enc a]⟩ ∧ k a = some r := by
  unfold ex1 at h
  split at h
  · rename_i q
    obtain ⟨c', n', d'⟩ := x
    obtain ⟨rfl, rfl⟩ := q
    match d', h with
    | [d], h =>
      simp only at h
      cases z : Dec.dec (α := α) d with
      | none => rw [z] at h; cases h
      | some a =>
        rw [z] at h
        exact ⟨a, by rw [Dec.de d a z], h⟩
  · cases h
@[simp] theorem ex1_at (c f : Str) (k : α → Option τ) (a : α) : ex1 c f k ⟨c, [f], [enc a]⟩ = k a := by unfold ex1; simp [Dec.ed]
@[simp] theorem ex2_at (c f g : Str) (k : α → β → Option τ) (a : α) (b : β) : ex2 c f g k ⟨c, [g, f], [enc b, enc a]⟩ = k a b := by unfold ex2; simp [Dec.ed]
@[simp] theorem ex0_at (c : Str) (t : Option τ) : ex0 c t ⟨c, [], []⟩ = t := by unfold ex0; simp
end
abbrev XT : Exc → Env → Prop := fun _ _ => True
theorem outs_f : ∀ {md : List Bool} {i : Nat} {ss : List SV} {e : Env}, md.all (fun b => !b) = true → okArgs md ss = true → outs i md ss e = some ss
  | [], _, [], _, _, _ => rfl
  | [], _, _ :: _, _, _, h => by cases h
  | true :: _, _, _, _, h, _ => by cases h
  | false :: md, i, [], _, _, h => by cases h
  | false :: md, i, s :: ss, e, h, ha => by
    have h' : md.all (fun b => !b) = true := by simpa using h
    have ha' : okArgs md ss = true := by cases s <;> first | exact ha | cases ha
    rw [out_false, outs_f h' ha']
theorem outs_len : ∀ {md : List Bool} {i : Nat} {ss as : List SV} {e : Env}, outs i md ss e = some as → as.length = md.length
  | [], _, [], as, _, h => by cases h; rfl
  | [], _, _ :: _, _, _, h => by cases h
  | false :: md, i, [], _, _, h => by cases h
  | false :: md, i, s :: ss, as, e, h => by
    rw [out_false] at h
    cases q : outs (i + 1) md ss e with
    | none => rw [q] at h; cases h
    | some r => rw [q] at h; cases h; exact congrArg Nat.succ (outs_len q)
  | true :: md, i, [], _, _, h => by cases h
  | true :: md, i, s :: ss, as, e, h => by
    have h' : (match e.sl[i]? with | some (some s) => (match outs (i + 1) md ss (e.clr i) with | some r => some (s :: r) | none => none) | _ => none) = some as := h
    cases z : e.sl[i]? with
    | none => rw [z] at h'; cases h'
    | some o =>
      cases o with
      | none => rw [z] at h'; cases h'
      | some s' =>
        rw [z] at h'
        simp only at h'
        cases q : outs (i + 1) md ss (e.clr i) with
        | none => rw [q] at h'; cases h'
        | some r => rw [q] at h'; cases h'; exact congrArg Nat.succ (outs_len q)
theorem mkFn_ex {md : List Bool} {n : Nat} {m : M Fl} {ss : List SV} {x : Exc} {as : List SV} (h : mkFn md n m ss = .ex x as) : as.length = md.length := by
  unfold mkFn at h
  split at h
  · cases q : m (env0 md n ss) with
    | st => rw [q] at h; cases h
    | ok f e =>
      rw [q] at h
      simp only at h
      cases q2 : resOf f e with
      | none => rw [q2] at h; cases h
      | some p =>
        rw [q2] at h
        simp only at h
        cases q3 : outs 0 md ss p.2 with
        | none => rw [q3] at h; cases h
        | some r => rw [q3] at h; cases h
    | ex y e =>
      rw [q] at h
      simp only at h
      cases q3 : outs 0 md ss e with
      | none => rw [q3] at h; cases h
      | some r => rw [q3] at h; cases h; exact outs_len q3
  · cases h
theorem unload_f : ∀ {md : List Bool} {rs : List RV} {ss : List SV} {e : Env}, md.all (fun b => !b) = true → rs.length = md.length → ss.length = md.length → unload md rs ss e = some e
  | [], [], [], _, _, _, _ => rfl
  | [], _ :: _, _, _, _, h, _ => by cases h
  | [], [], _ :: _, _, _, _, h => by cases h
  | true :: _, _, _, _, h, _, _ => by cases h
  | false :: md, [], _, _, _, h, _ => by cases h
  | false :: md, _ :: _, [], _, _, _, h => by cases h
  | false :: md, r :: rs, s :: ss, e, h, h1, h2 => unload_f (md := md) (rs := rs) (ss := ss) (e := e) (by simpa using h) (by simpa using h1) (by simpa using h2)
section
variable {α β γ δ σ τ ω : Type} {pn : List Nat} {S S' S1 : List SD} {e : Env} {X : Exc → Env → Prop} {P : Res α} {G : α → γ → Env → Prop} {r q : RV} {o oa ob : Opd}
theorem f_callX {md : List Bool} {φ : Fn} {rs : List RV} {os : List Opd} {ss : List SV} {p : Res τ} {ro : τ → SV} {au : τ → List SV} {oo : τ → Opd} {S2 : τ → List SD} {K : RV → M γ} {k : τ → Res α} (h : Has pn S e) (kr : ROks rs os) (ld : Ld S md os ss S1) (hf : FS true (φ ss) p ro au)
    (hφ : ∀ x as, φ ss = .ex x as → as.length = md.length) (hmd : md.all (fun b => !b) = true) (hX : ∀ x e, Has pn S1 e → X x e) (ul : ∀ t, Ul S1 md os (au t) (S2 t)) (ho : ∀ t, ROk (svR (ro t)) (oo t))
    (kk : ∀ t r e', ROk r (oo t) → Has pn (S2 t) e' → Sm (K r e') (k t) G X) : Sm (callK md φ K rs e) (p.bind k) G X := by
  obtain ⟨e1, h1, h2⟩ := ld.load h kr
  unfold callK
  rw [h1]
  cases p with
  | st => exact ⟨trivial⟩
  | ex x =>
    obtain ⟨_, as, hf'⟩ := hf.run
    have l := load_len h1
    simp only [hf', unload_f hmd l (hφ x as hf')]
    exact ⟨e1, rfl, hX x e1 h2⟩
  | ok t =>
    have hf' : φ ss = .ok (ro t) (au t) := hf.run
    obtain ⟨e2, h3, h4⟩ := (ul t).unload h2 kr
    simp only [hf', h3]
    exact kk t _ e2 (ho t) h4
def GT (pn : List Nat) (I : σ → List SD) (K : Fl → M γ) (G : α → γ → Env → Prop) (X : Exc → Env → Prop) : Lp σ α → Fl → Env → Prop
  | .go s, f, e => f = .nx ∧ Has pn (I s) e
  | .bk _, _, _ => True
  | .out t, f, e => Sm (K f e) (.ok t) G X
theorem f_tout {I : σ → List SD} {K : Fl → M γ} {t : α} {X' : Exc → Env → Prop} (k : Sm (K (.rt r) e) (.ok t) G X) : Sm (okK (Fl.rt r) e) (.ok (.out t)) (GT pn I K G X) X' := ⟨.rt r, e, rfl, k⟩
theorem c_try {h : Exc → Option SV} {m : M Fl} {p : Res (Lp σ α)} {hR : Exc → Option α} {k : σ → Res α} {K : Fl → M γ} (_h : Has pn S e) (I : σ → List SD) (hb : Sm ((m e).bind okK) p (GT pn I K G X) XT)
    (kx : ∀ x t, hR x = some t → ∃ s, h x = some s ∧ okRes s = true ∧ ∀ e1, Sm (K (.rt (svR s)) e1) (.ok t) G X) (kk : ∀ s e', Has pn (I s) e' → Sm (K .nx e') (k s) G X) : Sm ((dTryX h m e).bind K) (tryR p hR k) G X := by
  have hb' := hb.top
  cases p with
  | st => exact ⟨trivial⟩
  | ex x =>
    obtain ⟨e1, h1, _⟩ := hb'
    have h1 : m e = .ex x e1 := h1
    unfold tryR
    simp only
    cases q : hR x with
    | none => exact ⟨trivial⟩
    | some t =>
      obtain ⟨s, q2, q3, kd⟩ := kx _ _ q
      have : dTryX h m e = .ok (.rt (svR s)) e1 := by
        unfold dTryX
        rw [h1]
        simp only
        rw [q2]
        simp only
        rw [if_pos q3]
      rw [this]
      exact kd e1
  | ok l =>
    obtain ⟨f, e1, h1, hg⟩ := hb'
    have h1 : m e = .ok f e1 := h1
    have : dTryX h m e = .ok f e1 := by unfold dTryX; rw [h1]
    rw [this]
    cases l with
    | go s =>
      obtain ⟨rfl, h2⟩ := hg
      exact kk s e1 h2
    | bk s => exact ⟨trivial⟩
    | out t => exact hg
theorem f_rtX {md : List Bool} {ss : List SV} {ro : τ → SV} {au : τ → List SV} {t : τ} {s : SV} {e1 : Env} (q : ro t = s) (qa : au t = ss) (hs : okRes s = true) (hmd : md.all (fun b => !b) = true) (hok : okArgs md ss = true) : Sm (okK (Fl.rt (svR s)) e1) (.ok t) (GF md ss ro au) X := by
  refine ⟨.rt (svR s), e1, rfl, e1, ?_, by rw [qa]; exact outs_f hmd hok⟩
  rw [q]
  cases s <;> first | rfl | cases hs
def raiseR {α : Type} (c : Str) (ns : List Str) (ds : List D) : Res α := if okDs ns.length ds = true then .ex ⟨c, ns.reverse, ds.reverse⟩ else .st
theorem c_raiseF {c : Str} {ns : List Str} {a : M (List RV)} {K : Fl → M γ} (k : Sm ((a e).bind fun rs e => match rs.mapM (view e) with
    | some ds => if okDs ns.length ds = true then .ex ⟨c, ns.reverse, ds.reverse⟩ e else .st
    | none => .st) P G X) : Sm ((dRaiseF c ns a e).bind K) P G X := by
  have : (dRaiseF c ns a e).bind K = (a e).bind fun rs e => match rs.mapM (view e) with
    | some ds => if okDs ns.length ds = true then .ex ⟨c, ns.reverse, ds.reverse⟩ e else .st
    | none => .st := by
    unfold dRaiseF M.bind
    rw [rbind_assoc]
    congr 1; funext rs e
    cases rs.mapM (view e) with
    | none => rfl
    | some ds => simp only; split <;> rfl
  rw [this]; exact k
theorem f_raiseF {c : Str} {ns : List Str} {rs : List RV} {os : List Opd} {ds : List D} (h : Has pn S e) (kr : ROks rs os) (da : Dts S os ds) (hX : ∀ x e, X x e) : Sm (match rs.mapM (view e) with
    | some ds => if okDs ns.length ds = true then (.ex ⟨c, ns.reverse, ds.reverse⟩ e : R γ) else .st
    | none => .st) (raiseR c ns ds : Res α) G X := by
  rw [da.view h kr]
  simp only
  unfold raiseR
  split
  · exact ⟨e, rfl, hX _ _⟩
  · exact ⟨trivial⟩
theorem fs_mkX {md : List Bool} {n : Nat} {m : M Fl} {ss : List SV} {p : Res τ} {ro : τ → SV} {au : τ → List SV} (hmd : md.all (fun b => !b) = true) (S0 : List SD) (hok : okArgs md ss = true) (h0 : F2 S0 (env0 md n ss).sl) (hb : ∀ e, Has (pinIx 0 md) S0 e → Sm ((m e).bind okK) p (GF md ss ro au) XT) : FS true (mkFn md n m ss) p ro au := by
  have hb' := (hb (env0 md n ss) ⟨rfl, h0⟩).top
  cases p with
  | st => exact ⟨trivial⟩
  | ex x =>
    obtain ⟨e, h1, _⟩ := hb'
    refine ⟨rfl, ss, ?_⟩
    unfold mkFn
    rw [if_pos hok, show m (env0 md n ss) = .ex x e from h1]
    simp only
    rw [outs_f hmd hok]
  | ok t =>
    obtain ⟨f, e, h1, e1, h2, h3⟩ := hb'
    refine ⟨?_⟩
    show mkFn md n m ss = .ok (ro t) (au t)
    unfold mkFn
    rw [if_pos hok, show m (env0 md n ss) = .ok f e from h1]
    simp only [h2, h3]
instance : Enc VF.D := ⟨id⟩
def unD {τ : Type} [Dec τ] (d : VF.D) : Res τ := match Dec.dec d with
  | some a => .ok a
  | none => .st
@[simp] theorem unD_enc {τ : Type} [Dec τ] (a : τ) : unD (enc a) = .ok a := by unfold unD; rw [Dec.ed]
end
end VF
set_option maxRecDepth 100000
set_option maxHeartbeats 4000000
namespace VF
set_option autoImplicit false
open PySem L2
open Enc (enc)
section
variable {α β γ δ σ τ ω : Type} {pn : List Nat} {S S' S1 : List SD} {e : Env} {X : Exc → Env → Prop} {P : Res α} {G : α → γ → Env → Prop} {r q : RV} {o oa ob : Opd}
end
end VF
set_option maxRecDepth 100000
set_option maxHeartbeats 4000000
namespace VF
set_option autoImplicit false
open PySem L2
open Enc (enc)
section
variable {α β γ δ σ τ : Type} {pn : List Nat} {S : List SD} {e : Env} {G : α → γ → Env → Prop} {X : Exc → Env → Prop}
end
end VF
set_option maxRecDepth 100000
set_option maxHeartbeats 4000000
namespace VF
set_option autoImplicit false
open PySem L2
open Enc (enc)
def at_ (f : Str) : List Str → Option Nat
  | [] => none
  | n :: ns => if n = f then some 0 else (at_ f ns).map (· + 1)
section
variable {α β γ δ σ τ ω : Type} {pn : List Nat} {S S' S1 : List SD} {e : Env} {X : Exc → Env → Prop} {P : Res α} {G : α → γ → Env → Prop} {r q : RV} {o oa ob : Opd}
end
end VF
set_option maxRecDepth 100000
set_option maxHeartbeats 4000000
namespace VF
set_option autoImplicit false
open PySem L2
open Enc (enc)
section
variable {α β γ δ σ τ ω : Type} {pn : List Nat} {S S' S1 : List SD} {e : Env} {X : Exc → Env → Prop} {P : Res α} {G : α → γ → Env → Prop} {r q : RV} {o oa ob : Opd}
end
end VF
set_option maxRecDepth 100000
set_option maxHeartbeats 4000000
namespace VF
set_option autoImplicit false
open PySem L2
open Enc (enc)
section
variable {α β γ δ σ τ ω : Type} {pn : List Nat} {S S' S1 : List SD} {e : Env} {X : Exc → Env → Prop} {P : Res α} {G : α → γ → Env → Prop} {r q : RV} {o oa ob : Opd}
def XP (ix : List Nat) : Exc → Env → Prop := fun _ e => ∀ i ∈ ix, ∃ s, e.sl[i]? = some (some s)
inductive Ux : List SD → List Bool → List Opd → Prop
  | nil {S : List SD} : Ux S [] []
  | f {S : List SD} {md : List Bool} {o : Opd} {os : List Opd} : Ux S md os → Ux S (false :: md) (o :: os)
  | t {S : List SD} {md : List Bool} {i : Nat} {os : List Opd} : S[i]? = some .clr → Ux (S.set i .any) md os → Ux S (true :: md) (.v i :: os)
theorem Ux.unload {md : List Bool} {os : List Opd} (q : Ux S md os) : ∀ {e : Env} {rs : List RV} {ss : List SV}, Has pn S e → ROks rs os → ss.length = md.length → ∃ e', unload md rs ss e = some e' := by
  induction q with
  | nil => intro e rs ss h k hl
           cases rs with
           | nil => cases ss with
             | nil => exact ⟨e, rfl⟩
             | cons _ _ => cases hl
           | cons _ _ => exact k.elim
  | f q ih => intro e rs ss h k hl
              cases rs with
              | nil => exact k.elim
              | cons r rs => cases ss with
                | nil => cases hl
                | cons s ss =>
                  obtain ⟨e', h1⟩ := ih h k.2 (by simpa using hl)
                  exact ⟨e', by rw [ul_false]; exact h1⟩
  | t q1 q2 ih => intro e rs ss h k hl
                  cases rs with
                  | nil => exact k.elim
                  | cons r rs => cases ss with
                    | nil => cases hl
                    | cons s ss =>
                      obtain ⟨k1, k2⟩ := k
                      cases k1
                      obtain ⟨o, h1, h2⟩ := h.slot q1
                      cases h2
                      obtain ⟨e', h3⟩ := ih (h.setS _ (s := .any) (v := s) trivial) k2 (by simpa using hl)
                      refine ⟨e', ?_⟩
                      rw [ul_true]
                      rw [if_pos (by unfold isClr; rw [h1])]
                      exact h3
end
end VF
set_option maxRecDepth 100000
set_option maxHeartbeats 4000000
namespace VF
set_option autoImplicit false
open PySem L2
open Enc (enc)
structure So {α β : Type} (r : R β) (p : Res α) (G : α → β → Env → Prop) : Prop where
  run : ∀ a, p = .ok a → ∃ b e, r = .ok b e ∧ G a b e
section
variable {α β γ δ σ τ ω ψ : Type} {pn : List Nat} {S S' S1 : List SD} {e : Env} {X : Exc → Env → Prop} {P : Res α} {G : α → γ → Env → Prop} {r q : RV} {o oa ob : Opd}
end
end VF
set_option maxRecDepth 100000
set_option maxHeartbeats 4000000
namespace VF
set_option autoImplicit false
open PySem L2
open Enc (enc)
section
variable {α β γ δ σ τ ω ψ : Type} {pn : List Nat} {S S' S1 : List SD} {e : Env} {X : Exc → Env → Prop} {P : Res α} {G : α → γ → Env → Prop} {r q : RV} {o oa ob : Opd}
end
end VF
set_option maxRecDepth 100000
set_option maxHeartbeats 4000000
namespace VF
set_option autoImplicit false
open PySem L2
open Enc (enc)
section
variable {α β γ δ σ τ ω ψ : Type} {pn : List Nat} {S S' S1 : List SD} {e : Env} {X : Exc → Env → Prop} {P : Res α} {G : α → γ → Env → Prop} {r q : RV} {o oa ob : Opd}
end
end VF
set_option maxRecDepth 100000
set_option maxHeartbeats 4000000
namespace VF
set_option autoImplicit false
open PySem L2
open Enc (enc)
structure W5 (α β γ δ ε : Type) where
  a : α
  b : β
  c : γ
  d : δ
  e : ε
  deriving DecidableEq, Inhabited
section
variable {α β γ δ ε : Type} [Enc α] [Enc β] [Enc γ] [Enc δ] [Enc ε]
def W5.l (x : W5 α β γ δ ε) : List D := [enc x.a, enc x.b, enc x.c, enc x.d, enc x.e]
instance : Enc (W5 α β γ δ ε) := ⟨fun x => .lst x.l⟩
end
section
variable {pn : List Nat} {S S' S1 : List SD} {d : D}
end
@[reducible] def memD {α : Type} [DecidableEq α] (x : α) (xs : List α) : Bool := decide (x ∈ xs)
@[reducible] def notMemD {α : Type} [DecidableEq α] (x : α) (xs : List α) : Bool := decide (x ∉ xs)
end VF
set_option maxRecDepth 100000
set_option maxHeartbeats 4000000
namespace VF
set_option autoImplicit false
open PySem L2
open Enc (enc)
instance {α β γ δ ε : Type} [Enc α] [EqE α] [Enc β] [EqE β] [Enc γ] [EqE γ] [Enc δ] [EqE δ] [Enc ε] [EqE ε] : EqE (T5 α β γ δ ε) where
  dep := max (max (EqE.dep α) (EqE.dep δ)) (max (EqE.dep β) (max (EqE.dep γ) (EqE.dep ε))) + 1
  lay := fun x => by
    obtain ⟨p, h1, h2, h3⟩ := EqE.lay x.a
    obtain ⟨q, k1, k2, k3⟩ := EqE.lay x.b
    obtain ⟨r, l1, l2, l3⟩ := EqE.lay x.c
    obtain ⟨s, m1, m2, m3⟩ := EqE.lay x.d
    obtain ⟨u, n1, n2, n3⟩ := EqE.lay x.e
    refine ⟨.tuple [p, q, r, s, u], toP_tup2 (by simp [toPs, h1, k1, l1, m1, n1]), by simp [PyData.plain, PyData.plainAll, h2, k2, l2, m2, n2], ?_⟩
    simp only [PyData.depth, PyData.depthAll]; omega
  eqv := fun x y p q h1 h2 => by
    obtain ⟨p1, a1, _⟩ := EqE.lay x.a
    obtain ⟨p2, a2, _⟩ := EqE.lay x.b
    obtain ⟨p3, a3, _⟩ := EqE.lay x.c
    obtain ⟨p4, a4, _⟩ := EqE.lay x.d
    obtain ⟨p5, a5, _⟩ := EqE.lay x.e
    obtain ⟨q1, b1, _⟩ := EqE.lay y.a
    obtain ⟨q2, b2, _⟩ := EqE.lay y.b
    obtain ⟨q3, b3, _⟩ := EqE.lay y.c
    obtain ⟨q4, b4, _⟩ := EqE.lay y.d
    obtain ⟨q5, b5, _⟩ := EqE.lay y.e
    have e1 : toP (enc x) = some (.tuple [p1, p2, p3, p4, p5]) := toP_tup2 (by simp [toPs, a1, a2, a3, a4, a5])
    have e2 : toP (enc y) = some (.tuple [q1, q2, q3, q4, q5]) := toP_tup2 (by simp [toPs, b1, b2, b3, b4, b5])
    rw [e1] at h1; rw [e2] at h2; cases h1; cases h2
    simp only [PyData.eqv, PyData.eqvAll, Bool.and_true, Bool.and_eq_true, EqE.eqv _ _ _ _ a1 b1, EqE.eqv _ _ _ _ a2 b2, EqE.eqv _ _ _ _ a3 b3, EqE.eqv _ _ _ _ a4 b4, EqE.eqv _ _ _ _ a5 b5]
    cases x; cases y; simp
instance {α β γ δ ε : Type} [Enc α] [Enc β] [Enc γ] [Enc δ] [Enc ε] : NoN (T5 α β γ δ ε) := ⟨fun a h => by
  have h' : (toPs [enc a.a, enc a.b, enc a.c, enc a.d, enc a.e]).map PyData.tuple = some .none := h
  cases z : toPs [enc a.a, enc a.b, enc a.c, enc a.d, enc a.e] <;> rw [z] at h' <;> cases h'⟩
section
variable {α β γ δ σ τ ω ψ : Type} {pn : List Nat} {S S' S1 : List SD} {e : Env} {X : Exc → Env → Prop} {P : Res α} {G : α → γ → Env → Prop} {r q : RV} {o oa ob : Opd}
end
end VF
set_option maxRecDepth 100000
set_option maxHeartbeats 4000000
namespace VF
set_option autoImplicit false
open PySem L2
open Enc (enc)
section
variable {α β γ δ σ τ ω ψ : Type} {pn : List Nat} {S S' S1 : List SD} {e : Env} {X : Exc → Env → Prop} {P : Res α} {G : α → γ → Env → Prop} {r q : RV} {o oa ob : Opd}
end
end VF
set_option maxRecDepth 100000
set_option maxHeartbeats 4000000
namespace VF
set_option autoImplicit false
open PySem L2
open Enc (enc)
open PySem.W (alike AllAlike Sortable dataLe dataLt EachIs keyToks alikeAll)
class SrtE (α : Type) [Enc α] where
  al : ∀ (a b : α) p q, toP (enc a) = some p → toP (enc b) = some q → alike p q = true
  kd : Bool
  isT : ∀ (a : α) p, toP (enc a) = some p → cond kd (isTup1 p) (noTup p) = true
instance : SrtE Int where
  al := fun a b p q h1 h2 => by cases h1; cases h2; rfl
  kd := false
  isT := fun a p h => by cases h; rfl
instance : SrtE Str where
  al := fun a b p q h1 h2 => by cases h1; cases h2; rfl
  kd := false
  isT := fun a p h => by cases h; rfl
section
variable {α β γ : Type} [Enc α] [SrtE α] [Enc β] [SrtE β] [Enc γ] [SrtE γ]
theorem al_list : ∀ (xs ys : List α) ps qs, toPs (xs.map enc) = some ps → toPs (ys.map enc) = some qs → alikeAll ps qs = true
  | [], _, ps, qs, h1, h2 => by cases h1; simp [alikeAll]
  | _ :: _, [], ps, qs, h1, h2 => by cases h2; cases ps <;> simp [alikeAll]
  | x :: xs, y :: ys, ps, qs, h1, h2 => by
    have h1' : (match toP (enc x), toPs (xs.map enc) with | some p, some ps => some (p :: ps) | _, _ => none) = some ps := h1
    have h2' : (match toP (enc y), toPs (ys.map enc) with | some p, some ps => some (p :: ps) | _, _ => none) = some qs := h2
    cases z1 : toP (enc x) with
    | none => rw [z1] at h1'; cases h1'
    | some p => cases z2 : toPs (xs.map enc) with
      | none => rw [z1, z2] at h1'; cases h1'
      | some ps' =>
        rw [z1, z2] at h1'; cases h1'
        cases z3 : toP (enc y) with
        | none => rw [z3] at h2'; cases h2'
        | some q => cases z4 : toPs (ys.map enc) with
          | none => rw [z3, z4] at h2'; cases h2'
          | some qs' =>
            rw [z3, z4] at h2'; cases h2'
            rw [alikeAll, SrtE.al x y p q z1 z3, al_list xs ys ps' qs' z2 z4]; rfl
instance : SrtE (List α) where
  al := fun a b p q h1 h2 => by
    have h1' : (toPs (a.map enc)).map PyData.list = some p := h1
    have h2' : (toPs (b.map enc)).map PyData.list = some q := h2
    cases z1 : toPs (a.map enc) with
    | none => rw [z1] at h1'; cases h1'
    | some ps => cases z2 : toPs (b.map enc) with
      | none => rw [z2] at h2'; cases h2'
      | some qs =>
        rw [z1] at h1'; rw [z2] at h2'; cases h1'; cases h2'
        rw [alike]; exact al_list a b ps qs z1 z2
  kd := false
  isT := fun a p h => by
    have h' : (toPs (a.map enc)).map PyData.list = some p := h
    cases z : toPs (a.map enc) with
    | none => rw [z] at h'; cases h'
    | some ps => rw [z] at h'; cases h'; rfl
theorem toPs_two {a b : D} {ps : List PyData} (h : toPs [a, b] = some ps) : ∃ p q, toP a = some p ∧ toP b = some q ∧ ps = [p, q] := by
  cases z1 : toP a with
  | none => simp [toPs, z1] at h
  | some p => cases z2 : toP b with
    | none => simp [toPs, z1, z2] at h
    | some q => simp [toPs, z1, z2] at h; exact ⟨p, q, rfl, rfl, h.symm⟩
theorem toPs_three {a b c : D} {ps : List PyData} (h : toPs [a, b, c] = some ps) : ∃ p q r, toP a = some p ∧ toP b = some q ∧ toP c = some r ∧ ps = [p, q, r] := by
  cases z1 : toP a with
  | none => simp [toPs, z1] at h
  | some p => cases z2 : toP b with
    | none => simp [toPs, z1, z2] at h
    | some q => cases z3 : toP c with
      | none => simp [toPs, z1, z2, z3] at h
      | some r => simp [toPs, z1, z2, z3] at h; exact ⟨p, q, r, rfl, rfl, rfl, h.symm⟩
theorem toP_tupO {ds : List D} {p : PyData} (h : toP (.tup ds) = some p) : ∃ ps, toPs ds = some ps ∧ p = .tuple ps := by
  have h' : (toPs ds).map PyData.tuple = some p := h
  cases z : toPs ds with
  | none => rw [z] at h'; cases h'
  | some ps => rw [z] at h'; cases h'; exact ⟨ps, rfl, rfl⟩
instance : SrtE (α × β) where
  al := fun a b p q h1 h2 => by
    obtain ⟨ps, e1, rfl⟩ := toP_tupO h1
    obtain ⟨qs, e2, rfl⟩ := toP_tupO h2
    obtain ⟨p1, p2, a1, a2, rfl⟩ := toPs_two e1
    obtain ⟨q1, q2, b1, b2, rfl⟩ := toPs_two e2
    simp only [alike, alikeAll, SrtE.al _ _ _ _ a1 b1, SrtE.al _ _ _ _ a2 b2, Bool.and_self]
  kd := true
  isT := fun a p h => by
    obtain ⟨ps, e1, rfl⟩ := toP_tupO h
    obtain ⟨p1, p2, a1, a2, rfl⟩ := toPs_two e1
    rfl
instance : SrtE (T3 α β γ) where
  al := fun a b p q h1 h2 => by
    obtain ⟨ps, e1, rfl⟩ := toP_tupO h1
    obtain ⟨qs, e2, rfl⟩ := toP_tupO h2
    obtain ⟨p1, p2, p3, a1, a2, a3, rfl⟩ := toPs_three e1
    obtain ⟨q1, q2, q3, b1, b2, b3, rfl⟩ := toPs_three e2
    simp only [alike, alikeAll, SrtE.al _ _ _ _ a1 b1, SrtE.al _ _ _ _ a2 b2, SrtE.al _ _ _ _ a3 b3, Bool.and_self]
  kd := true
  isT := fun a p h => by
    obtain ⟨ps, e1, rfl⟩ := toP_tupO h
    obtain ⟨p1, p2, p3, a1, a2, a3, rfl⟩ := toPs_three e1
    rfl
end
section
variable {α : Type} [Enc α]
end
section
variable {pn : List Nat} {S : List SD} {a : M RV} {oa : Opd}
end
section
variable {α : Type} [Enc α] [EqE α] [SrtE α]
omit [SrtE α] in
omit [SrtE α] in
omit [SrtE α] [EqE α] in
omit [SrtE α] in
end
end VF
set_option maxRecDepth 100000
set_option maxHeartbeats 4000000
namespace VF
set_option autoImplicit false
open PySem L2
open Enc (enc)
section
variable {α β γ δ σ τ ω ψ : Type} {pn : List Nat} {S S' S1 S2 : List SD} {e : Env} {X : Exc → Env → Prop} {P : Res α} {G : α → γ → Env → Prop} {r q : RV} {o oa ob oc : Opd} {d : D}
end
end VF
set_option maxRecDepth 100000
set_option maxHeartbeats 4000000
namespace VF
set_option autoImplicit false
open PySem PySem.Spec PyProof.Rows L2
open Enc (enc)
def addSR (a b : Str) : Res Str := if a.length + b.length ≤ sizeLine then .ok (a ++ b) else .st
def strR (i : Int) : Res Str := if i.natAbs.log2 < 1920 then .ok (toString i : String) else .st
def intSR (a : Str) : Res Int := if a.length ≤ 640 then (match PySem.intText? a with
  | some n => .ok n
  | none => .st) else .st
def lenSR (z : Str) : Res Int := if z.length ≤ sizeLine then .ok (z.length : Nat) else .st
def sign1 (c : Nat) : Str := ⟨#[c]⟩
def getiS (z : Str) (i : Int) : Res Str := if z.length ≤ sizeLine then (match atI z.cps.toList i with
  | some c => .ok (sign1 c)
  | none => .st) else .st
def signsT (z : Str) : List Str := z.cps.toList.map sign1
def inS (y z : Str) : Bool := !(Builtin.Str.occurrences z y 0 z.length 1).isEmpty
def splitR (x y : Str) : Res (List Str) := if (y.length == 0) = false ∧ x.length + 2 ≤ sizeLine then .ok (Txt.split x y) else .st
def joinR (x : Str) (ys : List Str) : Res Str := if (ys.map (·.length)).sum + ys.length * x.length ≤ 16777216 then .ok (Txt.join x ys) else .st
def okS (z : Str) : Res Unit := if z.length ≤ sizeLine then .ok () else .st
theorem encs_signs (z : Str) : signs z = (signsT z).map enc := by
  show z.cps.toList.map _ = (z.cps.toList.map sign1).map enc
  rw [List.map_map]; rfl
theorem strsOf_enc (ys : List Str) : strsOf (ys.map enc) = some ys := by
  induction ys with
  | nil => rfl
  | cons y ys ih =>
    show (strsOf (ys.map enc)).map (y :: ·) = _
    rw [ih]; rfl
section
variable {α γ : Type} {P : Res α} {pn : List Nat} {S S1 S' : List SD} {e : Env} {K : RV → M γ} {X : Exc → Env → Prop} {G : α → γ → Env → Prop} {r q : RV} {oa ob : Opd} {x y : Str}
theorem f_addS {k : Str → Res α} (h : Has pn S e) (k1 : ROk r oa) (k2 : ROk q ob) (kk : ∀ t : Str, Sm (K (.fz (enc t)) e) (k t) G X) (da : Dt S oa (enc x) := by first | exact .f | exact .vz rfl | exact .u rfl) (db : Dt S ob (enc y) := by first | exact .f | exact .vz rfl | exact .u rfl) : Sm (opK2 fAddS r K q e) ((addSR x y).bind k) G X := by
  unfold addSR
  by_cases c : x.length + y.length ≤ sizeLine
  · rw [if_pos c]; exact f_op h k1 k2 da db (if_pos c) (kk _)
  · rw [if_neg c]; first | trivial | exact ⟨trivial⟩
theorem f_strI {i : Int} {k : Str → Res α} (h : Has pn S e) (k1 : ROk r oa) (kk : ∀ t : Str, Sm (K (.fz (enc t)) e) (k t) G X) (da : Dt S oa (.int i) := by first | exact .f | exact .vz rfl | exact .u rfl) : Sm (cbK strD K [r] e) ((strR i).bind k) G X := by
  unfold strR
  by_cases c : i.natAbs.log2 < 1920
  · rw [if_pos c]; exact f_cb h (os := [oa]) ⟨k1, trivial⟩ (.cons da .nil) (if_pos c) (kk _)
  · rw [if_neg c]; first | trivial | exact ⟨trivial⟩
theorem f_intS {k : Int → Res α} (h : Has pn S e) (k1 : ROk r oa) (kk : ∀ t : Int, Sm (K (.fz (enc t)) e) (k t) G X) (da : Dt S oa (enc x) := by first | exact .f | exact .vz rfl | exact .u rfl) : Sm (cbK intSD K [r] e) ((intSR x).bind k) G X := by
  unfold intSR
  by_cases c : x.length ≤ 640
  · rw [if_pos c]
    cases z : PySem.intText? x with
    | none => first | trivial | exact ⟨trivial⟩
    | some n => exact f_cb h (os := [oa]) ⟨k1, trivial⟩ (.cons da .nil) (d := .int n) (by show (if _ then _ else _) = _; rw [if_pos c, z]; rfl) (kk n)
  · rw [if_neg c]; first | trivial | exact ⟨trivial⟩
theorem f_lenS {k : Int → Res α} (h : Has pn S e) (k1 : ROk r oa) (kk : ∀ t : Int, Sm (K (.fz (enc t)) e) (k t) G X) (da : Dt S oa (enc x) := by first | exact .f | exact .vz rfl | exact .u rfl) : Sm (cbK lenD K [r] e) ((lenSR x).bind k) G X := by
  unfold lenSR
  by_cases c : x.length ≤ sizeLine
  · rw [if_pos c]; exact f_cb h (os := [oa]) ⟨k1, trivial⟩ (.cons da .nil) (if_pos c) (kk _)
  · rw [if_neg c]; first | trivial | exact ⟨trivial⟩
theorem p_notInS {a b : M RV} (ha : PJ pn S a oa) (hb : PJ pn S b ob) (da : Dt S oa (enc x) := by first | exact .f | exact .vz rfl | exact .u rfl) (db : Dt S ob (enc y) := by first | exact .f | exact .vz rfl | exact .u rfl) : PJ pn S (dOp fNotIn a b) (.f (.bl (!inS x y))) := p_op ha hb da db rfl
def split1 (b : M RV) (K : RV → M γ) : RV → M γ := fun r e => match view e r with
  | some (.str x) => (b e).bind fun q e2 => (match view e2 q with
    | some (.str y) => if (y.length == 0) = false ∧ x.length + 2 ≤ sizeLine then K (.own (.ol ((strsD (Txt.split x y)).map .fz))) e2 else .st
    | _ => .st)
  | _ => .st
def split2 (x : Str) (K : RV → M γ) : RV → M γ := fun q e2 => match view e2 q with
  | some (.str y) => if (y.length == 0) = false ∧ x.length + 2 ≤ sizeLine then K (.own (.ol ((strsD (Txt.split x y)).map .fz))) e2 else .st
  | _ => .st
theorem c_split {a b : M RV} (k : Sm ((a e).bind (split1 b K)) P G X) : Sm ((dSplit a b e).bind K) P G X := by
  have : (dSplit a b e).bind K = (a e).bind (split1 b K) := by
    unfold dSplit
    rw [mbind, rbind_assoc]
    congr 1; funext r e
    unfold split1
    cases view e r with
    | none => rfl
    | some d =>
      cases d <;> first | rfl | skip
      simp only
      rw [rbind_assoc]
      congr 1; funext q e2
      cases view e2 q with
      | none => rfl
      | some d2 => cases d2 <;> first | rfl | (simp only; split <;> rfl)
  rw [this]; exact k
theorem f_split1 {b : M RV} (h : Has pn S e) (k1 : ROk r oa) (k : Sm ((b e).bind (split2 x K)) P G X) (da : Dt S oa (enc x) := by first | exact .f | exact .vz rfl | exact .u rfl) : Sm (split1 b K r e) P G X := by
  unfold split1
  rw [da.view h k1]
  exact k
theorem f_split2 {k : List Str → Res α} (h : Has pn S e) (k1 : ROk q ob) (kk : ∀ ys r, ROk r (.w (encs ys)) → Sm (K r e) (k ys) G X) (da : Dt S ob (enc y) := by first | exact .f | exact .vz rfl | exact .u rfl) : Sm (split2 x K q e) ((splitR x y).bind k) G X := by
  unfold split2
  rw [da.view h k1]
  show Sm (if _ then _ else _) _ G X
  unfold splitR
  by_cases c : (y.length == 0) = false ∧ x.length + 2 ≤ sizeLine
  · rw [if_pos c, if_pos c]; exact kk _ _ rfl
  · rw [if_neg c, if_neg c]; first | trivial | exact ⟨trivial⟩
def join1 (b : M RV) (K : RV → M γ) : RV → M γ := fun r e => match view e r with
  | some (.str x) => (b e).bind fun q e2 => (match view e2 q with
    | some (.lst ds) => (match strsOf ds with
      | some ys => if (ys.map (·.length)).sum + ys.length * x.length ≤ 16777216 then K (.fz (.str (Txt.join x ys))) e2 else .st
      | none => .st)
    | _ => .st)
  | _ => .st
def join2 (x : Str) (K : RV → M γ) : RV → M γ := fun q e2 => match view e2 q with
  | some (.lst ds) => (match strsOf ds with
    | some ys => if (ys.map (·.length)).sum + ys.length * x.length ≤ 16777216 then K (.fz (.str (Txt.join x ys))) e2 else .st
    | none => .st)
  | _ => .st
theorem c_join {a b : M RV} (k : Sm ((a e).bind (join1 b K)) P G X) : Sm ((dJoin a b e).bind K) P G X := by
  have : (dJoin a b e).bind K = (a e).bind (join1 b K) := by
    unfold dJoin
    rw [mbind, rbind_assoc]
    congr 1; funext r e
    unfold join1
    cases view e r with
    | none => rfl
    | some d =>
      cases d <;> first | rfl | skip
      simp only
      rw [rbind_assoc]
      congr 1; funext q e2
      cases view e2 q with
      | none => rfl
      | some d2 =>
        cases d2 <;> first | rfl | skip
        simp only
        cases strsOf _ with
        | none => rfl
        | some ys => simp only; split <;> rfl
  rw [this]; exact k
theorem f_join1 {b : M RV} (h : Has pn S e) (k1 : ROk r oa) (k : Sm ((b e).bind (join2 x K)) P G X) (da : Dt S oa (enc x) := by first | exact .f | exact .vz rfl | exact .u rfl) : Sm (join1 b K r e) P G X := by
  unfold join1
  rw [da.view h k1]
  exact k
theorem f_join2 {ys : List Str} {k : Str → Res α} (h : Has pn S e) (k1 : ROk q ob) (kk : ∀ t : Str, Sm (K (.fz (enc t)) e) (k t) G X) (da : Dt S ob (enc ys) := by first | exact .f | exact .v rfl | exact .vz rfl | exact .w | exact .y | exact .u rfl) : Sm (join2 x K q e) ((joinR x ys).bind k) G X := by
  unfold join2
  rw [da.view h k1]
  show Sm (match strsOf (ys.map enc) with
    | some ys => if (ys.map (·.length)).sum + ys.length * x.length ≤ 16777216 then K (.fz (.str (Txt.join x ys))) e else .st
    | none => .st) _ G X
  rw [strsOf_enc]
  simp only
  unfold joinR
  by_cases c : (ys.map (·.length)).sum + ys.length * x.length ≤ 16777216
  · rw [if_pos c, if_pos c]; exact kk _
  · rw [if_neg c, if_neg c]; first | trivial | exact ⟨trivial⟩
theorem item_str {z : Str} {i : Int} {o : Opd} (h : Has pn S e) (k : ROk r o) (q : Dt S o (.str z)) : itemR e r i = itemD (.str z) i := by
  cases q with
  | f => cases k; rfl
  | y => rcases k with rfl | ⟨ds', e1, rfl⟩
         · rfl
         · cases e1
  | vz q =>
    cases k
    obtain ⟨o, h1, h2⟩ := h.slot q
    cases h2
    show (match e.sl[_]? with | some (some s) => itemS s i | _ => none) = _
    rw [h1]; rfl
  | u q =>
    rcases k with rfl | rfl
    · rfl
    · obtain ⟨o, h1, h2⟩ := h.slot q
      rcases h2 with rfl | ⟨ds, e1, _⟩
      · show (match e.sl[_]? with | some (some s) => itemS s i | _ => none) = _
        rw [h1]; rfl
      · cases e1
  | o q => simp [SV.toD] at q
  | x _ q => simp [SV.toD] at q
theorem f_ixS {i : Int} {k : Str → Res α} (h : Has pn S e) (k1 : ROk r oa) (k2 : ROk q ob) (kk : ∀ t : Str, Sm (K (.fz (enc t)) e) (k t) G X) (da : Dt S oa (enc x) := by first | exact .f | exact .vz rfl | exact .u rfl) (db : Dt S ob (.int i) := by first | exact .f | exact .u rfl) : Sm (ixK2 r K q e) ((getiS x i).bind k) G X := by
  unfold ixK2
  rw [db.view h k2]
  simp only
  rw [item_str h k1 da]
  show Sm (match (if x.length ≤ sizeLine then (atI x.cps.toList i).map (fun c => D.str ⟨#[c]⟩) else none) with
    | some d => K (.fz d) e
    | none => .st) _ G X
  unfold getiS
  by_cases c : x.length ≤ sizeLine
  · rw [if_pos c, if_pos c]
    cases atI x.cps.toList i with
    | none => first | trivial | exact ⟨trivial⟩
    | some v => exact kk _
  · rw [if_neg c, if_neg c]; first | trivial | exact ⟨trivial⟩
theorem f_itS {o : Opd} {K : List D → M γ} (h : Has pn S e) (kr : ROk r o) (da : Fz S o (enc x) S') (k : ∀ e', Has pn S' e' → Sm (K ((signsT x).map enc) e') P G X) : Sm (itK K r e) P G X := by
  obtain ⟨e', h1, h2⟩ := da.frz h kr
  unfold itK; rw [h1]
  show Sm (K (signs x) e') P G X
  rw [encs_signs]
  exact k _ h2
def cutSR (z : Str) (lo hi : Option Int) : Res Str := if z.length ≤ sizeLine then .ok (cutS z lo hi) else .st
def slSK (l h : M (Option Int)) (K : RV → M γ) : RV → M γ := fun r e => match view e r with
  | some (.str z) => if z.length ≤ sizeLine then (l e).bind fun lo e2 => (h e2).bind fun hi e3 => K (.fz (.str (cutS z lo hi))) e3 else .st
  | _ => .st
theorem c_slS {a : M RV} {l h : M (Option Int)} (k : Sm ((a e).bind (slSK l h K)) P G X) : Sm ((dSlS a l h e).bind K) P G X := by
  have : (dSlS a l h e).bind K = (a e).bind (slSK l h K) := by
    unfold dSlS
    rw [mbind, rbind_assoc]
    congr 1; funext r e
    unfold slSK
    cases view e r with
    | none => rfl
    | some d =>
      cases d <;> first | rfl | skip
      simp only
      split
      · simp only [rbind_assoc]; rfl
      · rfl
  rw [this]; exact k
theorem f_slS {ml mh : M (Option Int)} {lo hi : Option Int} {k : Str → Res α} (h : Has pn S e) (kr : ROk r oa) (hl : PP pn S ml lo) (hh : PP pn S mh hi) (kk : ∀ t : Str, Sm (K (.fz (enc t)) e) (k t) G X) (da : Dt S oa (enc x) := by first | exact .f | exact .vz rfl | exact .u rfl) : Sm (slSK ml mh K r e) ((cutSR x lo hi).bind k) G X := by
  unfold slSK
  rw [da.view h kr]
  show Sm (if x.length ≤ sizeLine then (ml e).bind fun lo e2 => (mh e2).bind fun hi e3 => K (.fz (.str (cutS x lo hi))) e3 else .st) _ G X
  unfold cutSR
  by_cases c : x.length ≤ sizeLine
  · rw [if_pos c, if_pos c, hl e h, bind_ok, hh e h, bind_ok]
    exact kk _
  · rw [if_neg c, if_neg c]; first | trivial | exact ⟨trivial⟩
end
def unOs {ω : Type} (xs : List (Option ω)) : Res (List ω) := match xs.mapM id with
  | some ys => .ok ys
  | none => .st
theorem mapM_id_some {ω : Type} : ∀ {xs : List (Option ω)} {ys : List ω}, xs.mapM id = some ys → xs = ys.map some
  | [], ys, h => by cases h; rfl
  | x :: xs, ys, h => by
    rw [List.mapM_cons] at h
    cases x with
    | none => cases h
    | some y =>
      cases z : xs.mapM id with
      | none => rw [z] at h; cases h
      | some zs =>
        rw [z] at h
        cases h
        rw [mapM_id_some z]; rfl
theorem f_unOs {ω α γ : Type} {G : α → γ → Env → Prop} {X : Exc → Env → Prop} {xs : List (Option ω)} {m : R γ} {k : List ω → Res α} (kk : ∀ ys, xs = ys.map some → Sm m (k ys) G X) : Sm m ((unOs xs).bind k) G X := by
  unfold unOs
  cases z : xs.mapM id with
  | none => exact ⟨trivial⟩
  | some ys => exact kk ys (mapM_id_some z)
theorem encs_some {ω : Type} [Enc ω] (ys : List ω) : encs (ys.map some) = encs ys := by
  show (ys.map some).map enc = ys.map enc
  rw [List.map_map]; rfl
end VF
set_option maxRecDepth 100000
set_option maxHeartbeats 4000000
namespace VF
set_option autoImplicit false
open PySem PySem.Spec PyProof.Rows L2
open Enc (enc)
section
variable {α γ : Type} {P : Res α} {pn : List Nat} {S S1 S' : List SD} {e : Env} {K : RV → M γ} {X : Exc → Env → Prop} {G : α → γ → Env → Prop} {r q : RV} {oa ob : Opd} {x y : Str}
def fmtK (K : RV → M γ) : RV → M γ := fun r e => match view e r with
  | some (.str y) => if y.length ≤ sizeLine then K (.fz (.str y)) e else .st
  | some (.int i) => if i.natAbs.log2 < 1920 then K (.fz (.str (toString i))) e else .st
  | _ => .st
theorem c_fmt {a : M RV} (k : Sm ((a e).bind (fmtK K)) P G X) : Sm ((dFmt a e).bind K) P G X := by
  have : (dFmt a e).bind K = (a e).bind (fmtK K) := by
    unfold dFmt
    rw [mbind, rbind_assoc]
    congr 1; funext r e
    unfold fmtK
    cases view e r with
    | none => rfl
    | some d => cases d <;> first | rfl | (simp only; split <;> rfl)
  rw [this]; exact k
theorem f_fmtI {i : Int} {k : Str → Res α} (h : Has pn S e) (k1 : ROk r oa) (kk : ∀ t : Str, Sm (K (.fz (enc t)) e) (k t) G X) (da : Dt S oa (.int i) := by first | exact .f | exact .vz rfl | exact .u rfl) : Sm (fmtK K r e) ((strR i).bind k) G X := by
  unfold fmtK
  rw [da.view h k1]
  show Sm (if i.natAbs.log2 < 1920 then K (.fz (.str (toString i))) e else .st) _ G X
  unfold strR
  by_cases c : i.natAbs.log2 < 1920
  · rw [if_pos c, if_pos c]; exact kk _
  · rw [if_neg c, if_neg c]; first | trivial | exact ⟨trivial⟩
theorem f_fmtS {k : Unit → Res α} (h : Has pn S e) (k1 : ROk r oa) (kk : Sm (K (.fz (enc x)) e) (k ()) G X) (da : Dt S oa (enc x) := by first | exact .f | exact .vz rfl | exact .u rfl) : Sm (fmtK K r e) ((okS x).bind k) G X := by
  unfold fmtK
  rw [da.view h k1]
  show Sm (if x.length ≤ sizeLine then K (.fz (.str x)) e else .st) _ G X
  unfold okS
  by_cases c : x.length ≤ sizeLine
  · rw [if_pos c, if_pos c]; exact kk
  · rw [if_neg c, if_neg c]; first | trivial | exact ⟨trivial⟩
def jsK (ms : List (M RV)) (acc : Str) (K : RV → M γ) : RV → M γ := fun r e => match view e r with
  | some (.str y) => if (acc ++ y).length ≤ sizeLine then (dJs ms (acc ++ y) e).bind K else .st
  | _ => .st
theorem c_js {m : M RV} {ms : List (M RV)} {acc : Str} (k : Sm ((m e).bind (jsK ms acc K)) P G X) : Sm ((dJs (m :: ms) acc e).bind K) P G X := by
  have : (dJs (m :: ms) acc e).bind K = (m e).bind (jsK ms acc K) := by
    show ((m.bind _) e).bind K = _
    rw [mbind, rbind_assoc]
    congr 1; funext r e
    unfold jsK
    cases view e r with
    | none => rfl
    | some d => cases d <;> first | rfl | (simp only; split <;> rfl)
  rw [this]; exact k
theorem f_js {ms : List (M RV)} {acc : Str} {k : Str → Res α} (h : Has pn S e) (k1 : ROk r oa) (kk : ∀ t : Str, Sm ((dJs ms t e).bind K) (k t) G X) (da : Dt S oa (enc y) := by first | exact .f | exact .vz rfl | exact .u rfl) : Sm (jsK ms acc K r e) ((addSR acc y).bind k) G X := by
  unfold jsK
  rw [da.view h k1]
  show Sm (if (acc ++ y).length ≤ sizeLine then (dJs ms (acc ++ y) e).bind K else .st) _ G X
  have e1 : (acc ++ y).length = acc.length + y.length := by rw [TL.len_tl, TL.tl_append, List.length_append, ← TL.len_tl, ← TL.len_tl]
  rw [e1]
  unfold addSR
  by_cases c : acc.length + y.length ≤ sizeLine
  · rw [if_pos c, if_pos c]; exact kk _
  · rw [if_neg c, if_neg c]; first | trivial | exact ⟨trivial⟩
theorem f_jsN {acc : Str} (k : Sm (K (.fz (enc acc)) e) P G X) : Sm ((dJs [] acc e).bind K) P G X := k
def slSL (z : Str) (K : RV → M γ) : RV → M γ := fun q e => match view e q with
  | some (.int i) => K (.fz (.str (cutS z (some i) none))) e
  | _ => .st
theorem f_slSF {b : M RV} {k : Unit → Res α} (h : Has pn S e) (kr : ROk r oa) (kk : Sm ((b e).bind (slSL x K)) (k ()) G X) (da : Dt S oa (enc x) := by first | exact .f | exact .vz rfl | exact .u rfl) : Sm (slSK (dPart b) dNoPart K r e) ((okS x).bind k) G X := by
  unfold slSK
  rw [da.view h kr]
  show Sm (if x.length ≤ sizeLine then (dPart b e).bind fun lo e2 => (dNoPart e2).bind fun hi e3 => K (.fz (.str (cutS x lo hi))) e3 else .st) _ G X
  unfold okS
  by_cases c : x.length ≤ sizeLine
  · rw [if_pos c, if_pos c]
    have : ((dPart b e).bind fun lo e2 => (dNoPart e2).bind fun hi e3 => K (.fz (.str (cutS x lo hi))) e3) = (b e).bind (slSL x K) := by
      unfold dPart
      rw [mbind, rbind_assoc]
      congr 1; funext q e
      unfold slSL
      cases view e q with
      | none => rfl
      | some d => cases d <;> rfl
    rw [this]
    exact kk
  · rw [if_neg c, if_neg c]; first | trivial | exact ⟨trivial⟩
theorem f_slSL2 {i : Int} (h : Has pn S e) (kq : ROk q ob) (kk : Sm (K (.fz (enc (cutS x (some i) none))) e) P G X) (db : Dt S ob (.int i) := by first | exact .f | exact .vz rfl | exact .u rfl) : Sm (slSL x K q e) P G X := by
  unfold slSL
  rw [db.view h kq]
  exact kk
end
end VF
set_option maxRecDepth 100000
set_option maxHeartbeats 4000000
namespace VF
set_option autoImplicit false
open PySem L2
def Hd {α : Type} (p : Res α) (Q : α → Prop) : Prop := ∃ a, p = .ok a ∧ Q a
section
variable {α β γ σ τ : Type}
theorem Hd.bind {p : Res α} {q : α → Res β} {Q : β → Prop} {R : α → Prop} (h : Hd p R) (k : ∀ a, R a → Hd (q a) Q) : Hd (p.bind q) Q := by
  obtain ⟨a, rfl, h2⟩ := h
  exact k a h2
theorem Hd.ok {a : α} {Q : α → Prop} (h : Q a) : Hd (.ok a) Q := ⟨a, rfl, h⟩
theorem Hd.true {p : Res Bool} (h : Hd p (· = true)) : p = .ok true := by obtain ⟨a, h1, rfl⟩ := h; exact h1
theorem Hd.mono {p : Res α} {Q R : α → Prop} (h : Hd p Q) (k : ∀ a, Q a → R a) : Hd p R := by obtain ⟨a, h1, h2⟩ := h; exact ⟨a, h1, k a h2⟩
@[simp] theorem bind_ok_self (p : Res α) : (p.bind fun a => .ok a) = p := by cases p <;> rfl
@[simp] theorem bind_ok_self' (p : Res α) : p.bind Res.ok = p := by cases p <;> rfl
theorem size_le {n : Nat} (h : n ≤ 1000000) : n ≤ sizeLine := size_ge (by omega)
theorem size_lt {n : Nat} (h : n ≤ 1000000) : n < sizeLine := size_gt (by omega)
theorem s62 {n : Int} (h : -1000000000 ≤ n) (h2 : n ≤ 1000000000) : small62 n = true := by
  rw [small62_def]; exact decide_eq_true (by omega)
theorem modR_ok {x y : Int} (h : 0 < y) : modR x y = .ok (x % y) := if_pos h
theorem appR_ok {xs : List α} {x : α} (h : xs.length ≤ 1000000) : appR xs x = .ok (xs ++ [x]) := by unfold appR; rw [okLt_eq]; exact if_pos (decide_eq_true (size_lt h))
theorem catR_ok {xs ys : List α} (h : xs.length + ys.length ≤ 1000000) : catR xs ys = .ok (xs ++ ys) := by unfold catR; rw [okLe_eq]; exact if_pos (decide_eq_true (size_le h))
theorem geti_nat {xs : List α} {i : Nat} (h : i < xs.length) : geti xs (i : Int) = .ok xs[i] := by
  unfold geti
  rw [atI_nonneg _ _ (by omega), Int.toNat_natCast, List.getElem?_eq_getElem h]
theorem geti_int {xs : List α} {i : Int} (h0 : 0 ≤ i) (h : i.toNat < xs.length) : geti xs i = .ok xs[i.toNat] := by
  unfold geti
  rw [atI_nonneg _ _ h0, List.getElem?_eq_getElem h]
theorem geti_last {xs : List α} {x : α} (h : xs.getLast? = some x) : geti xs (-1) = .ok x := by
  unfold geti
  rw [atI_neg1, h]
theorem irng_len (lo : Int) (n : Nat) : (irng lo n).length = n := by simp [irng]
theorem rng1_ok {n : Int} (h : n ≤ 1000000) (h0 : -1000000 ≤ n) : rng1R n = .ok (irng 0 n.toNat) := by unfold rng1R; rw [ok62_eq]; exact if_pos (s62 (by omega) (by omega))
theorem rng_ok {a b : Int} (h : -1000000 ≤ a) (h1 : a ≤ 1000000) (h2 : -1000000 ≤ b) (h3 : b ≤ 1000000) : rngR a b = .ok (irng a (b - a).toNat) := by
  unfold rngR
  rw [if_pos]
  rw [ok62_eq, ok62_eq, s62 (by omega) (by omega), s62 (by omega) (by omega)]; rfl
theorem compGo_ok {f : α → σ → Res (Option β × σ)} {g : α → Option β} {s : σ} : ∀ (xs : List α) (acc : List β), (∀ x ∈ xs, f x s = .ok (g x, s)) → compGo f xs s acc = .ok (acc ++ xs.filterMap g, s)
  | [], acc, _ => by simp [compGo]
  | x :: xs, acc, h => by
    have hx := h x List.mem_cons_self
    have ht := fun y hy => h y (List.mem_cons_of_mem _ hy)
    unfold compGo
    rw [hx]
    cases q : g x with
    | none => simp only; rw [compGo_ok xs acc ht, List.filterMap_cons, q]
    | some y => simp only; rw [compGo_ok xs (acc ++ [y]) ht, List.filterMap_cons, q]; simp
theorem filC_some {f : α → Res (Option β)} {g : α → Option β} {xs : List α} (hl : xs.length ≤ 1000000) (h : ∀ x ∈ xs, f x = .ok (g x)) : filC f xs = .ok (xs.filterMap g) := by
  unfold filC filS
  rw [okLe_eq, if_pos (decide_eq_true (size_le hl)), compGo_ok (g := g) xs [] (fun x hx => by rw [h x hx]; rfl)]
  rfl
theorem mapC_ok {f : α → Res β} {g : α → β} {xs : List α} (hl : xs.length ≤ 1000000) (h : ∀ x ∈ xs, f x = .ok (g x)) : mapC f xs = .ok (xs.map g) := by
  unfold mapC
  rw [filC_some (g := fun x => some (g x)) hl (fun x hx => by rw [h x hx]; rfl)]
  simp
theorem filC_ok {f : α → Res (Option β)} {c : α → Bool} {g : α → β} {xs : List α} (hl : xs.length ≤ 1000000) (h : ∀ x ∈ xs, f x = .ok (if c x = true then some (g x) else none)) : filC f xs = .ok ((xs.filter c).map g) := by
  rw [filC_some hl h]
  congr 1
  induction xs with
  | nil => rfl
  | cons x xs ih =>
    have := ih (by simp only [List.length_cons] at hl; omega) (fun y hy => h y (List.mem_cons_of_mem _ hy))
    rw [List.filterMap_cons]
    cases q : c x with
    | true => rw [if_pos rfl, List.filter_cons, q, if_pos rfl, List.map_cons]; simp only; rw [this]
    | false => rw [if_neg (by decide), List.filter_cons, q, if_neg (by decide)]; simp only; rw [this]
theorem filC_id {f : α → Res (Option α)} {c : α → Bool} {xs : List α} (hl : xs.length ≤ 1000000) (h : ∀ x ∈ xs, f x = .ok (if c x = true then some x else none)) : filC f xs = .ok (xs.filter c) := by
  rw [filC_ok (g := id) hl h, List.map_id]
theorem filC_idI {f : α → Res (Option α)} {c : α → Bool} {xs : List α} (hl : xs.length ≤ 1000000) (h : ∀ x ∈ xs, f x = if c x = true then .ok (some x) else .ok none) : filC f xs = .ok (xs.filter c) :=
  filC_id hl fun x hx => by rw [h x hx]; split <;> rfl
inductive All2 (Q : α → β → Prop) : List α → List β → Prop
  | nil : All2 Q [] []
  | cons {a : α} {b : β} {as : List α} {bs : List β} : Q a b → All2 Q as bs → All2 Q (a :: as) (b :: bs)
theorem All2.len {Q : α → β → Prop} {as : List α} {bs : List β} (h : All2 Q as bs) : bs.length = as.length := by
  induction h with
  | nil => rfl
  | cons _ _ ih => simp [ih]
theorem All2.mem {Q : α → β → Prop} {as : List α} {bs : List β} (h : All2 Q as bs) : ∀ b ∈ bs, ∃ a ∈ as, Q a b := by
  induction h with
  | nil => intro b hb; cases hb
  | cons q _ ih =>
    intro b hb
    rcases List.mem_cons.mp hb with rfl | hb
    · exact ⟨_, List.mem_cons_self, q⟩
    · obtain ⟨a, h1, h2⟩ := ih b hb
      exact ⟨a, List.mem_cons_of_mem _ h1, h2⟩
theorem All2.get {Q : α → β → Prop} {as : List α} {bs : List β} (h : All2 Q as bs) : ∀ (i : Nat) (h1 : i < as.length) (h2 : i < bs.length), Q as[i] bs[i] := by
  induction h with
  | nil => intro i h1; simp at h1
  | cons q _ ih =>
    intro i h1 h2
    cases i with
    | zero => exact q
    | succ i => exact ih i (by simpa using h1) (by simpa using h2)
theorem compGo_hd {f : α → σ → Res (Option β × σ)} {Q : α → β → Prop} : ∀ (xs : List α) (s : σ) (acc : List β), (∀ x ∈ xs, ∀ s, Hd (f x s) fun p => ∃ y, p.1 = some y ∧ Q x y) → Hd (compGo f xs s acc) fun p => ∃ ys, p.1 = acc ++ ys ∧ All2 Q xs ys
  | [], s, acc, _ => ⟨(acc, s), rfl, [], by simp, .nil⟩
  | x :: xs, s, acc, h => by
    obtain ⟨⟨o, s'⟩, h1, y, h2, h3⟩ := h x List.mem_cons_self s
    cases h2
    obtain ⟨p, h4, ys, h5, h6⟩ := compGo_hd xs s' (acc ++ [y]) (fun y hy => h y (List.mem_cons_of_mem _ hy))
    refine ⟨p, ?_, y :: ys, by rw [h5]; simp, .cons h3 h6⟩
    unfold compGo
    rw [h1]
    exact h4
theorem mapS_hd {f : α → σ → Res (β × σ)} {Q : α → β → Prop} {xs : List α} {s : σ} (hl : xs.length ≤ 1000000) (h : ∀ x ∈ xs, ∀ s, Hd (f x s) fun p => Q x p.1) : Hd (mapS f xs s) fun p => All2 Q xs p.1 := by
  unfold mapS filS
  rw [okLe_eq, if_pos (decide_eq_true (size_le hl))]
  refine (compGo_hd (Q := Q) xs s [] fun x hx s => ?_).mono fun p ⟨ys, h1, h2⟩ => by rw [h1]; simpa using h2
  obtain ⟨p, h1, h2⟩ := h x hx s
  exact ⟨(some p.1, p.2), by rw [h1]; rfl, p.1, rfl, h2⟩
theorem foldR_hd {f : α → σ → Res σ} {xs : List α} {s : σ} (I : Nat → σ → Prop) (h0 : I 0 s) (step : ∀ (i : Nat) (h : i < xs.length) s, I i s → Hd (f xs[i] s) (I (i + 1))) : Hd (foldR f xs s) (I xs.length) := by
  induction xs generalizing s I with
  | nil => exact ⟨s, rfl, h0⟩
  | cons x xs ih =>
    obtain ⟨s', h1, h2⟩ := step 0 (by simp) s h0
    unfold foldR
    rw [show f x s = .ok s' from h1]
    exact ih (fun i => I (i + 1)) h2 fun i h s hs => step (i + 1) (by simpa using h) s hs
theorem foldR_app {f : α → List β → Res (List β)} {g : α → β} : ∀ (xs : List α) (acc : List β), acc.length + xs.length ≤ 1000000 → (∀ x ∈ xs, ∀ acc, f x acc = appR acc (g x)) → foldR f xs acc = .ok (acc ++ xs.map g)
  | [], acc, _, _ => by simp [foldR]
  | x :: xs, acc, hl, h => by
    rw [List.length_cons] at hl
    unfold foldR
    rw [h x List.mem_cons_self, appR_ok (by omega)]
    show foldR f xs (acc ++ [g x]) = _
    rw [foldR_app xs (acc ++ [g x]) (by simp; omega) fun y hy => h y (List.mem_cons_of_mem _ hy)]
    simp
theorem forR_go {f : α → σ → Res (Lp σ τ)} {k : σ → Res τ} {Q : τ → Prop} : ∀ {xs : List α} {s : σ} (I : Nat → σ → Prop), I 0 s → (∀ (i : Nat) (h : i < xs.length) s, I i s → Hd (f xs[i] s) fun l => ∃ s', l = .go s' ∧ I (i + 1) s') → (∀ s, I xs.length s → Hd (k s) Q) → Hd (forR f xs s k) Q
  | [], s, I, h0, _, hk => hk s h0
  | x :: xs, s, I, h0, step, hk => by
    obtain ⟨l, h1, s', rfl, h2⟩ := step 0 (by simp) s h0
    unfold forR
    rw [show f x s = .ok (.go s') from h1]
    exact forR_go (fun i => I (i + 1)) h2 (fun i h s hs => step (i + 1) (by simpa using h) s hs) hk
end
end VF
set_option maxRecDepth 100000
set_option maxHeartbeats 4000000
namespace V
set_option autoImplicit false
open PySem L2 VF
open Enc (enc)
def d_total : M Fl := (dSeq (dSet 2 (dC (.int 0)))
  (dSeq (dFor (dIt (dVar 1)) (gN 3) (dSet 2 (dOp fMod (dOp (fI (· + ·)) (dVar 2) (dVar 3)) (dVar 0))))
  (dRet (dVar 2))))
def φ_total : Fn := mkFn0 [false, false] 4 d_total
def p_total (prime : Int) (numbers : List Int) : Res Int :=
(Res.ok (0 : Int)).bind fun result =>
(foldR (fun number result =>
(modR ((result + number)) prime).bind fun t19 =>
(Res.ok (t19 : Int)).bind fun result =>
.ok result) numbers result).bind fun result =>
.ok result
theorem ss_total (prime : Int) (numbers : List Int) : FS false (φ_total [.fz (enc prime), .fz (enc numbers)]) (p_total prime numbers) (fun t => .fz (enc t)) (fun t => [.fz (enc prime), .fz (enc numbers)]) := by
  refine fs_mk0 [.fz (enc prime), .fz (enc numbers), .clr, .clr] rfl (by repeat (first | exact trivial | refine ⟨rfl, ?_⟩)) fun e0 h0 => ?_
  unfold p_total
  unfold d_total
  refine c_seq ?_
  refine c_set ?_
  refine c_pure h0 (p_c) fun r1 k2 => ?_
  refine f_setL (v := (0 : Int)) (fun v => .fz (enc v)) h0 k2 .f (by decide) fun result _ h3 => ?_
  try dsimp only [List.set_cons_zero, List.set_cons_succ] at h3
  refine c_nx ?_
  refine c_seq ?_
  refine c_for ?_
  refine c_it ?_
  refine c_pure h3 (p_fz rfl) fun r4 k5 => ?_
  refine f_it (xs := numbers) h3 k5 .f fun _ h6 => ?_
  refine f_fold (fun (s : Int) => [.fz (enc prime), .fz (enc numbers), .fz (enc s), .cf]) (fun _ _ => tg_n) ?_ ?_ h6
  · rintro number result _ h14
    try dsimp only [List.set_cons_zero, List.set_cons_succ] at h14 ⊢
    refine c_set ?_
    refine c_op ?_
    refine c_pure h14 (p_int (p_fz rfl) (p_fz rfl)) fun r15 k16 => ?_
    refine c_op2 ?_
    refine c_pure h14 (p_fz rfl) fun r17 k18 => ?_
    refine f_mod h14 k16 k18 (kk := fun t19 => ?_)
    refine f_setL (v := (t19 : Int)) (fun v => .fz (enc v)) h14 rk_f .f (by decide) fun result _ h20 => ?_
    try dsimp only [List.set_cons_zero, List.set_cons_succ] at h20
    exact f_jc h20
  rintro result _ h22
  try dsimp only [List.set_cons_zero, List.set_cons_succ] at h22 ⊢
  refine c_nx ?_
  refine c_ret ?_
  refine c_pure h22 (p_fz rfl) fun r23 k24 => ?_
  refine f_ret ?_
  exact f_rt h22 k24 .f (.f (.f .nil))
end V
set_option maxRecDepth 100000
set_option maxHeartbeats 4000000
namespace V
set_option autoImplicit false
open PySem L2 VF
section
variable {α β γ : Type}
def Sg : Nat → (Nat → Int) → Int
  | 0, _ => 0
  | n + 1, f => Sg n f + f n
theorem getD_lt {xs : List α} {i : Nat} (d : α) (h : i < xs.length) : xs.getD i d = xs[i] := by
  rw [List.getD_eq_getElem?_getD, List.getElem?_eq_getElem h]; rfl
theorem geti_D {xs : List α} {i : Nat} (d : α) (h : i < xs.length) : geti xs (i : Int) = .ok (xs.getD i d) := by rw [geti_nat h, getD_lt d h]
end
theorem total_ok {p : Int} (hp : 0 < p) (ns : List Int) : p_total p ns = .ok (ns.sum % p) := by
  unfold p_total
  simp only [Res.bind_ok, bind_ok_self]
  have : ∀ (ns : List Int) (a : Int), foldR (fun number result => modR (result + number) p) ns (a % p) = .ok ((a + ns.sum) % p) := by
    intro ns
    induction ns with
    | nil => intro a; simp [foldR]
    | cons n ns ih =>
      intro a
      unfold foldR
      rw [modR_ok hp, Res.bind_ok, Int.emod_add_emod, ih (a + n), List.sum_cons]
      congr 2; omega
  have h := this ns 0
  rwa [Int.zero_emod, Int.zero_add] at h
end V
set_option maxRecDepth 100000
set_option maxHeartbeats 4000000
namespace V
set_option autoImplicit false
open PySem L2 VF
section
variable {α β γ : Type}
end
def tb (t : List (List Int)) (k : Nat) (m : Int) : Int := (t.getD k []).getD m.toNat 0
def at3 (ps : List (List (List Int))) (a k h : Nat) : Int := ((ps.getD a []).getD k []).getD h 0
def newL (p : Int) (ps : List (List (List Int))) (m n : Nat) : List (List Int) :=
  (List.range n).map fun k => (List.range m).map fun j => (Sg ps.length fun h => at3 ps h k j) % p
end V
set_option maxRecDepth 100000
set_option maxHeartbeats 4000000
namespace V
set_option autoImplicit false
open PySem L2 VF
section
variable {α β γ σ τ : Type}
theorem forR_inv {f : α → σ → Res (Lp σ τ)} {k : σ → Res τ} {Q : τ → Prop} : ∀ {xs : List α} {s : σ} (I : Nat → σ → Prop), I 0 s → (∀ (i : Nat) (h : i < xs.length) s, I i s → Hd (f xs[i] s) fun l => (∃ s', l = .go s' ∧ I (i + 1) s') ∨ ∃ t, l = .out t ∧ Q t) → (∀ s, I xs.length s → Hd (k s) Q) → Hd (forR f xs s k) Q
  | [], s, I, h0, _, hk => hk s h0
  | x :: xs, s, I, h0, step, hk => by
    obtain ⟨l, h1, h2⟩ := step 0 (by simp) s h0
    unfold forR
    rw [show f x s = .ok l from h1, Res.bind_ok]
    rcases h2 with ⟨s', rfl, h2⟩ | ⟨t, rfl, h2⟩
    · exact forR_inv (fun i => I (i + 1)) h2 (fun i h s hs => step (i + 1) (by simpa using h) s hs) hk
    · exact Hd.ok h2
theorem forR_find {f : α → Unit → Res (Lp Unit τ)} {k : Unit → Res τ} {c : α → Bool} {g : α → τ} : ∀ {xs : List α}, (∀ x ∈ xs, f x () = if c x = true then .ok (.out (g x)) else .ok (.go ())) → forR f xs () k = (xs.find? c).elim (k ()) fun x => .ok (g x)
  | [], _ => rfl
  | x :: xs, h => by
    unfold forR
    rw [h x List.mem_cons_self, List.find?_cons]
    cases q : c x with
    | true => simp
    | false => exact forR_find fun y hy => h y (List.mem_cons_of_mem _ hy)
end
theorem maxR_spec {xs : List Int} (h : xs ≠ []) : ∃ m, maxR xs = .ok m ∧ m ∈ xs ∧ ∀ x ∈ xs, x ≤ m := by
  have key : ∀ (x : Int) (ys : List Int), maxI x ys ∈ x :: ys ∧ ∀ z ∈ x :: ys, z ≤ maxI x ys := fun x ys => by
    obtain ⟨h1, h2, h3⟩ := maxI_ge ys x
    refine ⟨?_, fun z hz => ?_⟩
    · rcases h3 with h3 | h3
      · rw [h3]; exact List.mem_cons_self
      · exact List.mem_cons_of_mem _ h3
    · rcases List.mem_cons.mp hz with rfl | hz
      · exact h1
      · exact h2 z hz
  match xs with
  | [] => exact absurd rfl h
  | [x] => exact ⟨x, rfl, List.mem_cons_self, fun z hz => by rw [List.mem_singleton] at hz; omega⟩
  | [x, y] => exact ⟨_, rfl, (key x [y]).1, (key x [y]).2⟩
  | x :: y :: z :: r => exact ⟨_, rfl, (key x (y :: z :: r)).1, (key x (y :: z :: r)).2⟩
abbrev nt (L : List Int) (j : Nat) : Int := L.getD j 0
structure LM (L : List Int) (j : Nat) : Prop where
  lt : j < L.length
  le : ∀ i, i < L.length → nt L j ≤ nt L i
  last : ∀ i, i < L.length → j < i → nt L j < nt L i
structure FM (L : List Int) (j : Nat) : Prop where
  lt : j < L.length
  ge : ∀ i, i < L.length → nt L i ≤ nt L j
  first : ∀ i, i < j → nt L i < nt L j
end V
set_option maxRecDepth 100000
set_option maxHeartbeats 4000000
namespace V
set_option autoImplicit false
open PySem L2 VF
open Enc (enc)
def d__law_draw : M Fl := (dSeq (dSet 2 (dIx (dVar 0) (dC (.int 1))))
  (dSeq (dSetIx 0 (dC (.int 1)) (dOp (fI (· + ·)) (dVar 2) (dC (.int 1))))
  (dSeq (dIf (dT (dOp (fB fun i j => decide (i < j)) (dVar 2) (dCB lenD (dCons (dIx (dVar 0) (dC (.int 0))) dNil)))) (dRet (dOp fMod (dCB intD (dCons (dIx (dIx (dVar 0) (dC (.int 0))) (dVar 2)) dNil)) (dVar 1))) dNext)
  (dRet (dOp fMod (dCB intD (dCons (dOp (fI (· + ·)) (dOp fMul (dVar 2) (dC (.int 7))) (dC (.int 3))) dNil)) (dVar 1))))))
def φ__law_draw : Fn := mkFn0 [true, false] 3 d__law_draw
def drawW (ds : List Int) (at_ : Nat) (many : Int) : Int := match ds[at_]? with
  | some d => d % many
  | none => ((at_ : Int) * 7 + 3) % many
theorem mul7 (a : Int) : fMul (.int a) (.int 7) = some (.int (a * 7)) := if_pos (by rw [show inB 7 64 = true by decide, Bool.or_true])
def dDr (f : D → D → Option D) : M Fl := (dSeq (dSet 2 (dIx (dVar 0) (dC (.int 1))))
  (dSeq (dSetIx 0 (dC (.int 1)) (dOp (fI (· + ·)) (dVar 2) (dC (.int 1))))
  (dSeq (dIf (dT (dOp (fB fun i j => decide (i < j)) (dVar 2) (dCB lenD (dCons (dIx (dVar 0) (dC (.int 0))) dNil)))) (dRet (dOp fMod (dCB intD (dCons (dIx (dIx (dVar 0) (dC (.int 0))) (dVar 2)) dNil)) (dVar 1))) dNext)
  (dRet (dOp fMod (dCB intD (dCons (dOp (fI (· + ·)) (dOp f (dVar 2) (dC (.int 7))) (dC (.int 3))) dNil)) (dVar 1))))))
theorem drawW_okG (f : D → D → Option D) (hf : ∀ a : Int, f (.int a) (.int 7) = some (.int (a * 7))) (ds : List Int) (at_ : Nat) (many : Int) (hm : 0 < many) : mkFn0 [true, false] 3 (dDr f) [box ds at_, .fz (.int many)] = .ok (.fz (.int (drawW ds at_ many))) [box ds (at_ + 1), .fz (.int many)] := by
  have hb := hf at_
  cases h : ds[at_]? with
  | some d =>
    have h1 : (at_ : Int) < ds.length := by have := (List.getElem?_eq_some_iff.mp h).1; omega
    simp [mkFn0, mkFn, okArgs, env0, pinIx, dDr, box, List.replicate, h, h1, hm, drawW]
  | none =>
    have h1 : ¬ (at_ : Int) < ds.length := by have := List.getElem?_eq_none_iff.mp h; omega
    simp [mkFn0, mkFn, okArgs, env0, pinIx, dDr, box, List.replicate, h, h1, hm, drawW, hb]
theorem drawW_ok (ds : List Int) (at_ : Nat) (many : Int) (hm : 0 < many) : φ__law_draw [box ds at_, .fz (.int many)] = .ok (.fz (.int (drawW ds at_ many))) [box ds (at_ + 1), .fz (.int many)] := drawW_okG fMul mul7 ds at_ many hm
def p__law_draw (b : Bx) (many : Int) : Res (Int × Bx) := if 0 < many then .ok (drawW b.ds b.at_ many, ⟨b.ds, b.at_ + 1⟩) else .st
theorem ss__law_draw (b : Bx) (many : Int) : FS false (φ__law_draw [.ol (fzs (boxD b)), .fz (enc many)]) (p__law_draw b many) (fun t => .fz (enc t.1)) (fun t => [.ol (fzs (boxD t.2)), .fz (enc many)]) := by
  unfold p__law_draw
  split
  · rename_i h
    exact ⟨drawW_ok b.ds b.at_ many h⟩
  · exact ⟨trivial⟩
noncomputable def cellC (ns : List Int) (k : Nat) : Int := Classical.choose (cell_ok ns k)
noncomputable def p__law_cell (ns : List Int) (k : Int) : Res Int := if 0 ≤ k then .ok (cellC ns k.toNat) else .st
theorem ss__law_cell (ns : List Int) (k : Int) : FS false (φ__law_cell [.fz (.scr ns), .fz (enc k)]) (p__law_cell ns k) (fun t => .fz (enc t)) (fun _ => [.fz (.scr ns), .fz (enc k)]) := by
  unfold p__law_cell
  split
  · rename_i h
    obtain ⟨j, rfl⟩ := Int.eq_ofNat_of_zero_le h
    exact ⟨Classical.choose_spec (cell_ok ns j)⟩
  · exact ⟨trivial⟩
theorem drawW_lt (ds : List Int) (a : Nat) (m : Int) (h : 0 < m) : 0 ≤ drawW ds a m ∧ drawW ds a m < m := by
  unfold drawW
  split <;> exact ⟨Int.emod_nonneg _ (by omega), Int.emod_lt_of_pos _ h⟩
theorem hd_drw {β : Type} {b : Bx} {m : Int} {q : Int × Bx → Res β} {Q : β → Prop} (h : 0 < m) (k : ∀ v b, 0 ≤ v → v < m → Hd (q (v, b)) Q) : Hd ((p__law_draw b m).bind q) Q := by
  unfold p__law_draw
  rw [if_pos h, Res.bind_ok]
  exact k _ _ (drawW_lt _ _ _ h).1 (drawW_lt _ _ _ h).2
end V
set_option maxRecDepth 100000
set_option maxHeartbeats 4000000
namespace V
set_option autoImplicit false
open PySem L2 VF
open Enc (enc)
def d__law_row : M Fl := (dSeq (dSet 3 (dLst dNil))
  (dSeq (dIf (dT (dOp (fB fun i j => decide (i < j)) (dVar 0) (dC (.int 0)))) (dSet 0 (dOp (fI (· - ·)) (dC (.int 1)) (dOp fMul (dC (.int 2)) (dVar 0)))) dNext)
  (dSeq (dIf (dT (dOp (fB fun i j => decide (j ≤ i)) (dVar 0) (dOp fPow (dC (.int 10)) (dC (.int 18))))) (dSeq (dFor (dRng1 (dCons (dC (.int 60)) dNil)) (gN 5) (dIf (dAnd (dT (dOp (fB fun i j => decide (j < i)) (dVar 0) (dC (.int 0)))) (dT (dOp (fB fun i j => decide (i < j)) (dCB lenD (dCons (dVar 3) dNil)) (dVar 2)))) (dSeq (dDrop (dApp 3 (dOp fMod (dCB intD (dCons (dVar 0) dNil)) (dC (.int 1000)))))
  (dSet 0 (dOp fDiv (dVar 0) (dC (.int 1000))))) dNext))
  (dRet (dVar 3))) dNext)
  (dSeq (dSet 4 (dOp fMod (dCB intD (dCons (dOp (fI (· + ·)) (dOp (fI (· + ·)) (dOp fMul (dVar 0) (dC (.int 48271))) (dOp fMul (dVar 1) (dC (.int 69621)))) (dC (.int 11))) dNil)) (dC (.int 2147483647))))
  (dSeq (dFor (dRng1 (dCons (dVar 2) dNil)) (gN 5) (dSeq (dSet 4 (dOp fMod (dCB intD (dCons (dOp (fI (· + ·)) (dOp (fI (· + ·)) (dOp fMul (dVar 4) (dC (.int 16807))) (dOp fMul (dC (.int 7)) (dVar 5))) (dC (.int 1))) dNil)) (dC (.int 2147483647))))
  (dDrop (dApp 3 (dOp fMod (dCB intD (dCons (dOp fDiv (dVar 4) (dC (.int 997))) dNil)) (dC (.int 1000)))))))
  (dRet (dVar 3)))))))
def φ__law_row : Fn := mkFn0 [false, false, false] 6 d__law_row
def d__law_box : M Fl := (dSeq (dSet 3 (dLst dNil))
  (dSeq (dFor (dRng2 (dCons (dVar 1) (dCons (dVar 2) dNil))) (gN 4) (dSet 3 (dAddL (dVar 3) (dCall [false, false, false] φ__law_row (dCons (dCall [false, false] φ__law_cell (dCons (dVar 0) (dCons (dVar 4) dNil))) (dCons (dVar 4) (dCons (dC (.int 12)) dNil)))))))
  (dRet (dLst (dCons (dVar 3) (dCons (dC (.int 0)) dNil))))))
def φ__law_box : Fn := mkFn0 [false, false, false] 5 d__law_box
def p__law_row (cellH : Int) (k' : Int) (many : Int) : Res (List Int) :=
(Res.ok (([] : List Int) : List Int)).bind fun rowH =>
(if (decide (cellH < 0)) = true then
(Res.ok ((1 - (2 * cellH)) : Int)).bind fun cellH =>
Res.ok cellH
else
Res.ok cellH).bind fun cellH =>
(powR 10 18).bind fun t19 =>
if (decide (t19 ≤ cellH)) = true then
(rng1R 60).bind fun xs22 =>
(foldR (fun turn (cellH, rowH) =>
(if ((decide (0 < cellH)) && (decide ((rowH.length : Int) < many))) = true then
(appR rowH ((cellH % 1000))).bind fun rowH =>
(Res.ok ((cellH / 1000) : Int)).bind fun cellH =>
Res.ok (cellH, rowH)
else
Res.ok (cellH, rowH)).bind fun (cellH, rowH) =>
Res.ok (cellH, rowH)) xs22 (cellH, rowH)).bind fun (cellH, rowH) =>
Res.ok rowH
else
(Res.ok (((((cellH * 48271) + (k' * 69621)) + 11) % 2147483647) : Int)).bind fun seed =>
(rng1R many).bind fun xs70 =>
(foldR (fun turn (rowH, seed) =>
(Res.ok (((((seed * 16807) + (7 * turn)) + 1) % 2147483647) : Int)).bind fun seed =>
(appR rowH (((seed / 997) % 1000))).bind fun rowH =>
Res.ok (rowH, seed)) xs70 (rowH, seed)).bind fun (rowH, seed) =>
Res.ok rowH
theorem ss__law_row (cellH : Int) (k' : Int) (many : Int) : FS false (φ__law_row [.fz (enc cellH), .fz (enc k'), .fz (enc many)]) (p__law_row cellH k' many) (fun t => .ol (fzs (encs t))) (fun t => [.fz (enc cellH), .fz (enc k'), .fz (enc many)]) := by
  refine fs_mk0 [.fz (enc cellH), .fz (enc k'), .fz (enc many), .clr, .clr, .clr] rfl (by repeat (first | exact trivial | refine ⟨rfl, ?_⟩)) fun e0 h0 => ?_
  unfold p__law_row
  unfold d__law_row
  refine c_seq ?_
  refine c_set ?_
  refine c_pure h0 (p_lst pa_nil' .nil) fun r1 k2 => ?_
  refine f_setL (v := (([] : List Int) : List Int)) (fun v => .ol (encs v)) h0 k2 .w (by decide) fun rowH _ h3 => ?_
  try dsimp only [List.set_cons_zero, List.set_cons_succ] at h3
  refine c_nx ?_
  refine c_seq ?_
  refine c_if ?_
  refine c_pureB h3 (b_t (p_cmp (p_fz rfl) (p_c))) ?_
  refine f_ifJ h3 (fun (s : Int) => [.fz (enc s), .fz (enc k'), .fz (enc many), .ol (encs rowH), .clr, .clr]) (fun _ => ?_) (fun _ => ?_) ?_
  · refine c_set ?_
    refine c_pure h3 (p_int (p_c) (p_mulL (p_c) (p_fz rfl))) fun r8 k9 => ?_
    refine f_setL (v := ((1 - (2 * cellH)) : Int)) (fun v => .fz (enc v)) h3 k9 .f (by decide) fun cellH _ h10 => ?_
    try dsimp only [List.set_cons_zero, List.set_cons_succ] at h10
    exact f_jn h10
  · refine c_next ?_
    exact f_jn h3
  rintro cellH _ h12
  try dsimp only [List.set_cons_zero, List.set_cons_succ] at h12 ⊢
  refine c_nx ?_
  refine c_seq ?_
  refine c_if ?_
  refine c_t ?_
  refine c_op ?_
  refine c_pure h12 (p_fz rfl) fun r13 k14 => ?_
  refine c_op2 ?_
  refine c_op ?_
  refine c_pure h12 (p_c) fun r15 k16 => ?_
  refine c_op2 ?_
  refine c_pure h12 (p_c) fun r17 k18 => ?_
  refine f_pow h12 k16 k18 (kk := fun t19 => ?_)
  refine f_cmp h12 k14 rk_f (kk := ?_)
  refine f_t h12 rk_f ?_
  refine f_if (fun _ => ?_) (fun _ => ?_)
  · refine c_seq ?_
    refine c_for ?_
    refine c_rng1 ?_
    refine c_pureA h12 (pa_cons' (p_c) pa_nil') fun r20 k21 => ?_
    refine f_rng1' h12 k21 fun xs22 => ?_
    refine f_fold (fun (s : Int × List Int) => [.fz (enc s.1), .fz (enc k'), .fz (enc many), .ol (encs s.2), .clr, .cf]) (fun _ _ => tg_n) ?_ ?_ h12
    · rintro turn ⟨cellH, rowH⟩ _ h42
      try dsimp only [List.set_cons_zero, List.set_cons_succ] at h42 ⊢
      refine c_if ?_
      refine c_pureB h42 (b_and (b_t (p_cmp (p_fz rfl) (p_c))) (b_t (p_cmp (p_len (p_ol rfl)) (p_fz rfl)))) ?_
      refine f_ifJ h42 (fun (s : Int × List Int) => [.fz (enc s.1), .fz (enc k'), .fz (enc many), .ol (encs s.2), .clr, .fz (enc turn)]) (fun _ => ?_) (fun _ => ?_) ?_
      · refine c_seq ?_
        refine c_drop ?_
        refine c_app (ds := encs rowH) h42 rfl ?_
        refine c_pure h42 (p_modK (p_toInt (p_fz rfl)) (p_c) (h := by decide)) fun r52 k53 => ?_
        refine f_app (xs := rowH) (v := (cellH % 1000)) h42 k53 .f rfl fun rowH r54 _ k55 h56 => ?_
        try dsimp only [List.set_cons_zero, List.set_cons_succ] at h56
        refine f_drop ?_
        refine c_nx ?_
        refine c_set ?_
        refine c_pure h56 (p_divK (p_fz rfl) (p_c) (h := by decide)) fun r57 k58 => ?_
        refine f_setL (v := ((cellH / 1000) : Int)) (fun v => .fz (enc v)) h56 k58 .f (by decide) fun cellH _ h59 => ?_
        try dsimp only [List.set_cons_zero, List.set_cons_succ] at h59
        exact f_jn h59
      · refine c_next ?_
        exact f_jn h42
      rintro ⟨cellH, rowH⟩ _ h61
      try dsimp only [List.set_cons_zero, List.set_cons_succ] at h61 ⊢
      exact f_jc h61
    rintro ⟨cellH, rowH⟩ _ h62
    try dsimp only [List.set_cons_zero, List.set_cons_succ] at h62 ⊢
    refine c_nx ?_
    refine c_ret ?_
    refine c_pure h62 (p_ol rfl) fun r63 k64 => ?_
    refine f_ret ?_
    exact f_rt h62 k64 (.v rfl (by decide)) (.f (.f (.f .nil)))
  · refine c_next ?_
    refine c_nx ?_
    refine c_seq ?_
    refine c_set ?_
    refine c_pure h12 (p_modK (p_toInt (p_int (p_int (p_mulR (p_fz rfl) (p_c)) (p_mulR (p_fz rfl) (p_c))) (p_c))) (p_c) (h := by decide)) fun r65 k66 => ?_
    refine f_setL (v := (((((cellH * 48271) + (k' * 69621)) + 11) % 2147483647) : Int)) (fun v => .fz (enc v)) h12 k66 .f (by decide) fun seed _ h67 => ?_
    try dsimp only [List.set_cons_zero, List.set_cons_succ] at h67
    refine c_nx ?_
    refine c_seq ?_
    refine c_for ?_
    refine c_rng1 ?_
    refine c_pureA h67 (pa_cons' (p_fz rfl) pa_nil') fun r68 k69 => ?_
    refine f_rng1' h67 k69 fun xs70 => ?_
    refine f_fold (fun (s : List Int × Int) => [.fz (enc cellH), .fz (enc k'), .fz (enc many), .ol (encs s.1), .fz (enc s.2), .cf]) (fun _ _ => tg_n) ?_ ?_ h67
    · rintro turn ⟨rowH, seed⟩ _ h80
      try dsimp only [List.set_cons_zero, List.set_cons_succ] at h80 ⊢
      refine c_seq ?_
      refine c_set ?_
      refine c_pure h80 (p_modK (p_toInt (p_int (p_int (p_mulR (p_fz rfl) (p_c)) (p_mulL (p_c) (p_fz rfl))) (p_c))) (p_c) (h := by decide)) fun r81 k82 => ?_
      refine f_setL (v := (((((seed * 16807) + (7 * turn)) + 1) % 2147483647) : Int)) (fun v => .fz (enc v)) h80 k82 .f (by decide) fun seed _ h83 => ?_
      try dsimp only [List.set_cons_zero, List.set_cons_succ] at h83
      refine c_nx ?_
      refine c_drop ?_
      refine c_app (ds := encs rowH) h83 rfl ?_
      refine c_pure h83 (p_modK (p_toInt (p_divK (p_fz rfl) (p_c) (h := by decide))) (p_c) (h := by decide)) fun r84 k85 => ?_
      refine f_app (xs := rowH) (v := ((seed / 997) % 1000)) h83 k85 .f rfl fun rowH r86 _ k87 h88 => ?_
      try dsimp only [List.set_cons_zero, List.set_cons_succ] at h88
      refine f_drop ?_
      exact f_jc h88
    rintro ⟨rowH, seed⟩ _ h90
    try dsimp only [List.set_cons_zero, List.set_cons_succ] at h90 ⊢
    refine c_nx ?_
    refine c_ret ?_
    refine c_pure h90 (p_ol rfl) fun r91 k92 => ?_
    refine f_ret ?_
    exact f_rt h90 k92 (.v rfl (by decide)) (.f (.f (.f .nil)))
noncomputable def p__law_box (script : List Int) (first : Int) (last : Int) : Res Bx :=
(Res.ok (([] : List Int) : List Int)).bind fun rowH =>
(rngR first last).bind fun xs6 =>
(foldR (fun k' rowH =>
(p__law_cell script k').bind fun t36 =>
(p__law_row t36 k' 12).bind fun t44 =>
(catR rowH t44).bind fun t48 =>
(Res.ok (t48 : List Int)).bind fun rowH =>
Res.ok rowH) xs6 rowH).bind fun rowH =>
Res.ok (Bx.mk rowH 0)
theorem ss__law_box (script : List Int) (first : Int) (last : Int) : FS false (φ__law_box [.fz (.scr script), .fz (enc first), .fz (enc last)]) (p__law_box script first last) (fun t => .ol (fzs (boxD t))) (fun t => [.fz (.scr script), .fz (enc first), .fz (enc last)]) := by
  refine fs_mk0 [.fz (.scr script), .fz (enc first), .fz (enc last), .clr, .clr] rfl (by repeat (first | exact trivial | refine ⟨rfl, ?_⟩)) fun e0 h0 => ?_
  unfold p__law_box
  unfold d__law_box
  refine c_seq ?_
  refine c_set ?_
  refine c_pure h0 (p_lst pa_nil' .nil) fun r1 k2 => ?_
  refine f_setL (v := (([] : List Int) : List Int)) (fun v => .ol (encs v)) h0 k2 .w (by decide) fun rowH _ h3 => ?_
  try dsimp only [List.set_cons_zero, List.set_cons_succ] at h3
  refine c_nx ?_
  refine c_seq ?_
  refine c_for ?_
  refine c_rng2 ?_
  refine c_pureA h3 (pa_cons' (p_fz rfl) (pa_cons' (p_fz rfl) pa_nil')) fun r4 k5 => ?_
  refine f_rng2' h3 k5 fun xs6 => ?_
  refine f_fold (fun (s : List Int) => [.fz (.scr script), .fz (enc first), .fz (enc last), .ol (encs s), .cf]) (fun _ _ => tg_n) ?_ ?_ h3
  · rintro k' rowH _ h30
    try dsimp only [List.set_cons_zero, List.set_cons_succ] at h30 ⊢
    refine c_set ?_
    refine c_addL ?_
    refine c_pure h30 (p_ol rfl) fun r31 k32 => ?_
    refine f_addL1 (xs := rowH) h30 k32 (.v rfl) fun _ h33 => ?_
    refine c_call ?_
    refine c_cons ?_
    refine c_call ?_
    refine c_pureA h33 (pa_cons' (p_fz rfl) (pa_cons' (p_fz rfl) pa_nil')) fun r34 k35 => ?_
    refine f_call h33 k35 (.f .f (.f .f .nil)) (ss__law_cell script k') (fun _ => (.f (.f .nil))) (fun _ => rk_f) fun t36 r37 _ k38 h39 => ?_
    try dsimp only [List.set_cons_zero, List.set_cons_succ] at h39
    refine c_cons2 ?_
    refine c_cons ?_
    refine c_pure h39 (p_fz rfl) fun r40 k41 => ?_
    refine c_cons2 ?_
    refine c_cons ?_
    refine c_pure h39 (p_c) fun r42 k43 => ?_
    refine c_cons2 ?_
    refine c_nil ?_
    refine f_cons ?_
    refine f_cons ?_
    refine f_cons ?_
    refine f_call h39 (rks k38 (rks k41 (rks k43 rks0))) (.f .f (.f .f (.f .f .nil))) (ss__law_row t36 k' 12) (fun _ => (.f (.f (.f .nil)))) (fun _ => rk_w) fun t44 r45 _ k46 h47 => ?_
    try dsimp only [List.set_cons_zero, List.set_cons_succ] at h47
    refine f_addL2 h47 k46 .w fun t48 r49 _ k50 h51 => ?_
    refine f_setL (v := (t48 : List Int)) (fun v => .ol (encs v)) h51 k50 .w (by decide) fun rowH _ h52 => ?_
    try dsimp only [List.set_cons_zero, List.set_cons_succ] at h52
    exact f_jc h52
  rintro rowH _ h54
  try dsimp only [List.set_cons_zero, List.set_cons_succ] at h54 ⊢
  refine c_nx ?_
  refine c_ret ?_
  refine c_lst ?_
  refine c_pureA h54 (pa_cons' (p_ol rfl) (pa_cons' (p_c) pa_nil')) fun r55 k56 => ?_
  refine f_lst h54 k56 (.cons (.v rfl) (.cons .f .nil)) (Nat.le_of_ble_eq_true rfl) fun r57 _ k58 h59 => ?_
  refine f_ret ?_
  exact f_rt h59 k58 .w (.f (.f (.f .nil)))
end V
set_option maxRecDepth 100000
set_option maxHeartbeats 4000000
namespace V
set_option autoImplicit false
open PySem L2 VF
theorem p18 : powR 10 18 = .ok (10 ^ 18) := by unfold powR; rw [okPow_eq]; rfl
theorem row_hd (c k : Int) : Hd (p__law_row c k 12) fun L => L.length ≤ 60 := by
  unfold p__law_row
  rw [Res.bind_ok]
  refine Hd.bind (R := fun _ => True) (by split <;> exact ⟨_, rfl, trivial⟩) fun c _ => ?_
  rw [p18, Res.bind_ok]
  split
  · rw [rng1_ok (by omega) (by omega), Res.bind_ok]
    refine (foldR_hd (fun i (s : Int × List Int) => s.2.length ≤ i) (Nat.le_refl _) fun i hi s hs => ?_).bind fun s hs => Hd.ok (by rw [irng_len] at hs; exact hs)
    obtain ⟨c, L⟩ := s
    rw [irng_len] at hi
    dsimp only at hs ⊢
    have hi' : i < 60 := hi
    split
    · rw [appR_ok (by omega), Res.bind_ok, Res.bind_ok, Res.bind_ok]
      exact Hd.ok (by simp; omega)
    · rw [Res.bind_ok]
      exact Hd.ok (by dsimp only; omega)
  · rw [Res.bind_ok, rng1_ok (by omega) (by omega), Res.bind_ok]
    refine (foldR_hd (fun i (s : List Int × Int) => s.1.length ≤ i) (Nat.le_refl _) fun i hi s hs => ?_).bind fun s hs => Hd.ok (by rw [irng_len] at hs; exact Nat.le_trans hs (by decide))
    obtain ⟨L, c⟩ := s
    rw [irng_len] at hi
    dsimp only at hs ⊢
    have hi' : i < 12 := hi
    rw [Res.bind_ok, appR_ok (by omega), Res.bind_ok]
    exact Hd.ok (by simp; omega)
theorem box_hd (ns : List Int) {j : Int} (h0 : 0 ≤ j) (h1 : j ≤ 1000) : Hd (p__law_box ns 0 j) fun _ => True := by
  unfold p__law_box
  rw [Res.bind_ok, rng_ok (by omega) (by omega) (by omega) (by omega), Res.bind_ok]
  refine (foldR_hd (fun i (L : List Int) => L.length ≤ 60 * i) (Nat.le_refl _) fun i hi L hL => ?_).bind fun L _ => Hd.ok trivial
  rw [irng_len] at hi
  have ex : (irng 0 (j - 0).toNat)[i]'(by rw [irng_len]; exact hi) = (i : Int) := by simp [irng]
  rw [ex]
  have hc : p__law_cell ns (i : Int) = .ok (cellC ns i) := by unfold p__law_cell; rw [if_pos (by omega), Int.toNat_natCast]
  rw [hc, Res.bind_ok]
  refine (row_hd _ _).bind fun M hM => ?_
  rw [catR_ok (by omega), Res.bind_ok, Res.bind_ok]
  exact Hd.ok (by simp; omega)
end V
set_option maxRecDepth 100000
set_option maxHeartbeats 4000000
namespace V
set_option autoImplicit false
open PySem L2 VF
open Enc (enc)
section
variable {α γ ω ψ : Type} {pn : List Nat} {S S' S1 : List SD} {e : VF.Env} {X : Exc → VF.Env → Prop} {P : Res α} {G : α → γ → VF.Env → Prop} {oa ob : Opd}
end
def d__law_same : M Fl := (dRet (dOp fEqS (dCB reprD (dCons (dVar 0) dNil)) (dCB reprD (dCons (dVar 1) dNil))))
def φ__law_same : Fn := mkFn0 [false, false] 2 d__law_same
def showD (d : D) : Option Str := (toP d).bind fun p => if shownOk p = true then some p.shown else none
theorem reprD_show (d : D) : reprD [d] = (showD d).map D.str := by
  show (match toP d with | some p => if shownOk p = true then some (D.str p.shown) else none | none => none) = _
  unfold showD
  cases toP d with
  | none => rfl
  | some p => simp only [Option.bind_some]; split <;> rfl
def p__law_same {α β : Type} [Enc α] [Enc β] (a : α) (b : β) : Res Bool := match showD (enc a), showD (enc b) with
  | some x, some y => .ok (decide (x = y))
  | _, _ => .st
theorem same_ok (f g : D → D → Option D) (r : List D → Option D) (da db : D) (x y : Str) (c : Bool) (h1 : r [da] = some (.str x)) (h2 : r [db] = some (.str y)) (h3 : f (.str x) (.str y) = some (.bl c)) : mkFn0 [false, false] 2 (dRet (dOp f (dCB r (dCons (dVar 0) dNil)) (dCB r (dCons (dVar 1) dNil)))) [.fz da, .fz db] = .ok (.fz (.bl c)) [.fz da, .fz db] := by
  simp [mkFn0, mkFn, okArgs, env0, pinIx, List.replicate, h1, h2, h3]
theorem ss__law_same {α β : Type} [Enc α] [Enc β] (a : α) (b : β) : FS false (φ__law_same [.fz (enc a), .fz (enc b)]) (p__law_same a b) (fun t => .fz (enc t)) (fun _ => [.fz (enc a), .fz (enc b)]) := by
  unfold p__law_same
  cases h1 : showD (enc a) with
  | none => exact ⟨trivial⟩
  | some x =>
    cases h2 : showD (enc b) with
    | none => exact ⟨trivial⟩
    | some y => exact ⟨same_ok fEqS fEqS reprD _ _ x y (decide (x = y)) (by rw [reprD_show, h1]; rfl) (by rw [reprD_show, h2]; rfl) rfl⟩
theorem same_eq {α β : Type} [Enc α] [Enc β] {a : α} {b : β} {x : Str} (h : showD (enc a) = some x) (e : enc a = enc b) : p__law_same a b = .ok true := by
  unfold p__law_same
  rw [← e, h]
  simp
end V
set_option maxRecDepth 100000
set_option maxHeartbeats 4000000
namespace V
set_option autoImplicit false
open PySem L2 VF
open Enc (enc)
open TL (tl spl joinL)
theorem pre1 (s c : Nat) (r : List Nat) : TL.pre [s] (c :: r) = true ↔ c = s := by
  unfold TL.pre
  simp
theorem spl_ne (s : Nat) : ∀ (L acc : List Nat), spl [s] 0 acc L ≠ []
  | [], acc => by rw [TL.spl_nil]; simp
  | c :: r, acc => by
    by_cases h : TL.pre [s] (c :: r) = true
    · rw [TL.spl_hit h]; simp
    · rw [TL.spl_miss (by simpa using h)]; exact spl_ne s r _
theorem joinL_cons {S p : List Nat} {l : List (List Nat)} (h : l ≠ []) : joinL S (p :: l) = p ++ (S ++ joinL S l) := by
  cases l with
  | nil => exact absurd rfl h
  | cons q r => rfl
theorem join_spl (s : Nat) : ∀ (L acc : List Nat), joinL [s] (spl [s] 0 acc L) = acc ++ L
  | [], acc => by rw [TL.spl_nil]; simp [joinL]
  | c :: r, acc => by
    by_cases h : TL.pre [s] (c :: r) = true
    · rw [TL.spl_hit h]
      show joinL [s] (acc :: spl [s] 0 [] r) = _
      rw [joinL_cons (spl_ne s r []), join_spl s r [], (pre1 s c r).mp h]; simp
    · rw [TL.spl_miss (by simpa using h), join_spl s r]; simp
theorem joinL_len (s : Nat) : ∀ l : List (List Nat), l ≠ [] → (joinL [s] l).length + 1 = (l.map (·.length)).sum + l.length
  | [], h => absurd rfl h
  | [p], _ => by simp [joinL]
  | p :: q :: r, _ => by
    rw [joinL_cons (by simp), List.length_append, List.length_append]
    have := joinL_len s (q :: r) (by simp)
    simp only [List.map_cons, List.sum_cons, List.length_cons, List.length_nil] at this ⊢
    omega
theorem len_tl (x : Str) : x.length = (tl x).length := TL.len_tl x
structure Sep (y : Str) (s : Nat) : Prop where
  e : tl y = [s]
  k : y.cps.all (· < 256) = true
theorem Sep.len {y : Str} {s : Nat} (h : Sep y s) : y.length = 1 := by rw [len_tl, h.e]; rfl
theorem sp_sep : Sep (" " : Str) 32 := ⟨by decide +kernel, by decide +kernel⟩
theorem split_tl {x y : Str} {s : Nat} (h : Sep y s) : (Txt.split x y).map tl = spl [s] 0 [] (tl x) := by
  rw [TL.split_spl x y (by rw [h.e]; simp) (TL.kind_ok h.k), h.e]
theorem split_ne {x y : Str} {s : Nat} (h : Sep y s) : Txt.split x y ≠ [] := fun e => by
  have := split_tl (x := x) h
  rw [e] at this
  exact spl_ne s _ _ this.symm
theorem join_tl {y : Str} {s : Nat} (h : Sep y s) (ps : List Str) : tl (Txt.join y ps) = joinL [s] (ps.map tl) := by rw [TL.join_eq, TL.tl_join, h.e]
theorem join_split {x y : Str} {s : Nat} (h : Sep y s) : Txt.join y (Txt.split x y) = x := by
  refine TL.ext_tl ?_
  rw [join_tl h, split_tl h, join_spl, List.nil_append]
theorem split_join {y : Str} {s : Nat} (h : Sep y s) {ps : List Str} (hne : ps ≠ []) (hp : ∀ p ∈ ps, s ∉ tl p) : Txt.split (Txt.join y ps) y = ps := TL.split_join h.e h.k hne hp
theorem sums_tl (ps : List Str) : (ps.map (·.length)).sum = ((ps.map tl).map (·.length)).sum := by
  rw [List.map_map]
  rfl
theorem join_len {y : Str} {s : Nat} (h : Sep y s) {ps : List Str} (hne : ps ≠ []) : (Txt.join y ps).length + 1 = (ps.map (·.length)).sum + ps.length := by
  rw [len_tl, join_tl h, joinL_len s _ (by simpa using hne), sums_tl, List.length_map]
theorem part_len {x y : Str} {s : Nat} (h : Sep y s) {p : Str} (hp : p ∈ Txt.split x y) : p.length ≤ x.length := by
  have e := join_len h (split_ne (x := x) h)
  rw [join_split h] at e
  have l1 : 1 ≤ (Txt.split x y).length := List.length_pos_of_mem hp
  have : ∀ (ps : List Str), p ∈ ps → p.length + ps.length ≤ (ps.map (·.length)).sum + ps.length ∧ p.length ≤ (ps.map (·.length)).sum := fun ps => by
    induction ps with
    | nil => intro h; cases h
    | cons q qs ih =>
      intro h
      simp only [List.map_cons, List.sum_cons]
      rcases List.mem_cons.mp h with rfl | h
      · omega
      · have := ih h; simp only [List.length_cons]; omega
  have h3 := (this _ hp).2
  have h2 : ∀ (ps : List Str), p ∈ ps → p.length + (ps.length - 1) * 0 ≤ (ps.map (·.length)).sum := fun ps hh => by have := (this ps hh).2; omega
  omega
theorem parts_len {x y : Str} {s : Nat} (h : Sep y s) : (Txt.split x y).length ≤ x.length + 1 := by
  have e := join_len h (split_ne (x := x) h)
  rw [join_split h] at e
  omega
theorem splitR_ok {x y : Str} {s : Nat} (h : Sep y s) (hl : x.length ≤ 1000000) : splitR x y = .ok (Txt.split x y) := by
  unfold splitR
  rw [if_pos ⟨by rw [h.len]; rfl, by rw [sizeLine_eq]; omega⟩]
theorem joinR_ok {y : Str} {s : Nat} (h : Sep y s) {ps : List Str} (hl : (ps.map (·.length)).sum + ps.length ≤ 1000000) : joinR y ps = .ok (Txt.join y ps) := by
  unfold joinR
  rw [if_pos (by rw [h.len]; omega)]
def numT (n : Nat) : Str := Str.ofString (toString ((n : Nat) : Int))
theorem numT_tl (n : Nat) : tl (numT n) = TL.numL n := TL.tl_num n
theorem numT_len (n : Nat) : (numT n).length = (TL.numL n).length := by rw [len_tl, numT_tl]
theorem strR_ok {n : Nat} (h : n < 10 ^ 400) : strR (n : Int) = .ok (numT n) := by
  unfold strR
  have h2 : (n : Int).natAbs.log2 < 1920 := by
    rw [Int.natAbs_natCast]
    by_cases c : n = 0
    · subst c; decide
    · exact (Nat.log2_lt c).mpr (Nat.lt_trans h (by decide +kernel))
  rw [if_pos h2]
  rfl
theorem rev_ind {P : List Nat → Prop} (h0 : P []) (h1 : ∀ l c, P l → P (l ++ [c])) : ∀ (n : Nat) (l : List Nat), l.length = n → P l
  | 0, l, h => by rw [List.eq_nil_of_length_eq_zero h]; exact h0
  | n + 1, l, h => by
    have hne : l ≠ [] := fun e => by rw [e] at h; cases h
    rw [← List.dropLast_concat_getLast hne]
    exact h1 _ _ (rev_ind h0 h1 n _ (by rw [List.length_dropLast]; omega))
theorem val_app (l : List Nat) (c : Nat) : NumText.digitsVal (l ++ [c]) = NumText.digitsVal l * 10 + (c - 48) := by
  unfold NumText.digitsVal
  rw [List.foldl_append]; rfl
theorem val_lt : ∀ (l : List Nat), NumText.AllDigits l → NumText.digitsVal l < 10 ^ l.length := by
  intro l
  refine rev_ind (P := fun l => NumText.AllDigits l → NumText.digitsVal l < 10 ^ l.length) (fun _ => by decide) (fun l c ih h => ?_) _ l rfl
  · skip
    have hc := h c (List.mem_append_right _ List.mem_cons_self)
    have := ih fun x hx => h x (List.mem_append_left _ hx)
    rw [val_app, List.length_append, List.length_singleton, Nat.pow_succ]
    omega
def NoZ (l : List Nat) : Prop := l.length = 1 ∨ l.head? ≠ some 48
theorem numL_noz (n : Nat) : NoZ (TL.numL n) := by
  induction n using Nat.strongRecOn with
  | _ n ih =>
    by_cases h : n < 10
    · rw [TL.numL_lt h]; exact .inl rfl
    · rw [TL.numL_step (by omega)]
      refine .inr fun z => ?_
      have hne := TL.numL_ne (n / 10)
      have hz : (TL.numL (n / 10)).head? = some 48 := by
        cases e : TL.numL (n / 10) with
        | nil => exact absurd e hne
        | cons a b => rw [e] at z; exact z
      rcases ih (n / 10) (by omega) with q | q
      · have v := TL.numL_val (n / 10)
        cases e : TL.numL (n / 10) with
        | nil => exact absurd e hne
        | cons a b =>
          rw [e] at q hz v
          have : b = [] := List.eq_nil_of_length_eq_zero (by simpa using q)
          subst this
          have : a = 48 := by simpa using hz
          subst this
          have : n / 10 = 0 := by rw [← v]; rfl
          omega
      · exact q hz
end V
set_option maxRecDepth 100000
set_option maxHeartbeats 4000000
set_option synthInstance.maxHeartbeats 400000
set_option synthInstance.maxSize 2000
namespace V
set_option autoImplicit false
open PySem L2 VF
open Enc (enc)
def d_read_number : M Fl := (dSeq (dIf (dNot (dT (dChain (fB fun i j => decide (i ≤ j)) (fB fun i j => decide (i ≤ j)) (dC (.int 1)) (dCB lenD (dCons (dVar 0) dNil)) (dC (.int 60))))) (dRet (dC .non)) dNext)
  (dSeq (dFor (dIt (dVar 0)) (gN 1) (dIf (dT (dOp fNotIn (dVar 1) (dC (.str "0123456789")))) (dRet (dC .non)) dNext))
  (dSeq (dIf (dAnd (dT (dOp (fB fun i j => decide (j < i)) (dCB lenD (dCons (dVar 0) dNil)) (dC (.int 1)))) (dT (dOp fEq (dIx (dVar 0) (dC (.int 0))) (dC (.str "0"))))) (dRet (dC .non)) dNext)
  (dRet (dCB intSD (dCons (dVar 0) dNil))))))
def φ_read_number : Fn := mkFn0 [false] 2 d_read_number
def p_read_number (text : Str) : Res (Option Int) :=
(lenSR text).bind fun t5 =>
if (!(decide (1 ≤ t5) && decide (t5 ≤ 60))) = true then
Res.ok (none : Option Int)
else
forR (fun (sign : Str) _ =>
if (!inS sign (("0123456789" : Str))) = true then
Res.ok (Lp.out (none : Option Int))
else
Res.ok (Lp.go ())) (signsT text) () fun _ =>
(lenSR text).bind fun t19 =>
(if (decide (1 < t19)) = true then
(getiS text 0).bind fun t33 =>
Res.ok (decide (t33 = ("0" : Str)))
else Res.ok false).bind fun t36 =>
if t36 = true then
Res.ok (none : Option Int)
else
(intSR text).bind fun t42 =>
Res.ok (some t42)
theorem ss_read_number (text : Str) : FS false (φ_read_number [.fz (enc text)]) (p_read_number text) (fun t => .fz (enc t)) (fun t => [.fz (enc text)]) := by
  refine fs_mk0 [.fz (enc text), .clr] rfl (by repeat (first | exact trivial | refine ⟨rfl, ?_⟩)) fun e0 h0 => ?_
  unfold p_read_number
  unfold d_read_number
  refine c_seq ?_
  refine c_if ?_
  refine c_not ?_
  refine c_t ?_
  refine c_chain ?_
  refine c_pure h0 (p_c) fun r1 k2 => ?_
  refine c_chain2 ?_
  refine c_cb ?_
  refine c_cons ?_
  refine c_pure h0 (p_fz rfl) fun r3 k4 => ?_
  refine c_cons2 ?_
  refine c_nil ?_
  refine f_cons ?_
  refine f_lenS (x := text) h0 k4 (fun t5 => ?_)
  refine f_chain h0 k2 rk_f (p_c) ?_
  refine f_t h0 rk_f ?_
  refine f_not ?_
  refine f_if (fun _ => ?_) (fun _ => ?_)
  · refine c_ret ?_
    refine c_pure h0 (p_c) fun r6 k7 => ?_
    refine f_ret ?_
    exact f_rt h0 k7 .f (.f .nil)
  · refine c_next ?_
    refine c_nx ?_
    refine c_seq ?_
    refine c_for ?_
    refine c_it ?_
    refine c_pure h0 (p_fz rfl) fun r8 k9 => ?_
    refine f_itS (x := text) h0 k9 .f fun _ h10 => ?_
    refine f_for (fun (s : Unit) => [.fz (enc text), .cf]) (fun _ _ => tg_n) ?_ ?_ h10
    · rintro sign _ _ h13
      try dsimp only [List.set_cons_zero, List.set_cons_succ] at h13 ⊢
      refine c_if ?_
      refine c_pureB h13 (b_t (p_notInS (x := sign) (y := ("0123456789" : Str)) (p_fz rfl) (p_c))) ?_
      refine f_if (fun _ => ?_) (fun _ => ?_)
      · refine c_ret ?_
        refine c_pure h13 (p_c) fun r14 k15 => ?_
        refine f_ret ?_
        refine f_out ?_
        exact f_rt h13 k15 .f (.f .nil)
      · refine c_next ?_
        exact f_go h13
    rintro _ _ h16
    try dsimp only [List.set_cons_zero, List.set_cons_succ] at h16 ⊢
    refine c_nx ?_
    refine c_seq ?_
    refine c_if ?_
    refine c_and ?_
    refine c_t ?_
    refine c_op ?_
    refine c_cb ?_
    refine c_cons ?_
    refine c_pure h16 (p_fz rfl) fun r17 k18 => ?_
    refine c_cons2 ?_
    refine c_nil ?_
    refine f_cons ?_
    refine f_lenS (x := text) h16 k18 (fun t19 => ?_)
    refine c_op2 ?_
    refine c_pure h16 (p_c) fun r20 k21 => ?_
    refine f_cmp h16 rk_f k21 (kk := ?_)
    refine f_t h16 rk_f ?_
    refine f_and h16 (fun _ => ?_) fun t36 _ h37 => ?_
    · refine c_t ?_
      refine c_op ?_
      refine c_ix ?_
      refine c_pure h16 (p_fz rfl) fun r29 k30 => ?_
      refine c_ix2 ?_
      refine c_pure h16 (p_c) fun r31 k32 => ?_
      refine f_ixS (x := text) (i := 0) h16 k30 k32 (fun t33 => ?_)
      refine c_op2 ?_
      refine c_pure h16 (p_c) fun r34 k35 => ?_
      refine f_eq (u := t33) (v := ("0" : Str)) h16 rk_f k35 ?_
      refine f_t h16 rk_f ?_
      exact f_tb (h16.weak (by first | exact W.refl _ | (repeat (first | exact W.nil | refine W.rf ?_ | refine W.cz ?_ | refine W.cc ?_ | refine W.vz ?_ | refine W.vo ?_ | refine W.an ?_))))
    refine f_if (fun _ => ?_) (fun _ => ?_)
    · refine c_ret ?_
      refine c_pure h37 (p_c) fun r38 k39 => ?_
      refine f_ret ?_
      exact f_rt h37 k39 .f (.f .nil)
    · refine c_next ?_
      refine c_nx ?_
      refine c_ret ?_
      refine c_cb ?_
      refine c_cons ?_
      refine c_pure h37 (p_fz rfl) fun r40 k41 => ?_
      refine c_cons2 ?_
      refine c_nil ?_
      refine f_cons ?_
      refine f_intS (x := text) h37 k41 (fun t42 => ?_)
      refine f_ret ?_
      exact f_rt h37 rk_f .f (.f .nil)
end V
set_option maxRecDepth 100000
set_option maxHeartbeats 4000000
namespace V
set_option autoImplicit false
open PySem L2 VF
open Enc (enc)
open TL (tl spl joinL)
theorem lenSR_ok {z : Str} (h : z.length ≤ 1000000) : lenSR z = .ok (z.length : Nat) := by unfold lenSR; rw [if_pos (by rw [sizeLine_eq]; omega)]
theorem addSR_ok {a b : Str} (h : a.length + b.length ≤ 1000000) : addSR a b = .ok (a ++ b) := by unfold addSR; rw [if_pos (by rw [sizeLine_eq]; omega)]
theorem cutSR_ok {z : Str} {lo hi : Option Int} (h : z.length ≤ 1000000) : cutSR z lo hi = .ok (cutS z lo hi) := by unfold cutSR; rw [if_pos (by rw [sizeLine_eq]; omega)]
theorem app_len (a b : Str) : (a ++ b).length = a.length + b.length := by rw [len_tl, TL.tl_append, List.length_append, ← len_tl, ← len_tl]
theorem getiS_ok {z : Str} {i : Int} (h : z.length ≤ 1000000) (h0 : 0 ≤ i) (h1 : i.toNat < (tl z).length) : getiS z i = .ok (sign1 (tl z)[i.toNat]) := by
  have e := geti_int (xs := tl z) h0 h1
  unfold geti at e
  unfold getiS
  rw [if_pos (by rw [sizeLine_eq]; omega)]
  show (match atI (tl z) i with
    | some c => Res.ok (sign1 c)
    | none => .st) = _
  cases q : atI (tl z) i with
  | none => rw [q] at e; cases e
  | some c =>
    rw [q] at e
    have : c = (tl z)[i.toNat] := by injection e
    rw [this]
theorem inS_one (c : Nat) (z : Str) : inS (sign1 c) z = decide (c ∈ tl z) := StrLaws.found_one z c
theorem figs : tl ("0123456789" : Str) = [48, 49, 50, 51, 52, 53, 54, 55, 56, 57] := by decide +kernel
theorem inS_fig (c : Nat) : inS (sign1 c) ("0123456789" : Str) = decide (48 ≤ c ∧ c ≤ 57) := by
  rw [inS_one, figs, decide_eq_decide]
  simp only [List.mem_cons, List.not_mem_nil, or_false]
  omega
theorem sign_inj {c d : Nat} (h : sign1 c = sign1 d) : c = d := by
  have : tl (sign1 c) = tl (sign1 d) := by rw [h]
  simpa [TL.tl_mk, sign1, tl] using this
theorem zero_sign : ("0" : Str) = sign1 48 := by decide +kernel
def digB (l : List Nat) : Bool := l.all fun c => decide (48 ≤ c ∧ c ≤ 57)
theorem digB_iff {l : List Nat} : digB l = true ↔ NumText.AllDigits l := by
  unfold digB NumText.AllDigits
  rw [List.all_eq_true]
  exact ⟨fun h c hc => of_decide_eq_true (h c hc), fun h c hc => decide_eq_true (h c hc)⟩
def goodB (t : Str) : Bool := (decide (1 ≤ t.length ∧ t.length ≤ 60) && digB (tl t)) && !(decide (1 < t.length) && decide ((tl t).head? = some 48))
def rnO (t : Str) : Option Int := if goodB t = true then some (NumText.digitsVal (tl t) : Nat) else none
theorem intSR_ok {t : Str} (h : NumText.AllDigits (tl t)) (h1 : 1 ≤ t.length) (h2 : t.length ≤ 640) : intSR t = .ok (NumText.digitsVal (tl t) : Nat) := by
  unfold intSR
  rw [if_pos h2, PySem.intText_digits (x := t) h (fun e => by
    have : (tl t).length = 0 := by rw [show tl t = [] from e]; rfl
    rw [len_tl] at h1; omega) (by omega)]
theorem rn_ok {t : Str} (h : t.length ≤ 1000000) : p_read_number t = .ok (rnO t) := by
  unfold p_read_number rnO goodB
  rw [lenSR_ok h, Res.bind_ok]
  by_cases c1 : 1 ≤ t.length ∧ t.length ≤ 60
  · have c1' : (decide (1 ≤ ((t.length : Nat) : Int)) && decide (((t.length : Nat) : Int) ≤ 60)) = true := by
      rw [Bool.and_eq_true, decide_eq_true_iff, decide_eq_true_iff]; omega
    rw [if_neg (by rw [c1']; decide), forR_find (c := fun s => !inS s ("0123456789" : Str)) (g := fun _ => (none : Option Int)) fun x _ => rfl, decide_eq_true c1, Bool.true_and]
    cases e : (signsT t).find? (fun s => !inS s ("0123456789" : Str)) with
    | some s =>
      have hs := List.find?_some e
      have hm := List.mem_of_find?_eq_some e
      obtain ⟨c, hc, rfl⟩ := List.mem_map.mp (show s ∈ (tl t).map sign1 from hm)
      have nd : digB (tl t) = false := by
        rw [Bool.eq_false_iff]
        intro q
        have := digB_iff.mp q c hc
        simp only [inS_fig] at hs
        rw [decide_eq_true this] at hs
        cases hs
      rw [nd]; rfl
    | none =>
      have ad : NumText.AllDigits (tl t) := fun c hc => by
        have := List.find?_eq_none.mp e (sign1 c) (List.mem_map.mpr ⟨c, hc, rfl⟩)
        rw [inS_fig] at this
        simpa using this
      rw [digB_iff.mpr ad, Bool.true_and, Option.elim_none, Res.bind_ok]
      have l1 : 0 < (tl t).length := by rw [← len_tl]; omega
      have hh : (tl t).head? = some (tl t)[0] := by rw [List.head?_eq_getElem?, List.getElem?_eq_getElem l1]
      by_cases c2 : 1 < t.length
      · rw [if_pos (decide_eq_true (by omega)), getiS_ok (i := 0) h (by omega) l1, Res.bind_ok, Res.bind_ok, decide_eq_true c2, Bool.true_and, hh]
        have e2 : decide (sign1 (tl t)[(0 : Int).toNat] = ("0" : Str)) = decide (some (tl t)[0] = some 48) := by
          rw [decide_eq_decide, zero_sign]
          exact ⟨fun q => by rw [show (tl t)[0] = 48 from sign_inj q], fun q => by rw [show (tl t)[(0 : Int).toNat] = 48 from Option.some.inj q]⟩
        rw [e2]
        by_cases c3 : some (tl t)[0] = some 48
        · rw [decide_eq_true c3]; rfl
        · rw [decide_eq_false c3, if_neg (by decide), intSR_ok ad c1.1 (by omega), Res.bind_ok]; rfl
      · rw [if_neg (by rw [decide_eq_true_iff]; omega), Res.bind_ok, if_neg (by decide), intSR_ok ad c1.1 (by omega), Res.bind_ok, decide_eq_false c2]; rfl
  · have c1' : (decide (1 ≤ ((t.length : Nat) : Int)) && decide (((t.length : Nat) : Int) ≤ 60)) = false := by
      rw [Bool.eq_false_iff]
      intro q
      rw [Bool.and_eq_true, decide_eq_true_iff, decide_eq_true_iff] at q
      omega
    rw [if_pos (by rw [c1']; rfl), decide_eq_false c1]; rfl
theorem numT_len60 {n : Nat} (h : n < 10 ^ 60) : (numT n).length ≤ 60 := by rw [numT_len]; exact TL.numL_len (by decide) h
theorem rn_num {n : Nat} (h : n < 10 ^ 60) : rnO (numT n) = some (n : Int) := by
  have l := numT_len60 h
  have hne := TL.numL_ne n
  have l1 : 1 ≤ (numT n).length := by rw [numT_len]; exact List.length_pos_iff.mpr hne
  have g : goodB (numT n) = true := by
    unfold goodB
    simp only [Bool.and_eq_true, decide_eq_true_eq, Bool.not_eq_true', Bool.and_eq_false_iff, decide_eq_false_iff_not]
    refine ⟨⟨⟨l1, l⟩, digB_iff.mpr (by rw [numT_tl]; exact TL.numL_digits n)⟩, ?_⟩
    rcases numL_noz n with q | q
    · exact .inl (by rw [numT_len]; omega)
    · exact .inr (by rw [numT_tl]; exact q)
  unfold rnO
  rw [if_pos g, numT_tl, TL.numL_val]
theorem show_of {d : VF.D} {p : PyData} (e : toP d = some p) (h1 : p.showable = true) (h2 : p.hasDict = false) (h3 : p.depth ≤ 60) (h4 : p.canLay0 = true) (h5 : p.weight ≤ 10000) (h6 : p.intsShort 20 = true) : ∃ t, showD d = some t := by
  have l : p.shown.length ≤ sizeLine := by
    have := PyData.shown_le 20 (by decide) p (PyData.leavesShort_of_canLay0 20 p h4 h6)
    rw [sizeLine_eq]
    have h7 : (20 + 2) * p.weight ≤ 22 * 10000 := Nat.mul_le_mul (by decide) h5
    omega
  refine ⟨p.shown, ?_⟩
  unfold showD
  rw [e]
  show (if shownOk _ = true then some _ else none) = _
  rw [if_pos]
  unfold shownOk
  rw [h1, h2, decide_eq_true h3, decide_eq_true l]
  rfl
theorem strOk_of {s : Str} (h : ∀ c ∈ tl s, c < 0x110000) : PyData.canLay0 (.str s) = true := by
  simp only [PyData.canLay0, PyData.strOk]
  rw [Array.all_eq_true_iff_forall_mem]
  intro c hc
  exact decide_eq_true (h c (Array.mem_toList_iff.mpr hc))
theorem show_str {s : Str} (h : ∀ c ∈ tl s, c < 0x110000) (hl : s.length ≤ 10000) : ∃ t, showD (enc s) = some t :=
  show_of (p := .str s) rfl rfl rfl (Nat.zero_le _) (strOk_of h) hl rfl
end V
set_option maxRecDepth 100000
set_option maxHeartbeats 4000000
namespace V
set_option autoImplicit false
open PySem L2 VF
open Enc (enc)
section
variable {α σ τ : Type}
theorem raise1 {c f : Str} {i : Int} (h : -1000000000 ≤ i) (h2 : i ≤ 1000000000) : (raiseR c [f] [enc i] : Res α) = .ex ⟨c, [f], [enc i]⟩ := by
  unfold raiseR
  rw [if_pos]
  · rfl
  · show (([D.int i].all okD) && ([D.int i].length == [f].length)) = true
    simp [okD, small62]; omega
@[simp] theorem noX_raise {p : Res α} {x : Exc} (h : p = .ex x) : noX p = .st := by rw [h]; rfl
end
end V
set_option maxRecDepth 100000
set_option maxHeartbeats 4000000
namespace V
set_option autoImplicit false
open PySem L2 VF
open Enc (enc)
end V
set_option maxRecDepth 100000
set_option maxHeartbeats 4000000
namespace V
set_option autoImplicit false
open PySem L2 VF
open Enc (enc)
theorem small_logN {n : Nat} (h : n < 2 ^ 40) : n.log2 < 40 := by
  by_cases c : n = 0
  · subst c; decide
  · exact (Nat.log2_lt c).mpr h
section
variable {α β γ : Type}
structure ShP (k w : Nat) (p : PyData) : Prop where
  a : p.showable = true
  b : p.hasDict = false
  c : p.canLay0 = true
  d : p.depth ≤ k
  e : p.weight ≤ w
  f : p.intsShort 13 = true
def Sh (k w : Nat) (d : D) : Prop := ∃ p, toP d = some p ∧ ShP k w p
theorem Sh.le {k w k' w' : Nat} {d : D} (h : Sh k w d) (hk : k ≤ k') (hw : w ≤ w') : Sh k' w' d := by
  obtain ⟨p, h1, h2⟩ := h
  exact ⟨p, h1, h2.a, h2.b, h2.c, Nat.le_trans h2.d hk, Nat.le_trans h2.e hw, h2.f⟩
theorem Sh.show {k w : Nat} {d : D} (h : Sh k w d) (hk : k ≤ 60 := by decide) (hw : w ≤ 1000000 := by decide) : ∃ t, showD d = some t := by
  obtain ⟨p, e, h⟩ := h
  refine ⟨p.shown, ?_⟩
  unfold showD
  rw [e]
  show (if shownOk _ = true then some _ else none) = _
  rw [if_pos]
  have hd := h.d
  have he := h.e
  have hl : PyData.layable0 p = true := by
    unfold PyData.layable0
    rw [h.c, decide_eq_true (show p.depth ≤ 64 by omega), decide_eq_true (show p.weight ≤ 2 ^ 20 by omega)]
    rfl
  have h4 : p.shown.length ≤ sizeLine := PyData.shown_fits_of_layable0 (B := 13) (by decide) (by decide) hl h.f
  unfold shownOk
  rw [h.a, h.b, decide_eq_true (show p.depth ≤ 60 by omega), decide_eq_true h4]
  rfl
theorem Sh.int {i : Int} (h : i.natAbs < 10 ^ 12) : Sh 0 41 (.int i) := by
  have l := small_logN (Nat.lt_trans h (show 10 ^ 12 < 2 ^ 40 by decide))
  refine ⟨.int i, rfl, ?_, rfl, by simp [PyData.canLay0], Nat.le_refl _, ?_, ?_⟩
  · simp only [PyData.showable, decide_eq_true_eq]; omega
  · simp only [PyData.weight]; split <;> omega
  · have := PyData.intsShortAll_ints [i] (by simpa using h)
    simp only [List.map_cons, PyData.intsShortAll, Bool.and_eq_true] at this
    exact this.1
theorem Sh.bl (b : Bool) : Sh 0 41 (.bl b) := ⟨.bool b, rfl, rfl, rfl, by simp [PyData.canLay0], Nat.le_refl _, by simp [PyData.weight], rfl⟩
theorem Sh.non : Sh 0 41 .non := ⟨.none, rfl, rfl, rfl, by simp [PyData.canLay0], Nat.le_refl _, by simp [PyData.weight], rfl⟩
theorem Sh.str {s : Str} (h : PyData.canLay0 (.str s) = true) (h2 : s.cps.size ≤ 41) : Sh 0 41 (.str s) := ⟨.str s, rfl, rfl, rfl, h, Nat.le_refl _, h2, rfl⟩
theorem Shs {k w : Nat} : ∀ {ds : List D}, (∀ d ∈ ds, Sh k w d) → ∃ ps, toPs ds = some ps ∧ PyData.showableAll ps = true ∧ PyData.hasDictAll ps = false ∧ PyData.canLayAll0 ps = true ∧ PyData.depthAll ps ≤ k ∧ PyData.weightAll ps ≤ (w + 1) * ds.length ∧ PyData.intsShortAll 13 ps = true
  | [], _ => ⟨[], rfl, rfl, rfl, rfl, Nat.zero_le _, Nat.zero_le _, rfl⟩
  | d :: ds, h => by
    obtain ⟨ps, h0, h1, h2, h3, h4, h5, h6⟩ := Shs (ds := ds) fun x hx => h x (List.mem_cons_of_mem _ hx)
    obtain ⟨p, q0, q⟩ := h d List.mem_cons_self
    refine ⟨p :: ps, ?_, ?_, ?_, ?_, ?_, ?_, ?_⟩
    · show (match toP d, toPs ds with | some p, some ps => some (p :: ps) | _, _ => none) = _
      rw [q0, h0]
    · simp only [PyData.showableAll, q.a, h1, Bool.and_self]
    · simp only [PyData.hasDictAll, q.b, h2, Bool.or_self]
    · simp only [PyData.canLayAll0, q.c, h3, Bool.and_self]
    · simp only [PyData.depthAll]; exact Nat.max_le.mpr ⟨q.d, h4⟩
    · have := q.e
      simp only [PyData.weightAll, List.length_cons, Nat.mul_add, Nat.mul_one]; omega
    · simp only [PyData.intsShortAll, q.f, h6, Bool.and_self]
theorem Sh.lst {k w n : Nat} {ds : List D} (h : ∀ d ∈ ds, Sh k w d) (hn : ds.length ≤ n) : Sh (k + 1) ((w + 1) * n) (.lst ds) := by
  obtain ⟨ps, h0, h1, h2, h3, h4, h5, h6⟩ := Shs h
  refine ⟨.list ps, by show (toPs ds).map _ = _; rw [h0]; rfl, by simpa only [PyData.showable] using h1, by simpa only [PyData.hasDict] using h2, by simpa only [PyData.canLay0] using h3, by simp only [PyData.depth]; omega, ?_, by simpa only [PyData.intsShort] using h6⟩
  simp only [PyData.weight]
  exact Nat.le_trans h5 (Nat.mul_le_mul_left _ hn)
theorem Sh.tup {k w n : Nat} {ds : List D} (h : ∀ d ∈ ds, Sh k w d) (hn : ds.length ≤ n) : Sh (k + 1) ((w + 1) * n) (.tup ds) := by
  obtain ⟨ps, h0, h1, h2, h3, h4, h5, h6⟩ := Shs h
  refine ⟨.tuple ps, by show (toPs ds).map _ = _; rw [h0]; rfl, by simpa only [PyData.showable] using h1, by simpa only [PyData.hasDict] using h2, by simpa only [PyData.canLay0] using h3, by simp only [PyData.depth]; omega, ?_, by simpa only [PyData.intsShort] using h6⟩
  simp only [PyData.weight]
  exact Nat.le_trans h5 (Nat.mul_le_mul_left _ hn)
theorem Sh.list [Enc α] {k w n : Nat} {xs : List α} (h : ∀ x ∈ xs, Sh k w (enc x)) (hn : xs.length ≤ n) : Sh (k + 1) ((w + 1) * n) (enc xs) :=
  Sh.lst (ds := xs.map enc) (fun d hd => by obtain ⟨x, hx, rfl⟩ := List.mem_map.mp hd; exact h x hx) (by simpa using hn)
theorem Sh.ints {n : Nat} {xs : List Int} (h : ∀ x ∈ xs, x.natAbs < 10 ^ 12) (hn : xs.length ≤ n) : Sh 1 (42 * n) (enc xs) := Sh.list (fun x hx => Sh.int (h x hx)) hn
theorem Sh.encI {i : Int} (h : i.natAbs < 10 ^ 12) : Sh 0 41 (enc i) := Sh.int h
theorem Sh.pair [Enc α] [Enc β] {k w : Nat} {a : α} {b : β} (h : Sh k w (enc a)) (h2 : Sh k w (enc b)) : Sh (k + 1) ((w + 1) * 2) (enc (a, b)) :=
  Sh.tup (ds := [enc a, enc b]) (fun d hd => by
    rcases List.mem_cons.mp hd with rfl | hd
    · exact h
    · rcases List.mem_cons.mp hd with rfl | hd
      · exact h2
      · cases hd) (Nat.le_refl _)
theorem Sh.t3 [Enc α] [Enc β] [Enc γ] {k w : Nat} {a : α} {b : β} {c : γ} (h : Sh k w (enc a)) (h2 : Sh k w (enc b)) (h3 : Sh k w (enc c)) : Sh (k + 1) ((w + 1) * 3) (enc (⟨a, b, c⟩ : T3 α β γ)) :=
  Sh.tup (ds := [enc a, enc b, enc c]) (fun d hd => by
    rcases List.mem_cons.mp hd with rfl | hd
    · exact h
    · rcases List.mem_cons.mp hd with rfl | hd
      · exact h2
      · rcases List.mem_cons.mp hd with rfl | hd
        · exact h3
        · cases hd) (Nat.le_refl _)
theorem same_sh [Enc α] [Enc β] {k w : Nat} {a : α} {b : β} (h : Sh k w (enc a)) (e : enc a = enc b) (hk : k ≤ 60 := by decide) (hw : w ≤ 1000000 := by decide) : p__law_same a b = .ok true := by
  obtain ⟨t, s⟩ := h.show hk hw
  exact same_eq s e
end
end V
set_option maxHeartbeats 4000000
set_option synthInstance.maxHeartbeats 400000
set_option synthInstance.maxSize 2000
namespace V
section
set_option autoImplicit false
open PySem L2 VF
open Enc (enc)
def d_write_row : M Fl := (dRet (dJoin (dC (.str " ")) (dComp [1] (dIt (dVar 0)) (gN 1) dYes (dCB strD (dCons (dVar 1) dNil)))))
def φ_write_row : Fn := mkFn0 [false] 2 d_write_row
def d_write_board : M Fl := (dSeq (dSet 2 (dLst (dCons (dJs [(dC (.str "prime ")), (dFmt (dVar 0))] Str.empty) dNil)))
  (dSeq (dFor (dIt (dVar 1)) (gN 3) (dDrop (dApp 2 (dJs [(dFmt (dCallB 1 φ_write_row (dCons (dVar 3) dNil))), (dC (.str " : ")), (dFmt (dCallB 2 φ_total (dCons (dVar 0) (dCons (dVar 3) dNil))))] Str.empty))))
  (dRet (dJoin (dC (.str "\n")) (dVar 2)))))
def φ_write_board : Fn := mkFn0 [false, false] 4 d_write_board
def d_read_prime : M Fl := (dSeq (dSet 1 (dSplit (dVar 0) (dC (.str " "))))
  (dSeq (dIf (dOr (dT (dOp fNe (dCB lenD (dCons (dVar 1) dNil)) (dC (.int 2)))) (dT (dOp fNe (dIx (dVar 1) (dC (.int 0))) (dC (.str "prime"))))) (dRet (dC .non)) dNext)
  (dRet (dCallB 1 φ_read_number (dCons (dIx (dVar 1) (dC (.int 1))) dNil)))))
def φ_read_prime : Fn := mkFn0 [false] 2 d_read_prime
def d_read_row : M Fl := (dSeq (dSet 3 (dSplit (dVar 2) (dC (.str " "))))
  (dSeq (dIf (dOr (dT (dOp fNe (dCB lenD (dCons (dVar 3) dNil)) (dOp (fI (· + ·)) (dVar 1) (dC (.int 2))))) (dT (dOp fNe (dIx (dVar 3) (dVar 1)) (dC (.str ":"))))) (dRet (dC .non)) dNext)
  (dSeq (dSet 4 (dComp [7] (dIt (dSl (dVar 3) dNoPart (dPart (dVar 1)))) (gN 7) dYes (dCallB 1 φ_read_number (dCons (dVar 7) dNil))))
  (dSeq (dSet 5 (dCallB 1 φ_read_number (dCons (dIx (dVar 3) (dOp (fI (· + ·)) (dVar 1) (dC (.int 1)))) dNil)))
  (dSeq (dIf (dOr (dT (dOp fIsN (dVar 5) (dC .non))) (dT (dOp fIn (dC .non) (dVar 4)))) (dRet (dC .non)) dNext)
  (dSeq (dFor (dIt (dVar 4)) (gN 6) (dIf (dT (dOp (fB fun i j => decide (j ≤ i)) (dVar 6) (dVar 0))) (dRet (dC .non)) dNext))
  (dSeq (dIf (dT (dOp fNe (dCallB 2 φ_total (dCons (dVar 0) (dCons (dVar 4) dNil))) (dVar 5))) (dRet (dC .non)) dNext)
  (dRet (dVar 4)))))))))
def φ_read_row : Fn := mkFn0 [false, false, false] 8 d_read_row
def d_read_board : M Fl := (dSeq (dSet 2 (dSplit (dVar 1) (dC (.str "\n"))))
  (dSeq (dSet 3 (dCallB 1 φ_read_prime (dCons (dIx (dVar 2) (dC (.int 0))) dNil)))
  (dSeq (dIf (dOr (dT (dOp fIsN (dVar 3) (dC .non))) (dT (dOp (fB fun i j => decide (i < j)) (dVar 3) (dC (.int 2))))) (dRaiseF "LineError" ["line"] (dCons (dC (.int 1)) dNil)) dNext)
  (dSeq (dSet 4 (dLst dNil))
  (dSeq (dFor (dEnum (dCons (dSl (dVar 2) (dPart (dC (.int 1))) dNoPart) dNil)) (gTp 2 (gCo (gN 5) (gCo (gN 6) gNo))) (dSeq (dSet 7 (dCall [false, false, false] φ_read_row (dCons (dVar 3) (dCons (dVar 0) (dCons (dVar 6) dNil)))))
  (dSeq (dIf (dT (dOp fIsN (dVar 7) (dC .non))) (dRaiseF "LineError" ["line"] (dCons (dOp (fI (· + ·)) (dVar 5) (dC (.int 2))) dNil)) dNext)
  (dDrop (dApp 4 (dVar 7))))))
  (dRet (dTup (dCons (dVar 3) (dCons (dVar 4) dNil)))))))))
def φ_read_board : Fn := mkFn [false, false] 8 d_read_board
def d__law_plain : M Fl := (dRet (dAndV (dOp fNe (dVar 0) (dC (.str ""))) (dAndV (dOp (fB fun i j => decide (i < j)) (dCB lenD (dCons (dVar 0) dNil)) (dC (.int 40))) (dAndV (dOp fEq (dComp [1] (dIt (dVar 0)) (gN 1) (dT (dOp fNotIn (dVar 1) (dC (.str "0123456789")))) (dVar 1)) (dLst dNil)) (dOrV (dOp fEq (dVar 0) (dC (.str "0"))) (dOp fNe (dIx (dVar 0) (dC (.int 0))) (dC (.str "0"))))))))
def φ__law_plain : Fn := mkFn0 [false] 2 d__law_plain
def d__law_good : M Fl := (dSeq (dSet 3 (dSplit (dVar 2) (dC (.str " "))))
  (dSeq (dIf (dOr (dT (dOp fNe (dCB lenD (dCons (dVar 3) dNil)) (dOp (fI (· + ·)) (dVar 0) (dC (.int 2))))) (dT (dOp fNe (dIx (dVar 3) (dVar 0)) (dC (.str ":"))))) (dRet (dC (.bl false))) dNext)
  (dSeq (dSet 4 (dAddL (dSl (dVar 3) dNoPart (dPart (dVar 0))) (dSl (dVar 3) (dPart (dOp (fI (· + ·)) (dVar 0) (dC (.int 1)))) dNoPart)))
  (dSeq (dIf (dTru (dComp [6] (dIt (dVar 4)) (gN 6) (dNot (dTru (dCallB 1 φ__law_plain (dCons (dVar 6) dNil)))) (dVar 6))) (dRet (dC (.bl false))) dNext)
  (dSeq (dSet 5 (dComp [6] (dIt (dSl (dVar 3) dNoPart (dPart (dVar 0)))) (gN 6) dYes (dCB intSD (dCons (dVar 6) dNil))))
  (dRet (dAndV (dOp (fB fun i j => decide (i < j)) (dCB maxD (dCons (dVar 5) dNil)) (dVar 1)) (dOp fEq (dOp fMod (dCB intD (dCons (dCB sumD (dCons (dVar 5) dNil)) dNil)) (dVar 1)) (dCB intSD (dCons (dIx (dVar 3) (dC (.int (-1)))) dNil))))))))))
def φ__law_good : Fn := mkFn0 [false, false, false] 7 d__law_good
def d__law_read : M Fl := (dTryX (gOn ["LineError"] (gRetT (gCons (gC (.str "line")) (gCons (gFld ["LineError"] "line") gNil)))) (dRet (dCall [false, false] φ_read_board (dCons (dVar 0) (dCons (dVar 1) dNil)))))
def φ__law_read : Fn := mkFn0 [false, false] 3 d__law_read
def d_law_0 : M Fl := (dSet 1 (dCall [false, false, false] φ__law_box (dCons (dVar 0) (dCons (dC (.int 0)) (dCons (dC (.int 6)) dNil)))))
def d_law_1 : M Fl := (dSet 2 (dIx (dLst (dCons (dC (.int 2)) (dCons (dC (.int 3)) (dCons (dC (.int 5)) (dCons (dC (.int 7)) (dCons (dC (.int 11)) (dCons (dC (.int 101)) (dCons (dC (.int 997)) (dCons (dC (.int 7919)) dNil))))))))) (dCall [true, false] φ__law_draw (dCons (dVar 1) (dCons (dC (.int 8)) dNil)))))
def d_law_2 : M Fl := (dSet 3 (dOp (fI (· + ·)) (dC (.int 1)) (dCall [true, false] φ__law_draw (dCons (dVar 1) (dCons (dC (.int 4)) dNil)))))
def d_law_3 : M Fl := (dSet 4 (dLst dNil))
def d_law_4 : M Fl := (dFor (dRng1 (dCons (dCall [true, false] φ__law_draw (dCons (dVar 1) (dCons (dC (.int 6)) dNil))) dNil)) (gN 5) (dDrop (dApp 4 (dComp [16] (dRng1 (dCons (dVar 3) dNil)) (gN 16) dYes (dOp fMod (dCB intD (dCons (dCall [true, false] φ__law_draw (dCons (dVar 1) (dCons (dC (.int 1000)) dNil))) dNil)) (dVar 2))))))
def d_law_5 : M Fl := (dSet 6 (dLst (dCons (dOp fAddS (dC (.str "prime ")) (dCB strD (dCons (dVar 2) dNil))) dNil)))
def d_law_6 : M Fl := (dFor (dIt (dVar 4)) (gN 5) (dSeq (dDrop (dApp 6 (dOp fAddS (dOp fAddS (dJoin (dC (.str " ")) (dComp [17] (dIt (dVar 5)) (gN 17) dYes (dCB strD (dCons (dVar 17) dNil)))) (dC (.str " : "))) (dCB strD (dCons (dOp fMod (dCB intD (dCons (dCB sumD (dCons (dVar 5) dNil)) dNil)) (dVar 2)) dNil)))))
  (dIf (dT (dOp fNe (dCallB 1 φ_write_row (dCons (dVar 5) dNil)) (dJoin (dC (.str " ")) (dComp [17] (dIt (dVar 5)) (gN 17) dYes (dCB strD (dCons (dVar 17) dNil)))))) (dRet (dC (.bl false))) dNext)))
def d_law_7 : M Fl := (dSet 7 (dJoin (dC (.str "\n")) (dVar 6)))
def d_law_8 : M Fl := (dIf (dOr (dNot (dTru (dCallB 2 φ__law_same (dCons (dCallB 2 φ_write_board (dCons (dVar 2) (dCons (dVar 4) dNil))) (dCons (dVar 7) dNil))))) (dNot (dTru (dCallB 2 φ__law_same (dCons (dCall [false, false] φ__law_read (dCons (dVar 3) (dCons (dVar 7) dNil))) (dCons (dTup (dCons (dVar 2) (dCons (dVar 4) dNil))) dNil)))))) (dRet (dC (.bl false))) dNext)
def d_law_9 : M Fl := (dSet 8 (dOp fMod (dCB intD (dCons (dCall [true, false] φ__law_draw (dCons (dVar 1) (dCons (dC (.int 900)) dNil))) dNil)) (dCB lenD (dCons (dVar 7) dNil))))
def d_law_10 : M Fl := (dSet 9 (dOp fAddS (dOp fAddS (dSlS (dVar 7) dNoPart (dPart (dVar 8))) (dIx (dC (.str "0 9:\n1")) (dCall [true, false] φ__law_draw (dCons (dVar 1) (dCons (dC (.int 6)) dNil))))) (dSlS (dVar 7) (dPart (dOp (fI (· + ·)) (dVar 8) (dCall [true, false] φ__law_draw (dCons (dVar 1) (dCons (dC (.int 2)) dNil))))) dNoPart)))
def d_law_11 : M Fl := (dSet 10 (dSplit (dVar 9) (dC (.str "\n"))))
def d_law_12 : M Fl := (dSet 11 (dSplit (dIx (dVar 10) (dC (.int 0))) (dC (.str " "))))
def d_law_13 : M Fl := (dIf (dOr (dT (dOp fNe (dCB lenD (dCons (dVar 11) dNil)) (dC (.int 2)))) (dOr (dT (dOp fNe (dIx (dVar 11) (dC (.int 0))) (dC (.str "prime")))) (dOr (dNot (dTru (dCallB 1 φ__law_plain (dCons (dIx (dVar 11) (dC (.int 1))) dNil)))) (dT (dOp (fB fun i j => decide (i < j)) (dCB intSD (dCons (dIx (dVar 11) (dC (.int 1))) dNil)) (dC (.int 2))))))) (dRet (dCallB 2 φ__law_same (dCons (dCall [false, false] φ__law_read (dCons (dVar 3) (dCons (dVar 9) dNil))) (dCons (dTup (dCons (dC (.str "line")) (dCons (dC (.int 1)) dNil))) dNil)))) dNext)
def d_law_14 : M Fl := (dFor (dRng2 (dCons (dC (.int 1)) (dCons (dCB lenD (dCons (dVar 10) dNil)) dNil))) (gN 12) (dIf (dNot (dTru (dCallB 3 φ__law_good (dCons (dVar 3) (dCons (dCB intSD (dCons (dIx (dVar 11) (dC (.int 1))) dNil)) (dCons (dIx (dVar 10) (dVar 12)) dNil)))))) (dRet (dCallB 2 φ__law_same (dCons (dCall [false, false] φ__law_read (dCons (dVar 3) (dCons (dVar 9) dNil))) (dCons (dTup (dCons (dC (.str "line")) (dCons (dOp (fI (· + ·)) (dVar 12) (dC (.int 1))) dNil))) dNil)))) dNext))
def d_law_15 : M Fl := (dSet 13 (dComp [14] (dIt (dSl (dVar 10) (dPart (dC (.int 1))) dNoPart)) (gN 14) dYes (dComp [15] (dIt (dSl (dSplit (dVar 14) (dC (.str " "))) dNoPart (dPart (dVar 3)))) (gN 15) dYes (dCB intSD (dCons (dVar 15) dNil)))))
def d_law_16 : M Fl := (dRet (dCallB 2 φ__law_same (dCons (dCall [false, false] φ__law_read (dCons (dVar 3) (dCons (dVar 9) dNil))) (dCons (dTup (dCons (dCB intSD (dCons (dIx (dVar 11) (dC (.int 1))) dNil)) (dCons (dVar 13) dNil))) dNil))))
def d_law : M Fl := (dSeq d_law_0 (dSeq d_law_1 (dSeq d_law_2 (dSeq d_law_3 (dSeq d_law_4 (dSeq d_law_5 (dSeq d_law_6 (dSeq d_law_7 (dSeq d_law_8 (dSeq d_law_9 (dSeq d_law_10 (dSeq d_law_11 (dSeq d_law_12 (dSeq d_law_13 (dSeq d_law_14 (dSeq d_law_15 d_law_16))))))))))))))))
def φ_law : Fn := mkFn0 [false] 18 d_law
def p_write_row (row : List Int) : Res Str :=
(mapC (fun (share : Int) =>
(strR share).bind fun t9 =>
Res.ok t9) row).bind fun t10 =>
(joinR ((" " : Str)) t10).bind fun t14 =>
Res.ok t14
theorem ss_write_row (row : List Int) : FS false (φ_write_row [.fz (enc row)]) (p_write_row row) (fun t => .fz (enc t)) (fun t => [.fz (enc row)]) := by
  refine fs_mk0 [.fz (enc row), .clr] rfl (by repeat (first | exact trivial | refine ⟨rfl, ?_⟩)) fun e0 h0 => ?_
  unfold p_write_row
  unfold d_write_row
  refine c_ret ?_
  refine c_join ?_
  refine c_pure h0 (p_c) fun r1 k2 => ?_
  refine f_join1 (x := (" " : Str)) h0 k2 ?_
  refine c_comp ?_
  refine c_it ?_
  refine c_pure h0 (p_fz rfl) fun r3 k4 => ?_
  refine f_it (xs := row) h0 k4 .f fun _ h5 => ?_
  refine f_mapC (ψ := Str) h5 (fun _ => tg_n) ?_ fun t10 r11 _ k12 h13 => ?_
  · rintro share _ h6
    try dsimp only [List.set_cons_zero, List.set_cons_succ, wipeS] at h6 ⊢
    refine c_cb ?_
    refine c_cons ?_
    refine c_pure h6 (p_fz rfl) fun r7 k8 => ?_
    refine c_cons2 ?_
    refine c_nil ?_
    refine f_cons ?_
    refine f_strI (i := share) h6 k8 (fun t9 => ?_)
    exact f_el (v := t9) h6 rk_f
  refine f_join2 (x := (" " : Str)) (ys := t10) h13 k12 (fun t14 => ?_)
  refine f_ret ?_
  exact f_rt h13 rk_f .f (.f .nil)
def p_write_board (prime : Int) (table : List (List Int)) : Res Str :=
(addSR Str.empty (("prime " : Str))).bind fun t3 =>
(strR prime).bind fun t6 =>
(addSR t3 t6).bind fun t7 =>
(Res.ok (([t7] : List Str) : List Str)).bind fun lines =>
(foldR (fun (row : List Int) lines =>
(p_write_row row).bind fun t37 =>
(okS t37).bind fun _ =>
(addSR Str.empty t37).bind fun t40 =>
(addSR t40 ((" : " : Str))).bind fun t43 =>
(p_total prime row).bind fun t46 =>
(strR t46).bind fun t49 =>
(addSR t43 t49).bind fun t50 =>
(appR lines t50).bind fun lines =>
Res.ok lines) table lines).bind fun lines =>
(joinR (("\n" : Str)) lines).bind fun t59 =>
Res.ok t59
theorem ss_write_board (prime : Int) (table : List (List Int)) : FS false (φ_write_board [.fz (enc prime), .fz (enc table)]) (p_write_board prime table) (fun t => .fz (enc t)) (fun t => [.fz (enc prime), .fz (enc table)]) := by
  refine fs_mk0 [.fz (enc prime), .fz (enc table), .clr, .clr] rfl (by repeat (first | exact trivial | refine ⟨rfl, ?_⟩)) fun e0 h0 => ?_
  unfold p_write_board
  unfold d_write_board
  refine c_seq ?_
  refine c_set ?_
  refine c_lst ?_
  refine c_cons ?_
  refine c_js ?_
  refine c_pure h0 (p_c) fun r1 k2 => ?_
  refine f_js (y := ("prime " : Str)) h0 k2 fun t3 => ?_
  refine c_js ?_
  refine c_fmt ?_
  refine c_pure h0 (p_fz rfl) fun r4 k5 => ?_
  refine f_fmtI (i := prime) h0 k5 fun t6 => ?_
  refine f_js (y := t6) h0 rk_f fun t7 => ?_
  refine f_jsN ?_
  refine c_cons2 ?_
  refine c_nil ?_
  refine f_cons ?_
  refine f_lst h0 (rks rk_f rks0) (.cons .f .nil) (Nat.le_of_ble_eq_true rfl) fun r8 _ k9 h10 => ?_
  refine f_setL (v := (([t7] : List Str) : List Str)) (fun v => .ol (encs v)) h10 k9 .w (by decide) fun lines _ h11 => ?_
  try dsimp only [List.set_cons_zero, List.set_cons_succ] at h11
  refine c_nx ?_
  refine c_seq ?_
  refine c_for ?_
  refine c_it ?_
  refine c_pure h11 (p_fz rfl) fun r12 k13 => ?_
  refine f_it (xs := table) h11 k13 .f fun _ h14 => ?_
  refine f_fold (fun (s : List Str) => [.fz (enc prime), .fz (enc table), .ol (encs s), .cf]) (fun _ _ => tg_n) ?_ ?_ h14
  · rintro row lines _ h34
    try dsimp only [List.set_cons_zero, List.set_cons_succ] at h34 ⊢
    refine c_drop ?_
    refine c_app (ds := encs lines) h34 rfl ?_
    refine c_js ?_
    refine c_fmt ?_
    refine c_callB ?_
    refine c_pureA h34 (pa_cons' (p_fz rfl) pa_nil') fun r35 k36 => ?_
    refine f_callB h34 k36 (.cons .f .nil) rfl (ss_write_row row) imm_S fun t37 r38 k39 => ?_
    refine f_fmtS (x := t37) h34 k39 ?_
    refine f_js (y := t37) h34 rk_f fun t40 => ?_
    refine c_js ?_
    refine c_pure h34 (p_c) fun r41 k42 => ?_
    refine f_js (y := (" : " : Str)) h34 k42 fun t43 => ?_
    refine c_js ?_
    refine c_fmt ?_
    refine c_callB ?_
    refine c_pureA h34 (pa_cons' (p_fz rfl) (pa_cons' (p_fz rfl) pa_nil')) fun r44 k45 => ?_
    refine f_callB h34 k45 (.cons .f (.cons .f .nil)) rfl (ss_total prime row) imm_I fun t46 r47 k48 => ?_
    refine f_fmtI (i := t46) h34 k48 fun t49 => ?_
    refine f_js (y := t49) h34 rk_f fun t50 => ?_
    refine f_jsN ?_
    refine f_app (xs := lines) (v := t50) h34 rk_f .f rfl fun lines r51 _ k52 h53 => ?_
    try dsimp only [List.set_cons_zero, List.set_cons_succ] at h53
    refine f_drop ?_
    exact f_jc h53
  rintro lines _ h54
  try dsimp only [List.set_cons_zero, List.set_cons_succ] at h54 ⊢
  refine c_nx ?_
  refine c_ret ?_
  refine c_join ?_
  refine c_pure h54 (p_c) fun r55 k56 => ?_
  refine f_join1 (x := ("\n" : Str)) h54 k56 ?_
  refine c_pure h54 (p_ol rfl) fun r57 k58 => ?_
  refine f_join2 (x := ("\n" : Str)) (ys := lines) h54 k58 (fun t59 => ?_)
  refine f_ret ?_
  exact f_rt h54 rk_f .f (.f (.f .nil))
def p_read_prime (line : Str) : Res (Option Int) :=
(splitR line ((" " : Str))).bind fun t5 =>
(Res.ok (t5 : List Str)).bind fun parts =>
(if (decide ((parts.length : Int) ≠ 2)) = true then Res.ok true else
(geti parts 0).bind fun t20 =>
Res.ok (decide (t20 ≠ ("prime" : Str)))).bind fun t23 =>
if t23 = true then
Res.ok (none : Option Int)
else
(geti parts 1).bind fun t31 =>
(p_read_number t31).bind fun t32 =>
Res.ok t32
theorem ss_read_prime (line : Str) : FS false (φ_read_prime [.fz (enc line)]) (p_read_prime line) (fun t => .fz (enc t)) (fun t => [.fz (enc line)]) := by
  refine fs_mk0 [.fz (enc line), .clr] rfl (by repeat (first | exact trivial | refine ⟨rfl, ?_⟩)) fun e0 h0 => ?_
  unfold p_read_prime
  unfold d_read_prime
  refine c_seq ?_
  refine c_set ?_
  refine c_split ?_
  refine c_pure h0 (p_fz rfl) fun r1 k2 => ?_
  refine f_split1 (x := line) h0 k2 ?_
  refine c_pure h0 (p_c) fun r3 k4 => ?_
  refine f_split2 (x := line) (y := (" " : Str)) h0 k4 (fun t5 r6 k7 => ?_)
  refine f_setL (v := (t5 : List Str)) (fun v => .ol (encs v)) h0 k7 .w (by decide) fun parts _ h8 => ?_
  try dsimp only [List.set_cons_zero, List.set_cons_succ] at h8
  refine c_nx ?_
  refine c_seq ?_
  refine c_if ?_
  refine c_or ?_
  refine c_pureB h8 (b_t (p_ne (x := (parts.length : Int)) (y := 2) (p_len (p_ol rfl)) (p_c))) ?_
  refine f_or h8 (fun _ => ?_) fun t23 _ h24 => ?_
  · refine c_t ?_
    refine c_op ?_
    refine c_ix ?_
    refine c_pure h8 (p_ol rfl) fun r16 k17 => ?_
    refine c_ix2 ?_
    refine c_pure h8 (p_c) fun r18 k19 => ?_
    refine f_ix (xs := parts) h8 k17 k19 fun t20 => ?_
    refine c_op2 ?_
    refine c_pure h8 (p_c) fun r21 k22 => ?_
    refine f_ne (u := t20) (v := ("prime" : Str)) h8 rk_f k22 ?_
    refine f_t h8 rk_f ?_
    exact f_tb (h8.weak (by first | exact W.refl _ | (repeat (first | exact W.nil | refine W.rf ?_ | refine W.cz ?_ | refine W.cc ?_ | refine W.vz ?_ | refine W.vo ?_ | refine W.an ?_))))
  refine f_if (fun _ => ?_) (fun _ => ?_)
  · refine c_ret ?_
    refine c_pure h24 (p_c) fun r25 k26 => ?_
    refine f_ret ?_
    exact f_rt h24 k26 .f (.f .nil)
  · refine c_next ?_
    refine c_nx ?_
    refine c_ret ?_
    refine c_callB ?_
    refine c_cons ?_
    refine c_ix ?_
    refine c_pure h24 (p_ol rfl) fun r27 k28 => ?_
    refine c_ix2 ?_
    refine c_pure h24 (p_c) fun r29 k30 => ?_
    refine f_ix (xs := parts) h24 k28 k30 fun t31 => ?_
    refine c_cons2 ?_
    refine c_nil ?_
    refine f_cons ?_
    refine f_callB h24 (rks rk_f rks0) (.cons .f .nil) rfl (ss_read_number t31) imm_OI fun t32 r33 k34 => ?_
    refine f_ret ?_
    exact f_rt h24 k34 .f (.f .nil)
def r_read_row_5 : M Fl := (dSeq (dFor (dIt (dVar 4)) (gN 6) (dIf (dT (dOp (fB fun i j => decide (j ≤ i)) (dVar 6) (dVar 0))) (dRet (dC .non)) dNext)) (dSeq (dIf (dT (dOp fNe (dCallB 2 φ_total (dCons (dVar 0) (dCons (dVar 4) dNil))) (dVar 5))) (dRet (dC .non)) dNext) (dRet (dVar 4))))
def p_read_row_5 (prime : Int) (mixers : Int) (line : Str) (shares : List Int) (value : Option Int) : Res (Option (List Int)) :=
forR (fun (share : Int) _ =>
if (decide (prime ≤ share)) = true then
Res.ok (Lp.out (none : Option (List Int)))
else
Res.ok (Lp.go ())) shares () fun _ =>
(p_total prime shares).bind fun t12 =>
if (decide ((some t12) ≠ value)) = true then
Res.ok (none : Option (List Int))
else
Res.ok (some shares)
theorem ss_read_row_5 (prime : Int) (mixers : Int) (line : Str) (shares : List Int) (value : Option Int) (e0 : VF.Env) (h0 : Has (pinIx 0 [false, false, false]) [.fz (enc prime), .fz (enc mixers), .fz (enc line), .cf, .ol (encs shares), .fz (enc value), .cf, .cf] e0) : Sm ((r_read_row_5 e0).bind okK) (p_read_row_5 prime mixers line shares value) (GF [false, false, false] [.fz (enc prime), .fz (enc mixers), .fz (enc line)] (fun t => .fz (enc t)) (fun t => [.fz (enc prime), .fz (enc mixers), .fz (enc line)])) (fun _ _ => False) := by
  unfold p_read_row_5
  unfold r_read_row_5
  refine c_seq ?_
  refine c_for ?_
  refine c_it ?_
  refine c_pure h0 (p_ol rfl) fun r1 k2 => ?_
  refine f_it (xs := shares) h0 k2 (.v rfl) fun _ h3 => ?_
  refine f_for (fun (s : Unit) => [.fz (enc prime), .fz (enc mixers), .fz (enc line), .cf, .fz (enc shares), .fz (enc value), .cf, .cf]) (fun _ _ => tg_n) ?_ ?_ h3
  · rintro share _ _ h6
    try dsimp only [List.set_cons_zero, List.set_cons_succ] at h6 ⊢
    refine c_if ?_
    refine c_pureB h6 (b_t (p_cmp (p_fz rfl) (p_fz rfl))) ?_
    refine f_if (fun _ => ?_) (fun _ => ?_)
    · refine c_ret ?_
      refine c_pure h6 (p_c) fun r7 k8 => ?_
      refine f_ret ?_
      refine f_out ?_
      exact f_rt h6 k8 .f (.f (.f (.f .nil)))
    · refine c_next ?_
      exact f_go h6
  rintro _ _ h9
  try dsimp only [List.set_cons_zero, List.set_cons_succ] at h9 ⊢
  refine c_nx ?_
  refine c_seq ?_
  refine c_if ?_
  refine c_t ?_
  refine c_op ?_
  refine c_callB ?_
  refine c_pureA h9 (pa_cons' (p_fz rfl) (pa_cons' (p_fz rfl) pa_nil')) fun r10 k11 => ?_
  refine f_callB h9 k11 (.cons .f (.cons .f .nil)) rfl (ss_total prime shares) imm_I fun t12 r13 k14 => ?_
  refine c_op2 ?_
  refine c_pure h9 (p_fz rfl) fun r15 k16 => ?_
  refine f_ne (u := (some t12)) (v := value) h9 k14 k16 ?_
  refine f_t h9 rk_f ?_
  refine f_if (fun _ => ?_) (fun _ => ?_)
  · refine c_ret ?_
    refine c_pure h9 (p_c) fun r17 k18 => ?_
    refine f_ret ?_
    exact f_rt h9 k18 .f (.f (.f (.f .nil)))
  · refine c_next ?_
    refine c_nx ?_
    refine c_ret ?_
    refine c_pure h9 (p_fz rfl) fun r19 k20 => ?_
    refine f_ret ?_
    exact f_rt h9 k20 .f (.f (.f (.f .nil)))
def p_read_row (prime : Int) (mixers : Int) (line : Str) : Res (Option (List Int)) :=
(splitR line ((" " : Str))).bind fun t5 =>
(Res.ok (t5 : List Str)).bind fun parts =>
(if (decide ((parts.length : Int) ≠ (mixers + 2))) = true then Res.ok true else
(geti parts mixers).bind fun t20 =>
Res.ok (decide (t20 ≠ (":" : Str)))).bind fun t23 =>
if t23 = true then
Res.ok (none : Option (List Int))
else
(mapC (fun (part : Str) =>
(p_read_number part).bind fun t36 =>
Res.ok t36) (cutL parts none (some mixers))).bind fun t39 =>
(Res.ok (t39 : List (Option Int))).bind fun shares =>
(geti parts ((mixers + 1))).bind fun t48 =>
(p_read_number t48).bind fun t49 =>
(Res.ok (t49 : Option Int)).bind fun value =>
if (value.isNone || (memD none shares)) = true then
Res.ok (none : Option (List Int))
else
(unOs shares).bind fun u56 =>
p_read_row_5 prime mixers line u56 value
theorem ss_read_row (prime : Int) (mixers : Int) (line : Str) : FS false (φ_read_row [.fz (enc prime), .fz (enc mixers), .fz (enc line)]) (p_read_row prime mixers line) (fun t => .fz (enc t)) (fun t => [.fz (enc prime), .fz (enc mixers), .fz (enc line)]) := by
  refine fs_mk0 [.fz (enc prime), .fz (enc mixers), .fz (enc line), .clr, .clr, .clr, .clr, .clr] rfl (by repeat (first | exact trivial | refine ⟨rfl, ?_⟩)) fun e0 h0 => ?_
  unfold p_read_row
  unfold d_read_row
  refine c_seq ?_
  refine c_set ?_
  refine c_split ?_
  refine c_pure h0 (p_fz rfl) fun r1 k2 => ?_
  refine f_split1 (x := line) h0 k2 ?_
  refine c_pure h0 (p_c) fun r3 k4 => ?_
  refine f_split2 (x := line) (y := (" " : Str)) h0 k4 (fun t5 r6 k7 => ?_)
  refine f_setL (v := (t5 : List Str)) (fun v => .ol (encs v)) h0 k7 .w (by decide) fun parts _ h8 => ?_
  try dsimp only [List.set_cons_zero, List.set_cons_succ] at h8
  refine c_nx ?_
  refine c_seq ?_
  refine c_if ?_
  refine c_or ?_
  refine c_pureB h8 (b_t (p_ne (x := (parts.length : Int)) (y := (mixers + 2)) (p_len (p_ol rfl)) (p_int (p_fz rfl) (p_c)))) ?_
  refine f_or h8 (fun _ => ?_) fun t23 _ h24 => ?_
  · refine c_t ?_
    refine c_op ?_
    refine c_ix ?_
    refine c_pure h8 (p_ol rfl) fun r16 k17 => ?_
    refine c_ix2 ?_
    refine c_pure h8 (p_fz rfl) fun r18 k19 => ?_
    refine f_ix (xs := parts) h8 k17 k19 fun t20 => ?_
    refine c_op2 ?_
    refine c_pure h8 (p_c) fun r21 k22 => ?_
    refine f_ne (u := t20) (v := (":" : Str)) h8 rk_f k22 ?_
    refine f_t h8 rk_f ?_
    exact f_tb (h8.weak (by first | exact W.refl _ | (repeat (first | exact W.nil | refine W.rf ?_ | refine W.cz ?_ | refine W.cc ?_ | refine W.vz ?_ | refine W.vo ?_ | refine W.an ?_))))
  refine f_if (fun _ => ?_) (fun _ => ?_)
  · refine c_ret ?_
    refine c_pure h24 (p_c) fun r25 k26 => ?_
    refine f_ret ?_
    exact f_rt h24 k26 .f (.f (.f (.f .nil)))
  · refine c_next ?_
    refine c_nx ?_
    refine c_seq ?_
    refine c_set ?_
    refine c_comp ?_
    refine c_it ?_
    refine c_sl ?_
    refine c_pure h24 (p_ol rfl) fun r27 k28 => ?_
    refine f_sl h24 k28 (.v rfl) pp_no (pp_at (p_fz rfl)) fun r29 _ k30 h31 => ?_
    refine f_it (xs := (cutL parts none (some mixers))) h31 k30 .w fun _ h32 => ?_
    refine f_mapC (ψ := Option Int) h32 (fun _ => tg_n) ?_ fun t39 r40 _ k41 h42 => ?_
    · rintro part _ h33
      try dsimp only [List.set_cons_zero, List.set_cons_succ, wipeS] at h33 ⊢
      refine c_callB ?_
      refine c_pureA h33 (pa_cons' (p_fz rfl) pa_nil') fun r34 k35 => ?_
      refine f_callB h33 k35 (.cons .f .nil) rfl (ss_read_number part) imm_OI fun t36 r37 k38 => ?_
      exact f_el (v := t36) h33 k38
    refine f_setL (v := (t39 : List (Option Int))) (fun v => .ol (encs v)) h42 k41 .w (by decide) fun shares _ h43 => ?_
    try dsimp only [List.set_cons_zero, List.set_cons_succ] at h43
    refine c_nx ?_
    refine c_seq ?_
    refine c_set ?_
    refine c_callB ?_
    refine c_cons ?_
    refine c_ix ?_
    refine c_pure h43 (p_fz rfl) fun r44 k45 => ?_
    refine c_ix2 ?_
    refine c_pure h43 (p_int (p_fz rfl) (p_c)) fun r46 k47 => ?_
    refine f_ix (xs := parts) h43 k45 k47 fun t48 => ?_
    refine c_cons2 ?_
    refine c_nil ?_
    refine f_cons ?_
    refine f_callB h43 (rks rk_f rks0) (.cons .f .nil) rfl (ss_read_number t48) imm_OI fun t49 r50 k51 => ?_
    refine f_setL (v := (t49 : Option Int)) (fun v => .fz (enc v)) h43 k51 .f (by decide) fun value _ h52 => ?_
    try dsimp only [List.set_cons_zero, List.set_cons_succ] at h52
    refine c_nx ?_
    refine c_seq ?_
    refine c_if ?_
    refine c_pureB h52 (b_or (b_t (p_isN (x := value) (p_fz rfl) (p_c))) (b_t (p_in (x := none) (xs := shares) (p_c) (p_ol rfl)))) ?_
    refine f_if (fun _ => ?_) (fun _ => ?_)
    · refine c_ret ?_
      refine c_pure h52 (p_c) fun r53 k54 => ?_
      refine f_ret ?_
      exact f_rt h52 k54 .f (.f (.f (.f .nil)))
    · refine f_unOs fun u56 q55 => ?_
      rw [q55, encs_some] at h52
      have h57 := h52
      refine c_next ?_
      refine c_nx ?_
      exact ss_read_row_5 prime mixers line u56 value _ (h57.weak (by first | exact W.refl _ | (repeat (first | exact W.nil | refine W.rf ?_ | refine W.cz ?_ | refine W.cc ?_ | refine W.vz ?_ | refine W.vo ?_ | refine W.an ?_))))
def p_read_board (mixers : Int) (text : Str) : Res (((Option Int) × (List (List Int)))) :=
(splitR text (("\n" : Str))).bind fun t5 =>
(Res.ok (t5 : List Str)).bind fun lines =>
(geti lines 0).bind fun t13 =>
(p_read_prime t13).bind fun t14 =>
(Res.ok (t14 : Option Int)).bind fun prime =>
(if prime.isNone = true then Res.ok true else
(unO prime).bind fun u28 =>
Res.ok (decide (u28 < 2))).bind fun t30 =>
if t30 = true then
raiseR "LineError" ["line"] [enc (1 : Int)]
else
(Res.ok (([] : List (List Int)) : List (List Int))).bind fun table =>
forR (fun (number, line) table =>
(unO prime).bind fun u65 =>
(p_read_row u65 mixers line).bind fun t66 =>
(Res.ok (t66 : Option (List Int))).bind fun row =>
if row.isNone = true then
raiseR "LineError" ["line"] [enc ((number + 2) : Int)]
else
(unO row).bind fun u75 =>
(appR table u75).bind fun table =>
Res.ok (Lp.go table)) (enumL ((cutL lines (some 1) none))) table fun table =>
Res.ok ((prime, table) : (Option Int) × (List (List Int)))
theorem ss_read_board (mixers : Int) (text : Str) : FS true (φ_read_board [.fz (enc mixers), .fz (enc text)]) (p_read_board mixers text) (fun t => .fz (enc t)) (fun t => [.fz (enc mixers), .fz (enc text)]) := by
  refine fs_mkX rfl [.fz (enc mixers), .fz (enc text), .clr, .clr, .clr, .clr, .clr, .clr] rfl (by repeat (first | exact trivial | refine ⟨rfl, ?_⟩)) fun e0 h0 => ?_
  unfold p_read_board
  unfold d_read_board
  refine c_seq ?_
  refine c_set ?_
  refine c_split ?_
  refine c_pure h0 (p_fz rfl) fun r1 k2 => ?_
  refine f_split1 (x := text) h0 k2 ?_
  refine c_pure h0 (p_c) fun r3 k4 => ?_
  refine f_split2 (x := text) (y := ("\n" : Str)) h0 k4 (fun t5 r6 k7 => ?_)
  refine f_setL (v := (t5 : List Str)) (fun v => .ol (encs v)) h0 k7 .w (by decide) fun lines _ h8 => ?_
  try dsimp only [List.set_cons_zero, List.set_cons_succ] at h8
  refine c_nx ?_
  refine c_seq ?_
  refine c_set ?_
  refine c_callB ?_
  refine c_cons ?_
  refine c_ix ?_
  refine c_pure h8 (p_ol rfl) fun r9 k10 => ?_
  refine c_ix2 ?_
  refine c_pure h8 (p_c) fun r11 k12 => ?_
  refine f_ix (xs := lines) h8 k10 k12 fun t13 => ?_
  refine c_cons2 ?_
  refine c_nil ?_
  refine f_cons ?_
  refine f_callB h8 (rks rk_f rks0) (.cons .f .nil) rfl (ss_read_prime t13) imm_OI fun t14 r15 k16 => ?_
  refine f_setL (v := (t14 : Option Int)) (fun v => .fz (enc v)) h8 k16 .f (by decide) fun prime _ h17 => ?_
  try dsimp only [List.set_cons_zero, List.set_cons_succ] at h17
  refine c_nx ?_
  refine c_seq ?_
  refine c_if ?_
  refine c_or ?_
  refine c_pureB h17 (b_t (p_isN (x := prime) (p_fz rfl) (p_c))) ?_
  refine f_or h17 (fun _ => ?_) fun t30 _ h31 => ?_
  · refine c_t ?_
    refine c_op ?_
    refine c_pure h17 (p_fz rfl) fun r24 k25 => ?_
    refine c_op2 ?_
    refine c_pure h17 (p_c) fun r26 k27 => ?_
    refine f_unO fun u28 q29 => ?_
    subst q29
    refine f_cmp h17 k25 k27 (kk := ?_)
    refine f_t h17 rk_f ?_
    exact f_tb (h17.weak (by first | exact W.refl _ | (repeat (first | exact W.nil | refine W.rf ?_ | refine W.cz ?_ | refine W.cc ?_ | refine W.vz ?_ | refine W.vo ?_ | refine W.an ?_))))
  refine f_if (fun _ => ?_) (fun _ => ?_)
  · refine c_raiseF ?_
    refine c_pureA h31 (pa_cons' (p_c) pa_nil') fun r32 k33 => ?_
    exact f_raiseF (c := "LineError") (ns := ["line"]) (ds := [enc (1 : Int)]) h31 k33 (.cons .f .nil) (fun _ _ => trivial)
  · refine c_next ?_
    refine c_nx ?_
    refine c_seq ?_
    refine c_set ?_
    refine c_pure h31 (p_lst pa_nil' .nil) fun r34 k35 => ?_
    refine f_setL (v := (([] : List (List Int)) : List (List Int))) (fun v => .ol (encs v)) h31 k35 .w (by decide) fun table _ h36 => ?_
    try dsimp only [List.set_cons_zero, List.set_cons_succ] at h36
    refine c_nx ?_
    refine c_seq ?_
    refine c_for ?_
    refine c_enum ?_
    refine c_cons ?_
    refine c_sl ?_
    refine c_pure h36 (p_ol rfl) fun r37 k38 => ?_
    refine f_sl h36 k38 (.v rfl) (pp_at (p_c)) pp_no fun r39 _ k40 h41 => ?_
    refine c_cons2 ?_
    refine c_nil ?_
    refine f_cons ?_
    refine f_enum' (xs := (cutL lines (some 1) none)) h41 (rks k40 rks0) .w fun _ h42 => ?_
    refine f_for (fun (s : List (List Int)) => [.fz (enc mixers), .fz (enc text), .fz (enc lines), .fz (enc prime), .ol (encs s), .cf, .cf, .cf]) (fun _ _ => (tg_tup (tgs_co tg_n (tgs_co tg_n tgs_no)))) ?_ ?_ h42
    · rintro ⟨number, line⟩ table _ h62
      try dsimp only [List.set_cons_zero, List.set_cons_succ] at h62 ⊢
      refine c_seq ?_
      refine c_set ?_
      refine c_call ?_
      refine c_pureA h62 (pa_cons' (p_fz rfl) (pa_cons' (p_fz rfl) (pa_cons' (p_fz rfl) pa_nil'))) fun r63 k64 => ?_
      refine f_unO fun u65 q81 => ?_
      subst q81
      refine f_call h62 k64 (.f .f (.f .f (.f .f .nil))) (ss_read_row u65 mixers line) (fun _ => (.f (.f (.f .nil)))) (fun _ => rk_f) fun t66 r67 _ k68 h69 => ?_
      try dsimp only [List.set_cons_zero, List.set_cons_succ] at h69
      refine f_setL (v := (t66 : Option (List Int))) (fun v => .fz (enc v)) h69 k68 .f (by decide) fun row _ h70 => ?_
      try dsimp only [List.set_cons_zero, List.set_cons_succ] at h70
      refine c_nx ?_
      refine c_seq ?_
      refine c_if ?_
      refine c_pureB h70 (b_t (p_isN (x := row) (p_fz rfl) (p_c))) ?_
      refine f_if (fun _ => ?_) (fun _ => ?_)
      · refine c_raiseF ?_
        refine c_pureA h70 (pa_cons' (p_int (p_fz rfl) (p_c)) pa_nil') fun r71 k72 => ?_
        exact f_raiseF (c := "LineError") (ns := ["line"]) (ds := [enc ((number + 2) : Int)]) h70 k72 (.cons .f .nil) (fun _ _ => trivial)
      · refine c_next ?_
        refine c_nx ?_
        refine c_drop ?_
        refine c_app (ds := encs table) h70 rfl ?_
        refine c_pure h70 (p_fz rfl) fun r73 k74 => ?_
        refine f_unO fun u75 q79 => ?_
        subst q79
        refine f_app (xs := table) (v := u75) h70 k74 .f rfl fun table r76 _ k77 h78 => ?_
        try dsimp only [List.set_cons_zero, List.set_cons_succ] at h78
        refine f_drop ?_
        exact f_go h78
    rintro table _ h82
    try dsimp only [List.set_cons_zero, List.set_cons_succ] at h82 ⊢
    refine c_nx ?_
    refine c_ret ?_
    refine c_tup ?_
    refine c_pureA h82 (pa_cons' (p_fz rfl) (pa_cons' (p_ol rfl) pa_nil')) fun r83 k84 => ?_
    refine f_tup h82 k84 (.cons .f (.cons (.v rfl) .nil)) (Nat.le_of_ble_eq_true rfl) fun r85 _ k86 h87 => ?_
    refine f_ret ?_
    exact f_rt h87 k86 .f (.f (.f .nil))
def p__law_plain (text : Str) : Res Bool :=
(if (decide (text ≠ ("" : Str))) = true then
(lenSR text).bind fun t112 =>
(if (decide (t112 < 40)) = true then
(filC (fun (sign : Str) =>
if (!inS sign (("0123456789" : Str))) = true then
Res.ok (some sign)
else Res.ok none) (signsT text)).bind fun t171 =>
(if (decide (t171 = ([] : List Str))) = true then
(if (decide (text = ("0" : Str))) = true then Res.ok true else
(getiS text 0).bind fun t208 =>
Res.ok (decide (t208 ≠ ("0" : Str)))).bind fun t211 =>
Res.ok t211
else Res.ok false).bind fun t213 =>
Res.ok t213
else Res.ok false).bind fun t215 =>
Res.ok t215
else Res.ok false).bind fun t217 =>
Res.ok t217
theorem ss__law_plain (text : Str) : FS false (φ__law_plain [.fz (enc text)]) (p__law_plain text) (fun t => .fz (enc t)) (fun t => [.fz (enc text)]) := by
  refine fs_mk0 [.fz (enc text), .clr] rfl (by repeat (first | exact trivial | refine ⟨rfl, ?_⟩)) fun e0 h0 => ?_
  unfold p__law_plain
  unfold d__law_plain
  refine c_ret ?_
  refine c_andV ?_
  refine c_pure h0 (p_ne (x := text) (y := ("" : Str)) (p_fz rfl) (p_c)) fun r1 k2 => ?_
  refine f_andV h0 k2 (fun _ => ?_) fun t217 _ h218 => ?_
  · refine c_andV ?_
    refine c_op ?_
    refine c_cb ?_
    refine c_cons ?_
    refine c_pure h0 (p_fz rfl) fun r110 k111 => ?_
    refine c_cons2 ?_
    refine c_nil ?_
    refine f_cons ?_
    refine f_lenS (x := text) h0 k111 (fun t112 => ?_)
    refine c_op2 ?_
    refine c_pure h0 (p_c) fun r113 k114 => ?_
    refine f_cmp h0 rk_f k114 (kk := ?_)
    refine f_andV h0 rk_f (fun _ => ?_) fun t215 _ h216 => ?_
    · refine c_andV ?_
      refine c_op ?_
      refine c_comp ?_
      refine c_it ?_
      refine c_pure h0 (p_fz rfl) fun r165 k166 => ?_
      refine f_itS (x := text) h0 k166 .f fun _ h167 => ?_
      refine f_filC (ψ := Str) h167 (fun _ => tg_n) ?_ fun t171 r172 _ k173 h174 => ?_
      · rintro sign _ h168
        try dsimp only [List.set_cons_zero, List.set_cons_succ, wipeS] at h168 ⊢
        refine c_pureB h168 (b_t (p_notInS (x := sign) (y := ("0123456789" : Str)) (p_fz rfl) (p_c))) ?_
        refine f_cmp' (fun _ => ?_) (fun _ => ?_)
        · refine c_pure h168 (p_fz rfl) fun r169 k170 => ?_
          exact f_elo (v := sign) h168 k170
        · exact f_elno h168
      refine c_op2 ?_
      refine c_pure h174 (p_lst pa_nil' .nil) fun r175 k176 => ?_
      refine f_eq (u := t171) (v := ([] : List Str)) h174 k173 k176 ?_
      refine f_andV h174 rk_f (fun _ => ?_) fun t213 _ h214 => ?_
      · refine c_orV ?_
        refine c_pure h174 (p_eq (x := text) (y := ("0" : Str)) (p_fz rfl) (p_c)) fun r195 k196 => ?_
        refine f_orV h174 k196 (fun _ => ?_) fun t211 _ h212 => ?_
        · refine c_op ?_
          refine c_ix ?_
          refine c_pure h174 (p_fz rfl) fun r204 k205 => ?_
          refine c_ix2 ?_
          refine c_pure h174 (p_c) fun r206 k207 => ?_
          refine f_ixS (x := text) (i := 0) h174 k205 k207 (fun t208 => ?_)
          refine c_op2 ?_
          refine c_pure h174 (p_c) fun r209 k210 => ?_
          refine f_ne (u := t208) (v := ("0" : Str)) h174 rk_f k210 ?_
          exact f_ve (h174.weak (by first | exact W.refl _ | (repeat (first | exact W.nil | refine W.rf ?_ | refine W.cz ?_ | refine W.cc ?_ | refine W.vz ?_ | refine W.vo ?_ | refine W.an ?_)))) rk_f
        exact f_ve (h212.weak (by first | exact W.refl _ | (repeat (first | exact W.nil | refine W.rf ?_ | refine W.cz ?_ | refine W.cc ?_ | refine W.vz ?_ | refine W.vo ?_ | refine W.an ?_)))) rk_f
      exact f_ve (h214.weak (by first | exact W.refl _ | (repeat (first | exact W.nil | refine W.rf ?_ | refine W.cz ?_ | refine W.cc ?_ | refine W.vz ?_ | refine W.vo ?_ | refine W.an ?_)))) rk_f
    exact f_ve (h216.weak (by first | exact W.refl _ | (repeat (first | exact W.nil | refine W.rf ?_ | refine W.cz ?_ | refine W.cc ?_ | refine W.vz ?_ | refine W.vo ?_ | refine W.an ?_)))) rk_f
  refine f_ret ?_
  exact f_rt h218 rk_f .f (.f .nil)
def p__law_good (mixers : Int) (prime : Int) (line : Str) : Res Bool :=
(splitR line ((" " : Str))).bind fun t5 =>
(Res.ok (t5 : List Str)).bind fun parts =>
(if (decide ((parts.length : Int) ≠ (mixers + 2))) = true then Res.ok true else
(geti parts mixers).bind fun t20 =>
Res.ok (decide (t20 ≠ (":" : Str)))).bind fun t23 =>
if t23 = true then
Res.ok false
else
(catR ((cutL parts none (some mixers))) ((cutL parts (some (mixers + 1)) none))).bind fun t35 =>
(Res.ok (t35 : List Str)).bind fun numbers =>
(filC (fun (part : Str) =>
(p__law_plain part).bind fun t46 =>
if (!t46) = true then
Res.ok (some part)
else Res.ok none) numbers).bind fun t51 =>
if (!t51.isEmpty) = true then
Res.ok false
else
(mapC (fun (part : Str) =>
(intSR part).bind fun t63 =>
Res.ok t63) (cutL parts none (some mixers))).bind fun t64 =>
(Res.ok (t64 : List Int)).bind fun shares =>
(maxR shares).bind fun t71 =>
(if (decide (t71 < prime)) = true then
(modR shares.sum prime).bind fun t89 =>
(geti parts (-1)).bind fun t94 =>
(intSR t94).bind fun t95 =>
Res.ok (decide (t89 = t95))
else Res.ok false).bind fun t96 =>
Res.ok t96
theorem ss__law_good (mixers : Int) (prime : Int) (line : Str) : FS false (φ__law_good [.fz (enc mixers), .fz (enc prime), .fz (enc line)]) (p__law_good mixers prime line) (fun t => .fz (enc t)) (fun t => [.fz (enc mixers), .fz (enc prime), .fz (enc line)]) := by
  refine fs_mk0 [.fz (enc mixers), .fz (enc prime), .fz (enc line), .clr, .clr, .clr, .clr] rfl (by repeat (first | exact trivial | refine ⟨rfl, ?_⟩)) fun e0 h0 => ?_
  unfold p__law_good
  unfold d__law_good
  refine c_seq ?_
  refine c_set ?_
  refine c_split ?_
  refine c_pure h0 (p_fz rfl) fun r1 k2 => ?_
  refine f_split1 (x := line) h0 k2 ?_
  refine c_pure h0 (p_c) fun r3 k4 => ?_
  refine f_split2 (x := line) (y := (" " : Str)) h0 k4 (fun t5 r6 k7 => ?_)
  refine f_setL (v := (t5 : List Str)) (fun v => .ol (encs v)) h0 k7 .w (by decide) fun parts _ h8 => ?_
  try dsimp only [List.set_cons_zero, List.set_cons_succ] at h8
  refine c_nx ?_
  refine c_seq ?_
  refine c_if ?_
  refine c_or ?_
  refine c_pureB h8 (b_t (p_ne (x := (parts.length : Int)) (y := (mixers + 2)) (p_len (p_ol rfl)) (p_int (p_fz rfl) (p_c)))) ?_
  refine f_or h8 (fun _ => ?_) fun t23 _ h24 => ?_
  · refine c_t ?_
    refine c_op ?_
    refine c_ix ?_
    refine c_pure h8 (p_ol rfl) fun r16 k17 => ?_
    refine c_ix2 ?_
    refine c_pure h8 (p_fz rfl) fun r18 k19 => ?_
    refine f_ix (xs := parts) h8 k17 k19 fun t20 => ?_
    refine c_op2 ?_
    refine c_pure h8 (p_c) fun r21 k22 => ?_
    refine f_ne (u := t20) (v := (":" : Str)) h8 rk_f k22 ?_
    refine f_t h8 rk_f ?_
    exact f_tb (h8.weak (by first | exact W.refl _ | (repeat (first | exact W.nil | refine W.rf ?_ | refine W.cz ?_ | refine W.cc ?_ | refine W.vz ?_ | refine W.vo ?_ | refine W.an ?_))))
  refine f_if (fun _ => ?_) (fun _ => ?_)
  · refine c_ret ?_
    refine c_pure h24 (p_c) fun r25 k26 => ?_
    refine f_ret ?_
    exact f_rt h24 k26 .f (.f (.f (.f .nil)))
  · refine c_next ?_
    refine c_nx ?_
    refine c_seq ?_
    refine c_set ?_
    refine c_addL ?_
    refine c_sl ?_
    refine c_pure h24 (p_ol rfl) fun r27 k28 => ?_
    refine f_sl h24 k28 (.v rfl) pp_no (pp_at (p_fz rfl)) fun r29 _ k30 h31 => ?_
    refine f_addL1 (xs := (cutL parts none (some mixers))) h31 k30 .w fun _ h32 => ?_
    refine c_pure h32 (p_cut (p_fz rfl) (pp_at (p_int (p_fz rfl) (p_c))) pp_no) fun r33 k34 => ?_
    refine f_addL2 h32 k34 .w fun t35 r36 _ k37 h38 => ?_
    refine f_setL (v := (t35 : List Str)) (fun v => .ol (encs v)) h38 k37 .w (by decide) fun numbers _ h39 => ?_
    try dsimp only [List.set_cons_zero, List.set_cons_succ] at h39
    refine c_nx ?_
    refine c_seq ?_
    refine c_if ?_
    refine c_tru ?_
    refine c_comp ?_
    refine c_it ?_
    refine c_pure h39 (p_ol rfl) fun r40 k41 => ?_
    refine f_it (xs := numbers) h39 k41 (.v rfl) fun _ h42 => ?_
    refine f_filC (ψ := Str) h42 (fun _ => tg_n) ?_ fun t51 r52 _ k53 h54 => ?_
    · rintro part _ h43
      try dsimp only [List.set_cons_zero, List.set_cons_succ, wipeS] at h43 ⊢
      refine c_not ?_
      refine c_tru ?_
      refine c_callB ?_
      refine c_pureA h43 (pa_cons' (p_fz rfl) pa_nil') fun r44 k45 => ?_
      refine f_callB h43 k45 (.cons .f .nil) rfl (ss__law_plain part) imm_B fun t46 r47 k48 => ?_
      refine f_truB h43 k48 ?_
      refine f_not ?_
      refine f_cmp' (fun _ => ?_) (fun _ => ?_)
      · refine c_pure h43 (p_fz rfl) fun r49 k50 => ?_
        exact f_elo (v := part) h43 k50
      · exact f_elno h43
    refine f_truL h54 k53 ?_
    refine f_if (fun _ => ?_) (fun _ => ?_)
    · refine c_ret ?_
      refine c_pure h54 (p_c) fun r55 k56 => ?_
      refine f_ret ?_
      exact f_rt h54 k56 .f (.f (.f (.f .nil)))
    · refine c_next ?_
      refine c_nx ?_
      refine c_seq ?_
      refine c_set ?_
      refine c_comp ?_
      refine c_it ?_
      refine c_pure h54 (p_cut (p_fz rfl) pp_no (pp_at (p_fz rfl))) fun r57 k58 => ?_
      refine f_it (xs := (cutL parts none (some mixers))) h54 k58 .w fun _ h59 => ?_
      refine f_mapC (ψ := Int) h59 (fun _ => tg_n) ?_ fun t64 r65 _ k66 h67 => ?_
      · rintro part _ h60
        try dsimp only [List.set_cons_zero, List.set_cons_succ, wipeS] at h60 ⊢
        refine c_cb ?_
        refine c_cons ?_
        refine c_pure h60 (p_fz rfl) fun r61 k62 => ?_
        refine c_cons2 ?_
        refine c_nil ?_
        refine f_cons ?_
        refine f_intS (x := part) h60 k62 (fun t63 => ?_)
        exact f_el (v := t63) h60 rk_f
      refine f_setL (v := (t64 : List Int)) (fun v => .ol (encs v)) h67 k66 .w (by decide) fun shares _ h68 => ?_
      try dsimp only [List.set_cons_zero, List.set_cons_succ] at h68
      refine c_nx ?_
      refine c_ret ?_
      refine c_andV ?_
      refine c_op ?_
      refine c_cb ?_
      refine c_cons ?_
      refine c_pure h68 (p_ol rfl) fun r69 k70 => ?_
      refine c_cons2 ?_
      refine c_nil ?_
      refine f_cons ?_
      refine f_max (xs := shares) h68 k70 fun t71 => ?_
      refine c_op2 ?_
      refine c_pure h68 (p_fz rfl) fun r72 k73 => ?_
      refine f_cmp h68 rk_f k73 (kk := ?_)
      refine f_andV h68 rk_f (fun _ => ?_) fun t96 _ h97 => ?_
      · refine c_op ?_
        refine c_op ?_
        refine c_pure h68 (p_toInt (p_sum (p_ol rfl))) fun r85 k86 => ?_
        refine c_op2 ?_
        refine c_pure h68 (p_fz rfl) fun r87 k88 => ?_
        refine f_mod h68 k86 k88 (kk := fun t89 => ?_)
        refine c_op2 ?_
        refine c_cb ?_
        refine c_cons ?_
        refine c_ix ?_
        refine c_pure h68 (p_fz rfl) fun r90 k91 => ?_
        refine c_ix2 ?_
        refine c_pure h68 (p_c) fun r92 k93 => ?_
        refine f_ix (xs := parts) h68 k91 k93 fun t94 => ?_
        refine c_cons2 ?_
        refine c_nil ?_
        refine f_cons ?_
        refine f_intS (x := t94) h68 rk_f (fun t95 => ?_)
        refine f_eq (u := t89) (v := t95) h68 rk_f rk_f ?_
        exact f_ve (h68.weak (by first | exact W.refl _ | (repeat (first | exact W.nil | refine W.rf ?_ | refine W.cz ?_ | refine W.cc ?_ | refine W.vz ?_ | refine W.vo ?_ | refine W.an ?_)))) rk_f
      refine f_ret ?_
      exact f_rt h97 rk_f .f (.f (.f (.f .nil)))
def p__law_read (mixers : Int) (text : Str) : Res VF.D :=
tryR (
(p_read_board mixers text).bind fun t9 =>
Res.ok (Lp.out (enc (t9 : (Option Int) × (List (List Int)))))) (fun x => ex1 "LineError" "line" (fun (line : Int) => some (enc ((("line" : Str), line) : Str × Int))) x) fun (_ : Unit) =>
Res.st
theorem ss__law_read (mixers : Int) (text : Str) : FS false (φ__law_read [.fz (enc mixers), .fz (enc text)]) (p__law_read mixers text) (fun t => .fz (enc t)) (fun t => [.fz (enc mixers), .fz (enc text)]) := by
  refine fs_mk0 [.fz (enc mixers), .fz (enc text), .clr] rfl (by repeat (first | exact trivial | refine ⟨rfl, ?_⟩)) fun e0 h0 => ?_
  unfold p__law_read
  unfold d__law_read
  refine c_try h0 (fun (s : Unit) => [.fz (enc mixers), .fz (enc text), .clr]) ?_ ?_ ?_
  · refine c_ret ?_
    refine c_call ?_
    refine c_pureA h0 (pa_cons' (p_fz rfl) (pa_cons' (p_fz rfl) pa_nil')) fun r7 k8 => ?_
    refine f_callX h0 k8 (.f .f (.f .f .nil)) (ss_read_board mixers text) (fun _ _ q => mkFn_ex q) rfl (fun _ _ _ => trivial) (fun _ => (.f (.f .nil))) (fun _ => rk_f) fun t9 r10 _ k11 h12 => ?_
    try dsimp only [List.set_cons_zero, List.set_cons_succ] at h12
    refine f_ret ?_
    refine f_tout ?_
    exact f_rt h12 k11 .f (.f (.f .nil))
  · intro x t hq
    have hz := ex1_some hq
    clear hq
    obtain ⟨line, rfl, hw⟩ := hz
    have hw := Option.some.inj hw
    subst hw
    exact ⟨(fun t => .fz (enc t) : VF.D → VF.SV) (enc ((("line" : Str), line) : Str × Int)), by kernel_rfl, by rfl, fun e1 => f_rtX rfl rfl (by rfl) rfl rfl⟩
  rintro _ _ h13
  try dsimp only [List.set_cons_zero, List.set_cons_succ] at h13 ⊢
  exact ⟨trivial⟩
def r_law_16 : M Fl := d_law_16
def p_law_16 (script : List Int) (mixers : Int) (other : Str) (head : List Str) (due : List (List Int)) : Res Bool :=
(p__law_read mixers other).bind fun t3 =>
(geti head 1).bind fun t11 =>
(intSR t11).bind fun t12 =>
(p__law_same t3 (((t12, due) : Int × (List (List Int))))).bind fun t18 =>
Res.ok t18
theorem ss_law_16 (script : List Int) (mixers : Int) (other : Str) (head : List Str) (due : List (List Int)) (e0 : VF.Env) (h0 : Has (pinIx 0 [false]) [.fz (.scr script), .any, .cf, .fz (enc mixers), .cf, .cf, .any, .cf, .cf, .fz (enc other), .cf, .ol (encs head), .cf, .ol (encs due), .cf, .cf, .cf, .cf] e0) : Sm ((r_law_16 e0).bind okK) (p_law_16 script mixers other head due) (GF [false] [.fz (.scr script)] (fun t => .fz (enc t)) (fun t => [.fz (.scr script)])) (fun _ _ => False) := by
  unfold p_law_16
  unfold r_law_16
  refine c_ret ?_
  refine c_callB ?_
  refine c_cons ?_
  refine c_call ?_
  refine c_pureA h0 (pa_cons' (p_fz rfl) (pa_cons' (p_fz rfl) pa_nil')) fun r1 k2 => ?_
  refine f_call h0 k2 (.f .f (.f .f .nil)) (ss__law_read mixers other) (fun _ => (.f (.f .nil))) (fun _ => rk_f) fun t3 r4 _ k5 h6 => ?_
  try dsimp only [List.set_cons_zero, List.set_cons_succ] at h6
  refine c_cons2 ?_
  refine c_cons ?_
  refine c_tup ?_
  refine c_cons ?_
  refine c_cb ?_
  refine c_cons ?_
  refine c_ix ?_
  refine c_pure h6 (p_ol rfl) fun r7 k8 => ?_
  refine c_ix2 ?_
  refine c_pure h6 (p_c) fun r9 k10 => ?_
  refine f_ix (xs := head) h6 k8 k10 fun t11 => ?_
  refine c_cons2 ?_
  refine c_nil ?_
  refine f_cons ?_
  refine f_intS (x := t11) h6 rk_f (fun t12 => ?_)
  refine c_cons2 ?_
  refine c_cons ?_
  refine c_pure h6 (p_ol rfl) fun r13 k14 => ?_
  refine c_cons2 ?_
  refine c_nil ?_
  refine f_cons ?_
  refine f_cons ?_
  refine f_tup h6 (rks rk_f (rks k14 rks0)) (.cons .f (.cons (.v rfl) .nil)) (Nat.le_of_ble_eq_true rfl) fun r15 _ k16 h17 => ?_
  refine c_cons2 ?_
  refine c_nil ?_
  refine f_cons ?_
  refine f_cons ?_
  refine f_callB h17 (rks k5 (rks k16 rks0)) (.cons .f (.cons .f .nil)) rfl (ss__law_same t3 (((t12, due) : Int × (List (List Int))))) imm_B fun t18 r19 k20 => ?_
  refine f_ret ?_
  exact f_rt h17 k20 .f (.f .nil)
def r_law_14 : M Fl := (dSeq d_law_14 (dSeq d_law_15 r_law_16))
def p_law_14 (script : List Int) (mixers : Int) (other : Str) (rows : List Str) (head : List Str) : Res Bool :=
(rngR 1 ((rows.length : Int))).bind fun xs3 =>
forR (fun k' _ =>
(geti head 1).bind fun t38 =>
(intSR t38).bind fun t39 =>
(geti rows k').bind fun t44 =>
(p__law_good mixers t39 t44).bind fun t45 =>
if (!t45) = true then
(p__law_read mixers other).bind fun t50 =>
(p__law_same t50 (((("line" : Str), (k' + 1)) : Str × Int))).bind fun t56 =>
Res.ok (Lp.out t56)
else
Res.ok (Lp.go ())) xs3 () fun _ =>
(mapC (fun (line : Str) =>
(splitR line ((" " : Str))).bind fun t71 =>
(mapC (fun (part : Str) =>
(intSR part).bind fun t81 =>
Res.ok t81) (cutL t71 none (some mixers))).bind fun t82 =>
Res.ok t82) (cutL rows (some 1) none)).bind fun t86 =>
(Res.ok (t86 : List (List Int))).bind fun due =>
p_law_16 script mixers other head due
theorem ss_law_14 (script : List Int) (mixers : Int) (other : Str) (rows : List Str) (head : List Str) (e0 : VF.Env) (h0 : Has (pinIx 0 [false]) [.fz (.scr script), .any, .cf, .fz (enc mixers), .cf, .cf, .any, .cf, .cf, .fz (enc other), .ol (encs rows), .ol (encs head), .cf, .cf, .cf, .cf, .cf, .cf] e0) : Sm ((r_law_14 e0).bind okK) (p_law_14 script mixers other rows head) (GF [false] [.fz (.scr script)] (fun t => .fz (enc t)) (fun t => [.fz (.scr script)])) (fun _ _ => False) := by
  unfold p_law_14
  unfold r_law_14
  refine c_seq ?_
  refine c_for ?_
  refine c_rng2 ?_
  refine c_pureA h0 (pa_cons' (p_c) (pa_cons' (p_len (p_ol rfl)) pa_nil')) fun r1 k2 => ?_
  refine f_rng2' h0 k2 fun xs3 => ?_
  refine f_for (fun (s : Unit) => [.fz (.scr script), .any, .cf, .fz (enc mixers), .cf, .cf, .any, .cf, .cf, .fz (enc other), .ol (encs rows), .ol (encs head), .cf, .cf, .cf, .cf, .cf, .cf]) (fun _ _ => tg_n) ?_ ?_ h0
  · rintro k' _ _ h31
    try dsimp only [List.set_cons_zero, List.set_cons_succ] at h31 ⊢
    refine c_if ?_
    refine c_not ?_
    refine c_tru ?_
    refine c_callB ?_
    refine c_cons ?_
    refine c_pure h31 (p_fz rfl) fun r32 k33 => ?_
    refine c_cons2 ?_
    refine c_cons ?_
    refine c_cb ?_
    refine c_cons ?_
    refine c_ix ?_
    refine c_pure h31 (p_ol rfl) fun r34 k35 => ?_
    refine c_ix2 ?_
    refine c_pure h31 (p_c) fun r36 k37 => ?_
    refine f_ix (xs := head) h31 k35 k37 fun t38 => ?_
    refine c_cons2 ?_
    refine c_nil ?_
    refine f_cons ?_
    refine f_intS (x := t38) h31 rk_f (fun t39 => ?_)
    refine c_cons2 ?_
    refine c_cons ?_
    refine c_ix ?_
    refine c_pure h31 (p_ol rfl) fun r40 k41 => ?_
    refine c_ix2 ?_
    refine c_pure h31 (p_fz rfl) fun r42 k43 => ?_
    refine f_ix (xs := rows) h31 k41 k43 fun t44 => ?_
    refine c_cons2 ?_
    refine c_nil ?_
    refine f_cons ?_
    refine f_cons ?_
    refine f_cons ?_
    refine f_callB h31 (rks k33 (rks rk_f (rks rk_f rks0))) (.cons .f (.cons .f (.cons .f .nil))) rfl (ss__law_good mixers t39 t44) imm_B fun t45 r46 k47 => ?_
    refine f_truB h31 k47 ?_
    refine f_not ?_
    refine f_if (fun _ => ?_) (fun _ => ?_)
    · refine c_ret ?_
      refine c_callB ?_
      refine c_cons ?_
      refine c_call ?_
      refine c_pureA h31 (pa_cons' (p_fz rfl) (pa_cons' (p_fz rfl) pa_nil')) fun r48 k49 => ?_
      refine f_call h31 k49 (.f .f (.f .f .nil)) (ss__law_read mixers other) (fun _ => (.f (.f .nil))) (fun _ => rk_f) fun t50 r51 _ k52 h53 => ?_
      try dsimp only [List.set_cons_zero, List.set_cons_succ] at h53
      refine c_cons2 ?_
      refine c_cons ?_
      refine c_pure h53 (p_tup (pa_cons' (p_c) (pa_cons' (p_int (p_fz rfl) (p_c)) pa_nil')) (.cons .f (.cons .f .nil))) fun r54 k55 => ?_
      refine c_cons2 ?_
      refine c_nil ?_
      refine f_cons ?_
      refine f_cons ?_
      refine f_callB h53 (rks k52 (rks k55 rks0)) (.cons .f (.cons .f .nil)) rfl (ss__law_same t50 (((("line" : Str), (k' + 1)) : Str × Int))) imm_B fun t56 r57 k58 => ?_
      refine f_ret ?_
      refine f_out ?_
      exact f_rt h53 k58 .f (.f .nil)
    · refine c_next ?_
      exact f_go h31
  rintro _ _ h59
  try dsimp only [List.set_cons_zero, List.set_cons_succ] at h59 ⊢
  refine c_nx ?_
  refine c_seq ?_
  refine c_set ?_
  refine c_comp ?_
  refine c_it ?_
  refine c_sl ?_
  refine c_pure h59 (p_ol rfl) fun r60 k61 => ?_
  refine f_sl h59 k61 (.v rfl) (pp_at (p_c)) pp_no fun r62 _ k63 h64 => ?_
  refine f_it (xs := (cutL rows (some 1) none)) h64 k63 .w fun _ h65 => ?_
  refine f_mapC (ψ := List Int) h65 (fun _ => tg_n) ?_ fun t86 r87 _ k88 h89 => ?_
  · rintro line _ h66
    try dsimp only [List.set_cons_zero, List.set_cons_succ, wipeS] at h66 ⊢
    refine c_comp ?_
    refine c_it ?_
    refine c_sl ?_
    refine c_split ?_
    refine c_pure h66 (p_fz rfl) fun r67 k68 => ?_
    refine f_split1 (x := line) h66 k68 ?_
    refine c_pure h66 (p_c) fun r69 k70 => ?_
    refine f_split2 (x := line) (y := (" " : Str)) h66 k70 (fun t71 r72 k73 => ?_)
    refine f_sl h66 k73 .w pp_no (pp_at (p_fz rfl)) fun r74 _ k75 h76 => ?_
    refine f_it (xs := (cutL t71 none (some mixers))) h76 k75 .w fun _ h77 => ?_
    refine f_mapC (ψ := Int) h77 (fun _ => tg_n) ?_ fun t82 r83 _ k84 h85 => ?_
    · rintro part _ h78
      try dsimp only [List.set_cons_zero, List.set_cons_succ, wipeS] at h78 ⊢
      refine c_cb ?_
      refine c_cons ?_
      refine c_pure h78 (p_fz rfl) fun r79 k80 => ?_
      refine c_cons2 ?_
      refine c_nil ?_
      refine f_cons ?_
      refine f_intS (x := part) h78 k80 (fun t81 => ?_)
      exact f_el (v := t81) h78 rk_f
    exact f_el (v := t82) h85 k84
  refine f_setL (v := (t86 : List (List Int))) (fun v => .ol (encs v)) h89 k88 .w (by decide) fun due _ h90 => ?_
  try dsimp only [List.set_cons_zero, List.set_cons_succ] at h90
  refine c_nx ?_
  exact ss_law_16 script mixers other head due _ (h90.weak (by first | exact W.refl _ | (repeat (first | exact W.nil | refine W.rf ?_ | refine W.cz ?_ | refine W.cc ?_ | refine W.vz ?_ | refine W.vo ?_ | refine W.an ?_))))
def r_law_10 : M Fl := (dSeq d_law_10 (dSeq d_law_11 (dSeq d_law_12 (dSeq d_law_13 r_law_14))))
def p_law_10 (script : List Int) (boxH : Bx) (mixers : Int) (text : Str) (at' : Int) : Res Bool :=
(cutSR text none (some at')).bind fun t3 =>
(p__law_draw boxH 6).bind fun (t8, boxH) =>
(getiS (("0 9:\n1" : Str)) t8).bind fun t12 =>
(addSR t3 t12).bind fun t13 =>
(okS text).bind fun _ =>
(p__law_draw boxH 2).bind fun (t20, boxH) =>
(addSR t13 ((cutS text (some ((at' + t20))) none))).bind fun t24 =>
(Res.ok (t24 : Str)).bind fun other =>
(splitR other (("\n" : Str))).bind fun t30 =>
(Res.ok (t30 : List Str)).bind fun rows =>
(geti rows 0).bind fun t38 =>
(splitR t38 ((" " : Str))).bind fun t41 =>
(Res.ok (t41 : List Str)).bind fun head =>
(if (decide ((head.length : Int) ≠ 2)) = true then Res.ok true else
(geti head 0).bind fun t110 =>
(if (decide (t110 ≠ ("prime" : Str))) = true then Res.ok true else
(geti head 1).bind fun t143 =>
(p__law_plain t143).bind fun t144 =>
(if (!t144) = true then Res.ok true else
(geti head 1).bind fun t159 =>
(intSR t159).bind fun t160 =>
Res.ok (decide (t160 < 2))).bind fun t163 =>
Res.ok t163).bind fun t165 =>
Res.ok t165).bind fun t167 =>
if t167 = true then
(p__law_read mixers other).bind fun t171 =>
(p__law_same t171 (((("line" : Str), 1) : Str × Int))).bind fun t177 =>
Res.ok t177
else
p_law_14 script mixers other rows head
theorem ss_law_10 (script : List Int) (boxH : Bx) (mixers : Int) (text : Str) (at' : Int) (e0 : VF.Env) (h0 : Has (pinIx 0 [false]) [.fz (.scr script), .ol (boxD boxH), .cf, .fz (enc mixers), .cf, .cf, .any, .fz (enc text), .fz (enc at'), .cf, .cf, .cf, .cf, .cf, .cf, .cf, .cf, .cf] e0) : Sm ((r_law_10 e0).bind okK) (p_law_10 script boxH mixers text at') (GF [false] [.fz (.scr script)] (fun t => .fz (enc t)) (fun t => [.fz (.scr script)])) (fun _ _ => False) := by
  unfold p_law_10
  unfold r_law_10
  refine c_seq ?_
  refine c_set ?_
  refine c_op ?_
  refine c_op ?_
  refine c_slS ?_
  refine c_pure h0 (p_fz rfl) fun r1 k2 => ?_
  refine f_slS (x := text) (lo := none) (hi := (some at')) h0 k2 pp_no (pp_at (p_fz rfl)) (fun t3 => ?_)
  refine c_op2 ?_
  refine c_ix ?_
  refine c_pure h0 (p_c) fun r4 k5 => ?_
  refine c_ix2 ?_
  refine c_call ?_
  refine c_pureA h0 (pa_cons' (p_ol rfl) (pa_cons' (p_c) pa_nil')) fun r6 k7 => ?_
  refine f_call h0 k7 (.t rfl (.f .f .nil)) (ss__law_draw boxH 6) (fun _ => (.t rfl (.f .nil))) (fun _ => rk_f) ?_
  rintro ⟨t8, boxH⟩ r9 _ k10 h11
  try dsimp only [List.set_cons_zero, List.set_cons_succ] at h11 ⊢
  refine f_ixS (x := ("0 9:\n1" : Str)) (i := t8) h11 k5 k10 (fun t12 => ?_)
  refine f_addS (x := t3) (y := t12) h11 rk_f rk_f (fun t13 => ?_)
  refine c_op2 ?_
  refine c_slS ?_
  refine c_pure h11 (p_fz rfl) fun r14 k15 => ?_
  refine f_slSF (x := text) h11 k15 ?_
  refine c_op ?_
  refine c_pure h11 (p_fz rfl) fun r16 k17 => ?_
  refine c_op2 ?_
  refine c_call ?_
  refine c_pureA h11 (pa_cons' (p_ol rfl) (pa_cons' (p_c) pa_nil')) fun r18 k19 => ?_
  refine f_call h11 k19 (.t rfl (.f .f .nil)) (ss__law_draw boxH 2) (fun _ => (.t rfl (.f .nil))) (fun _ => rk_f) ?_
  rintro ⟨t20, boxH⟩ r21 _ k22 h23
  try dsimp only [List.set_cons_zero, List.set_cons_succ] at h23 ⊢
  refine f_int h23 k17 k22 (kk := ?_)
  refine f_slSL2 (x := text) (i := (at' + t20)) h23 rk_f ?_
  refine f_addS (x := t13) (y := (cutS text (some ((at' + t20))) none)) h23 rk_f rk_f (fun t24 => ?_)
  refine f_setL (v := (t24 : Str)) (fun v => .fz (enc v)) h23 rk_f .f (by decide) fun other _ h25 => ?_
  try dsimp only [List.set_cons_zero, List.set_cons_succ] at h25
  refine c_nx ?_
  refine c_seq ?_
  refine c_set ?_
  refine c_split ?_
  refine c_pure h25 (p_fz rfl) fun r26 k27 => ?_
  refine f_split1 (x := other) h25 k27 ?_
  refine c_pure h25 (p_c) fun r28 k29 => ?_
  refine f_split2 (x := other) (y := ("\n" : Str)) h25 k29 (fun t30 r31 k32 => ?_)
  refine f_setL (v := (t30 : List Str)) (fun v => .ol (encs v)) h25 k32 .w (by decide) fun rows _ h33 => ?_
  try dsimp only [List.set_cons_zero, List.set_cons_succ] at h33
  refine c_nx ?_
  refine c_seq ?_
  refine c_set ?_
  refine c_split ?_
  refine c_ix ?_
  refine c_pure h33 (p_ol rfl) fun r34 k35 => ?_
  refine c_ix2 ?_
  refine c_pure h33 (p_c) fun r36 k37 => ?_
  refine f_ix (xs := rows) h33 k35 k37 fun t38 => ?_
  refine f_split1 (x := t38) h33 rk_f ?_
  refine c_pure h33 (p_c) fun r39 k40 => ?_
  refine f_split2 (x := t38) (y := (" " : Str)) h33 k40 (fun t41 r42 k43 => ?_)
  refine f_setL (v := (t41 : List Str)) (fun v => .ol (encs v)) h33 k43 .w (by decide) fun head _ h44 => ?_
  try dsimp only [List.set_cons_zero, List.set_cons_succ] at h44
  refine c_nx ?_
  refine c_seq ?_
  refine c_if ?_
  refine c_or ?_
  refine c_pureB h44 (b_t (p_ne (x := (head.length : Int)) (y := 2) (p_len (p_ol rfl)) (p_c))) ?_
  refine f_or h44 (fun _ => ?_) fun t167 _ h168 => ?_
  · refine c_or ?_
    refine c_t ?_
    refine c_op ?_
    refine c_ix ?_
    refine c_pure h44 (p_ol rfl) fun r106 k107 => ?_
    refine c_ix2 ?_
    refine c_pure h44 (p_c) fun r108 k109 => ?_
    refine f_ix (xs := head) h44 k107 k109 fun t110 => ?_
    refine c_op2 ?_
    refine c_pure h44 (p_c) fun r111 k112 => ?_
    refine f_ne (u := t110) (v := ("prime" : Str)) h44 rk_f k112 ?_
    refine f_t h44 rk_f ?_
    refine f_or h44 (fun _ => ?_) fun t165 _ h166 => ?_
    · refine c_or ?_
      refine c_not ?_
      refine c_tru ?_
      refine c_callB ?_
      refine c_cons ?_
      refine c_ix ?_
      refine c_pure h44 (p_ol rfl) fun r139 k140 => ?_
      refine c_ix2 ?_
      refine c_pure h44 (p_c) fun r141 k142 => ?_
      refine f_ix (xs := head) h44 k140 k142 fun t143 => ?_
      refine c_cons2 ?_
      refine c_nil ?_
      refine f_cons ?_
      refine f_callB h44 (rks rk_f rks0) (.cons .f .nil) rfl (ss__law_plain t143) imm_B fun t144 r145 k146 => ?_
      refine f_truB h44 k146 ?_
      refine f_not ?_
      refine f_or h44 (fun _ => ?_) fun t163 _ h164 => ?_
      · refine c_t ?_
        refine c_op ?_
        refine c_cb ?_
        refine c_cons ?_
        refine c_ix ?_
        refine c_pure h44 (p_ol rfl) fun r155 k156 => ?_
        refine c_ix2 ?_
        refine c_pure h44 (p_c) fun r157 k158 => ?_
        refine f_ix (xs := head) h44 k156 k158 fun t159 => ?_
        refine c_cons2 ?_
        refine c_nil ?_
        refine f_cons ?_
        refine f_intS (x := t159) h44 rk_f (fun t160 => ?_)
        refine c_op2 ?_
        refine c_pure h44 (p_c) fun r161 k162 => ?_
        refine f_cmp h44 rk_f k162 (kk := ?_)
        refine f_t h44 rk_f ?_
        exact f_tb (h44.weak (by first | exact W.refl _ | (repeat (first | exact W.nil | refine W.rf ?_ | refine W.cz ?_ | refine W.cc ?_ | refine W.vz ?_ | refine W.vo ?_ | refine W.an ?_))))
      exact f_tb (h164.weak (by first | exact W.refl _ | (repeat (first | exact W.nil | refine W.rf ?_ | refine W.cz ?_ | refine W.cc ?_ | refine W.vz ?_ | refine W.vo ?_ | refine W.an ?_))))
    exact f_tb (h166.weak (by first | exact W.refl _ | (repeat (first | exact W.nil | refine W.rf ?_ | refine W.cz ?_ | refine W.cc ?_ | refine W.vz ?_ | refine W.vo ?_ | refine W.an ?_))))
  refine f_if (fun _ => ?_) (fun _ => ?_)
  · refine c_ret ?_
    refine c_callB ?_
    refine c_cons ?_
    refine c_call ?_
    refine c_pureA h168 (pa_cons' (p_fz rfl) (pa_cons' (p_fz rfl) pa_nil')) fun r169 k170 => ?_
    refine f_call h168 k170 (.f .f (.f .f .nil)) (ss__law_read mixers other) (fun _ => (.f (.f .nil))) (fun _ => rk_f) fun t171 r172 _ k173 h174 => ?_
    try dsimp only [List.set_cons_zero, List.set_cons_succ] at h174
    refine c_cons2 ?_
    refine c_cons ?_
    refine c_pure h174 (p_tup (pa_cons' (p_c) (pa_cons' (p_c) pa_nil')) (.cons .f (.cons .f .nil))) fun r175 k176 => ?_
    refine c_cons2 ?_
    refine c_nil ?_
    refine f_cons ?_
    refine f_cons ?_
    refine f_callB h174 (rks k173 (rks k176 rks0)) (.cons .f (.cons .f .nil)) rfl (ss__law_same t171 (((("line" : Str), 1) : Str × Int))) imm_B fun t177 r178 k179 => ?_
    refine f_ret ?_
    exact f_rt h174 k179 .f (.f .nil)
  · refine c_next ?_
    refine c_nx ?_
    exact ss_law_14 script mixers other rows head _ (h168.weak (by first | exact W.refl _ | (repeat (first | exact W.nil | refine W.rf ?_ | refine W.cz ?_ | refine W.cc ?_ | refine W.vz ?_ | refine W.vo ?_ | refine W.an ?_))))
def r_law_7 : M Fl := (dSeq d_law_7 (dSeq d_law_8 (dSeq d_law_9 r_law_10)))
def p_law_7 (script : List Int) (boxH : Bx) (prime : Int) (mixers : Int) (table : List (List Int)) (lines : List Str) : Res Bool :=
(joinR (("\n" : Str)) lines).bind fun t5 =>
(Res.ok (t5 : Str)).bind fun text =>
(p_write_board prime table).bind fun t9 =>
(p__law_same t9 text).bind fun t14 =>
(if (!t14) = true then Res.ok true else
(p__law_read mixers text).bind fun t30 =>
(p__law_same t30 (((prime, table) : Int × (List (List Int))))).bind fun t36 =>
Res.ok (!t36)).bind fun t39 =>
if t39 = true then
Res.ok false
else
(p__law_draw boxH 900).bind fun (t45, boxH) =>
(lenSR text).bind fun t51 =>
(modR t45 t51).bind fun t52 =>
(Res.ok (t52 : Int)).bind fun at' =>
p_law_10 script boxH mixers text at'
theorem ss_law_7 (script : List Int) (boxH : Bx) (prime : Int) (mixers : Int) (table : List (List Int)) (lines : List Str) (e0 : VF.Env) (h0 : Has (pinIx 0 [false]) [.fz (.scr script), .ol (boxD boxH), .fz (enc prime), .fz (enc mixers), .fz (enc table), .cf, .ol (encs lines), .cf, .cf, .cf, .cf, .cf, .cf, .cf, .cf, .cf, .cf, .cf] e0) : Sm ((r_law_7 e0).bind okK) (p_law_7 script boxH prime mixers table lines) (GF [false] [.fz (.scr script)] (fun t => .fz (enc t)) (fun t => [.fz (.scr script)])) (fun _ _ => False) := by
  unfold p_law_7
  unfold r_law_7
  refine c_seq ?_
  refine c_set ?_
  refine c_join ?_
  refine c_pure h0 (p_c) fun r1 k2 => ?_
  refine f_join1 (x := ("\n" : Str)) h0 k2 ?_
  refine c_pure h0 (p_ol rfl) fun r3 k4 => ?_
  refine f_join2 (x := ("\n" : Str)) (ys := lines) h0 k4 (fun t5 => ?_)
  refine f_setL (v := (t5 : Str)) (fun v => .fz (enc v)) h0 rk_f .f (by decide) fun text _ h6 => ?_
  try dsimp only [List.set_cons_zero, List.set_cons_succ] at h6
  refine c_nx ?_
  refine c_seq ?_
  refine c_if ?_
  refine c_or ?_
  refine c_not ?_
  refine c_tru ?_
  refine c_callB ?_
  refine c_cons ?_
  refine c_callB ?_
  refine c_pureA h6 (pa_cons' (p_fz rfl) (pa_cons' (p_fz rfl) pa_nil')) fun r7 k8 => ?_
  refine f_callB h6 k8 (.cons .f (.cons .f .nil)) rfl (ss_write_board prime table) imm_S fun t9 r10 k11 => ?_
  refine c_cons2 ?_
  refine c_cons ?_
  refine c_pure h6 (p_fz rfl) fun r12 k13 => ?_
  refine c_cons2 ?_
  refine c_nil ?_
  refine f_cons ?_
  refine f_cons ?_
  refine f_callB h6 (rks k11 (rks k13 rks0)) (.cons .f (.cons .f .nil)) rfl (ss__law_same t9 text) imm_B fun t14 r15 k16 => ?_
  refine f_truB h6 k16 ?_
  refine f_not ?_
  refine f_or h6 (fun _ => ?_) fun t39 _ h40 => ?_
  · refine c_not ?_
    refine c_tru ?_
    refine c_callB ?_
    refine c_cons ?_
    refine c_call ?_
    refine c_pureA h6 (pa_cons' (p_fz rfl) (pa_cons' (p_fz rfl) pa_nil')) fun r28 k29 => ?_
    refine f_call h6 k29 (.f .f (.f .f .nil)) (ss__law_read mixers text) (fun _ => (.f (.f .nil))) (fun _ => rk_f) fun t30 r31 _ k32 h33 => ?_
    try dsimp only [List.set_cons_zero, List.set_cons_succ] at h33
    refine c_cons2 ?_
    refine c_cons ?_
    refine c_pure h33 (p_tup (pa_cons' (p_fz rfl) (pa_cons' (p_fz rfl) pa_nil')) (.cons .f (.cons .f .nil))) fun r34 k35 => ?_
    refine c_cons2 ?_
    refine c_nil ?_
    refine f_cons ?_
    refine f_cons ?_
    refine f_callB h33 (rks k32 (rks k35 rks0)) (.cons .f (.cons .f .nil)) rfl (ss__law_same t30 (((prime, table) : Int × (List (List Int))))) imm_B fun t36 r37 k38 => ?_
    refine f_truB h33 k38 ?_
    refine f_not ?_
    exact f_tb (h33.weak (by first | exact W.refl _ | (repeat (first | exact W.nil | refine W.rf ?_ | refine W.cz ?_ | refine W.cc ?_ | refine W.vz ?_ | refine W.vo ?_ | refine W.an ?_))))
  refine f_if (fun _ => ?_) (fun _ => ?_)
  · refine c_ret ?_
    refine c_pure h40 (p_c) fun r41 k42 => ?_
    refine f_ret ?_
    exact f_rt h40 k42 .f (.f .nil)
  · refine c_next ?_
    refine c_nx ?_
    refine c_seq ?_
    refine c_set ?_
    refine c_op ?_
    refine c_cb ?_
    refine c_cons ?_
    refine c_call ?_
    refine c_pureA h40 (pa_cons' (p_ol rfl) (pa_cons' (p_c) pa_nil')) fun r43 k44 => ?_
    refine f_call h40 k44 (.t rfl (.f .f .nil)) (ss__law_draw boxH 900) (fun _ => (.t rfl (.f .nil))) (fun _ => rk_f) ?_
    rintro ⟨t45, boxH⟩ r46 _ k47 h48
    try dsimp only [List.set_cons_zero, List.set_cons_succ] at h48 ⊢
    refine c_cons2 ?_
    refine c_nil ?_
    refine f_cons ?_
    refine f_toInt h48 k47 ?_
    refine c_op2 ?_
    refine c_cb ?_
    refine c_cons ?_
    refine c_pure h48 (p_fz rfl) fun r49 k50 => ?_
    refine c_cons2 ?_
    refine c_nil ?_
    refine f_cons ?_
    refine f_lenS (x := text) h48 k50 (fun t51 => ?_)
    refine f_mod h48 rk_f rk_f (kk := fun t52 => ?_)
    refine f_setL (v := (t52 : Int)) (fun v => .fz (enc v)) h48 rk_f .f (by decide) fun at' _ h53 => ?_
    try dsimp only [List.set_cons_zero, List.set_cons_succ] at h53
    refine c_nx ?_
    exact ss_law_10 script boxH mixers text at' _ (h53.weak (by first | exact W.refl _ | (repeat (first | exact W.nil | refine W.rf ?_ | refine W.cz ?_ | refine W.cc ?_ | refine W.vz ?_ | refine W.vo ?_ | refine W.an ?_))))
def r_law_3 : M Fl := (dSeq d_law_3 (dSeq d_law_4 (dSeq d_law_5 (dSeq d_law_6 r_law_7))))
def p_law_3 (script : List Int) (boxH : Bx) (prime : Int) (mixers : Int) : Res Bool :=
(Res.ok (([] : List (List Int)) : List (List Int))).bind fun table =>
(p__law_draw boxH 6).bind fun (t6, boxH) =>
(rng1R t6).bind fun xs10 =>
(foldR (fun (row_here_f : Int) (boxH, table) =>
(rng1R mixers).bind fun xs34 =>
(mapS (fun (mixer : Int) boxH =>
(p__law_draw boxH 1000).bind fun (t38, boxH) =>
(modR t38 prime).bind fun t44 =>
Res.ok (t44, boxH)) xs34 boxH).bind fun (t45, boxH) =>
(appR table t45).bind fun table =>
Res.ok (boxH, table)) xs10 (boxH, table)).bind fun (boxH, table) =>
(strR prime).bind fun t57 =>
(addSR (("prime " : Str)) t57).bind fun t58 =>
(Res.ok (([t58] : List Str) : List Str)).bind fun lines =>
forR (fun (rowH : List Int) lines =>
(mapC (fun (share : Int) =>
(strR share).bind fun t123 =>
Res.ok t123) rowH).bind fun t124 =>
(joinR ((" " : Str)) t124).bind fun t128 =>
(addSR t128 ((" : " : Str))).bind fun t131 =>
(modR rowH.sum prime).bind fun t136 =>
(strR t136).bind fun t137 =>
(addSR t131 t137).bind fun t138 =>
(appR lines t138).bind fun lines =>
(p_write_row rowH).bind fun t144 =>
(mapC (fun (share : Int) =>
(strR share).bind fun t155 =>
Res.ok t155) rowH).bind fun t156 =>
(joinR ((" " : Str)) t156).bind fun t160 =>
if (decide (t144 ≠ t160)) = true then
Res.ok (Lp.out false)
else
Res.ok (Lp.go lines)) table lines fun lines =>
p_law_7 script boxH prime mixers table lines
theorem ss_law_3 (script : List Int) (boxH : Bx) (prime : Int) (mixers : Int) (e0 : VF.Env) (h0 : Has (pinIx 0 [false]) [.fz (.scr script), .ol (boxD boxH), .fz (enc prime), .fz (enc mixers), .cf, .cf, .cf, .cf, .cf, .cf, .cf, .cf, .cf, .cf, .cf, .cf, .cf, .cf] e0) : Sm ((r_law_3 e0).bind okK) (p_law_3 script boxH prime mixers) (GF [false] [.fz (.scr script)] (fun t => .fz (enc t)) (fun t => [.fz (.scr script)])) (fun _ _ => False) := by
  unfold p_law_3
  unfold r_law_3
  refine c_seq ?_
  refine c_set ?_
  refine c_pure h0 (p_lst pa_nil' .nil) fun r1 k2 => ?_
  refine f_setL (v := (([] : List (List Int)) : List (List Int))) (fun v => .ol (encs v)) h0 k2 .w (by decide) fun table _ h3 => ?_
  try dsimp only [List.set_cons_zero, List.set_cons_succ] at h3
  refine c_nx ?_
  refine c_seq ?_
  refine c_for ?_
  refine c_rng1 ?_
  refine c_cons ?_
  refine c_call ?_
  refine c_pureA h3 (pa_cons' (p_ol rfl) (pa_cons' (p_c) pa_nil')) fun r4 k5 => ?_
  refine f_call h3 k5 (.t rfl (.f .f .nil)) (ss__law_draw boxH 6) (fun _ => (.t rfl (.f .nil))) (fun _ => rk_f) ?_
  rintro ⟨t6, boxH⟩ r7 _ k8 h9
  try dsimp only [List.set_cons_zero, List.set_cons_succ] at h9 ⊢
  refine c_cons2 ?_
  refine c_nil ?_
  refine f_cons ?_
  refine f_rng1' h9 (rks k8 rks0) fun xs10 => ?_
  refine f_fold (fun (s : Bx × List (List Int)) => [.fz (.scr script), .ol (boxD s.1), .fz (enc prime), .fz (enc mixers), .ol (encs s.2), .cf, .cf, .cf, .cf, .cf, .cf, .cf, .cf, .cf, .cf, .cf, .cf, .cf]) (fun _ _ => tg_n) ?_ ?_ h9
  · rintro row_here_f ⟨boxH, table⟩ _ h31
    try dsimp only [List.set_cons_zero, List.set_cons_succ] at h31 ⊢
    refine c_drop ?_
    refine c_app (ds := encs table) h31 rfl ?_
    refine c_comp ?_
    refine c_rng1 ?_
    refine c_pureA h31 (pa_cons' (p_fz rfl) pa_nil') fun r32 k33 => ?_
    refine f_rng1' h31 k33 fun xs34 => ?_
    refine f_mapS (ψ := Int) (fun (s : Bx) => [.fz (.scr script), .ol (boxD s), .fz (enc prime), .fz (enc mixers), .ol (encs table), .fz (enc row_here_f), .cf, .cf, .cf, .cf, .cf, .cf, .cf, .cf, .cf, .cf, .clr, .cf]) h31 (by first | exact W.refl _ | (repeat (first | exact W.nil | refine W.rf ?_ | refine W.cz ?_ | refine W.cc ?_ | refine W.vz ?_ | refine W.vo ?_ | refine W.an ?_))) (fun _ _ => tg_n) ?_ (fun (s : Bx) => [.fz (.scr script), .ol (boxD s), .fz (enc prime), .fz (enc mixers), .ol (encs table), .fz (enc row_here_f), .cf, .cf, .cf, .cf, .cf, .cf, .cf, .cf, .cf, .cf, .cf, .cf]) ?_
    · rintro mixer boxH _ h35
      try dsimp only [List.set_cons_zero, List.set_cons_succ] at h35 ⊢
      refine c_op ?_
      refine c_cb ?_
      refine c_cons ?_
      refine c_call ?_
      refine c_pureA h35 (pa_cons' (p_ol rfl) (pa_cons' (p_c) pa_nil')) fun r36 k37 => ?_
      refine f_call h35 k37 (.t rfl (.f .f .nil)) (ss__law_draw boxH 1000) (fun _ => (.t rfl (.f .nil))) (fun _ => rk_f) ?_
      rintro ⟨t38, boxH⟩ r39 _ k40 h41
      try dsimp only [List.set_cons_zero, List.set_cons_succ] at h41 ⊢
      refine c_cons2 ?_
      refine c_nil ?_
      refine f_cons ?_
      refine f_toInt h41 k40 ?_
      refine c_op2 ?_
      refine c_pure h41 (p_fz rfl) fun r42 k43 => ?_
      refine f_mod h41 rk_f k43 (kk := fun t44 => ?_)
      exact f_elS (v := t44) h41 rk_f
    rintro t45 boxH r46 _ k47 h48
    try dsimp only [List.set_cons_zero, List.set_cons_succ] at h48 ⊢
    refine f_app (xs := table) (v := t45) h48 k47 .w rfl fun table r49 _ k50 h51 => ?_
    try dsimp only [List.set_cons_zero, List.set_cons_succ] at h51
    refine f_drop ?_
    exact f_jc h51
  rintro ⟨boxH, table⟩ _ h52
  try dsimp only [List.set_cons_zero, List.set_cons_succ] at h52 ⊢
  refine c_nx ?_
  refine c_seq ?_
  refine c_set ?_
  refine c_lst ?_
  refine c_cons ?_
  refine c_op ?_
  refine c_pure h52 (p_c) fun r53 k54 => ?_
  refine c_op2 ?_
  refine c_cb ?_
  refine c_cons ?_
  refine c_pure h52 (p_fz rfl) fun r55 k56 => ?_
  refine c_cons2 ?_
  refine c_nil ?_
  refine f_cons ?_
  refine f_strI (i := prime) h52 k56 (fun t57 => ?_)
  refine f_addS (x := ("prime " : Str)) (y := t57) h52 k54 rk_f (fun t58 => ?_)
  refine c_cons2 ?_
  refine c_nil ?_
  refine f_cons ?_
  refine f_lst h52 (rks rk_f rks0) (.cons .f .nil) (Nat.le_of_ble_eq_true rfl) fun r59 _ k60 h61 => ?_
  refine f_setL (v := (([t58] : List Str) : List Str)) (fun v => .ol (encs v)) h61 k60 .w (by decide) fun lines _ h62 => ?_
  try dsimp only [List.set_cons_zero, List.set_cons_succ] at h62
  refine c_nx ?_
  refine c_seq ?_
  refine c_for ?_
  refine c_it ?_
  refine c_pure h62 (p_ol rfl) fun r63 k64 => ?_
  refine f_it (xs := table) h62 k64 (.v rfl) fun _ h65 => ?_
  refine f_for (fun (s : List Str) => [.fz (.scr script), .ol (boxD boxH), .fz (enc prime), .fz (enc mixers), .fz (enc table), .cf, .ol (encs s), .cf, .cf, .cf, .cf, .cf, .cf, .cf, .cf, .cf, .cf, .cf]) (fun _ _ => tg_n) ?_ ?_ h65
  · rintro rowH lines _ h114
    try dsimp only [List.set_cons_zero, List.set_cons_succ] at h114 ⊢
    refine c_seq ?_
    refine c_drop ?_
    refine c_app (ds := encs lines) h114 rfl ?_
    refine c_op ?_
    refine c_op ?_
    refine c_join ?_
    refine c_pure h114 (p_c) fun r115 k116 => ?_
    refine f_join1 (x := (" " : Str)) h114 k116 ?_
    refine c_comp ?_
    refine c_it ?_
    refine c_pure h114 (p_fz rfl) fun r117 k118 => ?_
    refine f_it (xs := rowH) h114 k118 .f fun _ h119 => ?_
    refine f_mapC (ψ := Str) h119 (fun _ => tg_n) ?_ fun t124 r125 _ k126 h127 => ?_
    · rintro share _ h120
      try dsimp only [List.set_cons_zero, List.set_cons_succ, wipeS] at h120 ⊢
      refine c_cb ?_
      refine c_cons ?_
      refine c_pure h120 (p_fz rfl) fun r121 k122 => ?_
      refine c_cons2 ?_
      refine c_nil ?_
      refine f_cons ?_
      refine f_strI (i := share) h120 k122 (fun t123 => ?_)
      exact f_el (v := t123) h120 rk_f
    refine f_join2 (x := (" " : Str)) (ys := t124) h127 k126 (fun t128 => ?_)
    refine c_op2 ?_
    refine c_pure h127 (p_c) fun r129 k130 => ?_
    refine f_addS (x := t128) (y := (" : " : Str)) h127 rk_f k130 (fun t131 => ?_)
    refine c_op2 ?_
    refine c_cb ?_
    refine c_cons ?_
    refine c_op ?_
    refine c_pure h127 (p_toInt (p_sum (p_fz rfl))) fun r132 k133 => ?_
    refine c_op2 ?_
    refine c_pure h127 (p_fz rfl) fun r134 k135 => ?_
    refine f_mod h127 k133 k135 (kk := fun t136 => ?_)
    refine c_cons2 ?_
    refine c_nil ?_
    refine f_cons ?_
    refine f_strI (i := t136) h127 rk_f (fun t137 => ?_)
    refine f_addS (x := t131) (y := t137) h127 rk_f rk_f (fun t138 => ?_)
    refine f_app (xs := lines) (v := t138) h127 rk_f .f rfl fun lines r139 _ k140 h141 => ?_
    try dsimp only [List.set_cons_zero, List.set_cons_succ] at h141
    refine f_drop ?_
    refine c_nx ?_
    refine c_if ?_
    refine c_t ?_
    refine c_op ?_
    refine c_callB ?_
    refine c_pureA h141 (pa_cons' (p_fz rfl) pa_nil') fun r142 k143 => ?_
    refine f_callB h141 k143 (.cons .f .nil) rfl (ss_write_row rowH) imm_S fun t144 r145 k146 => ?_
    refine c_op2 ?_
    refine c_join ?_
    refine c_pure h141 (p_c) fun r147 k148 => ?_
    refine f_join1 (x := (" " : Str)) h141 k148 ?_
    refine c_comp ?_
    refine c_it ?_
    refine c_pure h141 (p_fz rfl) fun r149 k150 => ?_
    refine f_it (xs := rowH) h141 k150 .f fun _ h151 => ?_
    refine f_mapC (ψ := Str) h151 (fun _ => tg_n) ?_ fun t156 r157 _ k158 h159 => ?_
    · rintro share _ h152
      try dsimp only [List.set_cons_zero, List.set_cons_succ, wipeS] at h152 ⊢
      refine c_cb ?_
      refine c_cons ?_
      refine c_pure h152 (p_fz rfl) fun r153 k154 => ?_
      refine c_cons2 ?_
      refine c_nil ?_
      refine f_cons ?_
      refine f_strI (i := share) h152 k154 (fun t155 => ?_)
      exact f_el (v := t155) h152 rk_f
    refine f_join2 (x := (" " : Str)) (ys := t156) h159 k158 (fun t160 => ?_)
    refine f_ne (u := t144) (v := t160) h159 k146 rk_f ?_
    refine f_t h159 rk_f ?_
    refine f_if (fun _ => ?_) (fun _ => ?_)
    · refine c_ret ?_
      refine c_pure h159 (p_c) fun r161 k162 => ?_
      refine f_ret ?_
      refine f_out ?_
      exact f_rt h159 k162 .f (.f .nil)
    · refine c_next ?_
      exact f_go h159
  rintro lines _ h163
  try dsimp only [List.set_cons_zero, List.set_cons_succ] at h163 ⊢
  refine c_nx ?_
  exact ss_law_7 script boxH prime mixers table lines _ (h163.weak (by first | exact W.refl _ | (repeat (first | exact W.nil | refine W.rf ?_ | refine W.cz ?_ | refine W.cc ?_ | refine W.vz ?_ | refine W.vo ?_ | refine W.an ?_))))
noncomputable def p_law (script : List Int) : Res Bool :=
(p__law_box script 0 6).bind fun t3 =>
(Res.ok (t3 : Bx)).bind fun boxH =>
(p__law_draw boxH 8).bind fun (t12, boxH) =>
(geti (([2, 3, 5, 7, 11, 101, 997, 7919] : List Int)) t12).bind fun t16 =>
(Res.ok (t16 : Int)).bind fun prime =>
(p__law_draw boxH 4).bind fun (t22, boxH) =>
(Res.ok ((1 + t22) : Int)).bind fun mixers =>
p_law_3 script boxH prime mixers
theorem ss_law (script : List Int) : FS false (φ_law [.fz (.scr script)]) (p_law script) (fun t => .fz (enc t)) (fun t => [.fz (.scr script)]) := by
  refine fs_mk0 [.fz (.scr script), .clr, .clr, .clr, .clr, .clr, .clr, .clr, .clr, .clr, .clr, .clr, .clr, .clr, .clr, .clr, .clr, .clr] rfl (by repeat (first | exact trivial | refine ⟨rfl, ?_⟩)) fun e0 h0 => ?_
  unfold p_law
  unfold d_law
  refine c_seq ?_
  refine c_set ?_
  refine c_call ?_
  refine c_pureA h0 (pa_cons' (p_fz rfl) (pa_cons' (p_c) (pa_cons' (p_c) pa_nil'))) fun r1 k2 => ?_
  refine f_call h0 k2 (.f .f (.f .f (.f .f .nil))) (ss__law_box script 0 6) (fun _ => (.f (.f (.f .nil)))) (fun _ => rk_w) fun t3 r4 _ k5 h6 => ?_
  try dsimp only [List.set_cons_zero, List.set_cons_succ] at h6
  refine f_setL (v := (t3 : Bx)) (fun v => .ol (boxD v)) h6 k5 .w (by decide) fun boxH _ h7 => ?_
  try dsimp only [List.set_cons_zero, List.set_cons_succ] at h7
  refine c_nx ?_
  refine c_seq ?_
  refine c_set ?_
  refine c_ix ?_
  refine c_pure h7 (p_lst (pa_cons' (p_c) (pa_cons' (p_c) (pa_cons' (p_c) (pa_cons' (p_c) (pa_cons' (p_c) (pa_cons' (p_c) (pa_cons' (p_c) (pa_cons' (p_c) pa_nil')))))))) (.cons .f (.cons .f (.cons .f (.cons .f (.cons .f (.cons .f (.cons .f (.cons .f .nil))))))))) fun r8 k9 => ?_
  refine c_ix2 ?_
  refine c_call ?_
  refine c_pureA h7 (pa_cons' (p_ol rfl) (pa_cons' (p_c) pa_nil')) fun r10 k11 => ?_
  refine f_call h7 k11 (.t rfl (.f .f .nil)) (ss__law_draw boxH 8) (fun _ => (.t rfl (.f .nil))) (fun _ => rk_f) ?_
  rintro ⟨t12, boxH⟩ r13 _ k14 h15
  try dsimp only [List.set_cons_zero, List.set_cons_succ] at h15 ⊢
  refine f_ix (xs := ([2, 3, 5, 7, 11, 101, 997, 7919] : List Int)) h15 k9 k14 fun t16 => ?_
  refine f_setL (v := (t16 : Int)) (fun v => .fz (enc v)) h15 rk_f .f (by decide) fun prime _ h17 => ?_
  try dsimp only [List.set_cons_zero, List.set_cons_succ] at h17
  refine c_nx ?_
  refine c_seq ?_
  refine c_set ?_
  refine c_op ?_
  refine c_pure h17 (p_c) fun r18 k19 => ?_
  refine c_op2 ?_
  refine c_call ?_
  refine c_pureA h17 (pa_cons' (p_ol rfl) (pa_cons' (p_c) pa_nil')) fun r20 k21 => ?_
  refine f_call h17 k21 (.t rfl (.f .f .nil)) (ss__law_draw boxH 4) (fun _ => (.t rfl (.f .nil))) (fun _ => rk_f) ?_
  rintro ⟨t22, boxH⟩ r23 _ k24 h25
  try dsimp only [List.set_cons_zero, List.set_cons_succ] at h25 ⊢
  refine f_int h25 k19 k24 (kk := ?_)
  refine f_setL (v := ((1 + t22) : Int)) (fun v => .fz (enc v)) h25 rk_f .f (by decide) fun mixers _ h26 => ?_
  try dsimp only [List.set_cons_zero, List.set_cons_succ] at h26
  refine c_nx ?_
  exact ss_law_3 script boxH prime mixers _ (h26.weak (by first | exact W.refl _ | (repeat (first | exact W.nil | refine W.rf ?_ | refine W.cz ?_ | refine W.cc ?_ | refine W.vz ?_ | refine W.vo ?_ | refine W.an ?_))))
open TL (tl spl joinL)
theorem memD_iff {α : Type} [DecidableEq α] {x : α} {xs : List α} : memD x xs = true ↔ x ∈ xs := decide_eq_true_iff
theorem mapM_somes {α : Type} : ∀ (xs : List α), (xs.map some).mapM id = some xs
  | [] => rfl
  | x :: xs => by rw [List.map_cons, List.mapM_cons, mapM_somes xs]; rfl
theorem unOs_some {α : Type} (xs : List α) : unOs (xs.map some) = .ok xs := by unfold unOs; rw [mapM_somes]
theorem cut_take {α : Type} (xs : List α) (k : Nat) (h : k ≤ xs.length) : cutL xs none (some (k : Int)) = xs.take k := by
  unfold cutL
  rw [HT.sIx_nat, HT.sIx_none, List.drop_zero]
  congr 1
  omega
theorem cut_drop {α : Type} (xs : List α) (k : Nat) (h : k ≤ xs.length) : cutL xs (some (k : Int)) none = xs.drop k := by
  unfold cutL
  rw [HT.sIx_nat, HT.sIx_none, show min k xs.length = k by omega, List.take_of_length_le (by rw [List.length_drop]; exact Nat.le_refl _)]
theorem sum_le {B : Nat} : ∀ {l : List Str}, (∀ x ∈ l, x.length ≤ B) → (l.map (·.length)).sum ≤ B * l.length
  | [], _ => by simp
  | x :: l, h => by
    have := sum_le (l := l) fun y hy => h y (List.mem_cons_of_mem _ hy)
    have := h x List.mem_cons_self
    simp only [List.map_cons, List.sum_cons, List.length_cons, Nat.mul_add, Nat.mul_one]
    omega
theorem nl_sep : Sep ("\n" : Str) 10 := ⟨by decide +kernel, by decide +kernel⟩
def Inf (w L : List Nat) : Prop := ∃ i n, w = (L.drop i).take n
theorem Inf.trans {u v w : List Nat} (h : Inf u v) (k : Inf v w) : Inf u w := by
  obtain ⟨i, n, rfl⟩ := h
  obtain ⟨j, m, rfl⟩ := k
  refine ⟨j + i, min n (m - i), ?_⟩
  rw [List.drop_take, List.take_take, List.drop_drop]
theorem Inf.app {w A B : List Nat} (h : Inf w (A ++ B)) : ∃ a b, w = a ++ b ∧ Inf a A ∧ Inf b B := by
  obtain ⟨i, n, rfl⟩ := h
  refine ⟨(A.drop i).take n, (B.drop (i - A.length)).take (n - (A.drop i).length), ?_, ⟨i, n, rfl⟩, ⟨_, _, rfl⟩⟩
  rw [List.drop_append, List.take_append]
theorem Inf.left {w A B : List Nat} (h : Inf w A) : Inf w (A ++ B) := by
  obtain ⟨i, n, rfl⟩ := h
  refine ⟨i, min n (A.length - i), ?_⟩
  rw [List.drop_append, List.take_append, List.length_drop, show min n (A.length - i) - (A.length - i) = 0 by omega, List.take_zero, List.append_nil]
  by_cases c : n ≤ A.length - i
  · rw [show min n (A.length - i) = n by omega]
  · rw [show min n (A.length - i) = A.length - i by omega, List.take_of_length_le (by rw [List.length_drop]; omega), List.take_of_length_le (by rw [List.length_drop]; omega)]
theorem Inf.right {w A B : List Nat} (h : Inf w B) : Inf w (A ++ B) := by
  obtain ⟨i, n, rfl⟩ := h
  refine ⟨A.length + i, n, ?_⟩
  have e : A.drop (A.length + i) = [] := List.drop_of_length_le (by omega)
  rw [List.drop_append, e, List.nil_append, show A.length + i - A.length = i by omega]
theorem Inf.self (L : List Nat) : Inf L L := ⟨0, L.length, by simp⟩
theorem Inf.sep {w A B : List Nat} {s : Nat} (h : Inf w (A ++ s :: B)) (hs : s ∉ w) : Inf w A ∨ Inf w B := by
  obtain ⟨i, n, e⟩ := h
  by_cases c : i ≤ A.length
  · by_cases c2 : i + n ≤ A.length
    · refine .inl ⟨i, n, ?_⟩
      rw [e, List.drop_append, List.take_append, List.length_drop, show n - (A.length - i) = 0 by omega, List.take_zero, List.append_nil]
    · exfalso
      refine hs ?_
      rw [e]
      have : ((A ++ s :: B).drop i).take n = A.drop i ++ ((s :: B).take (n - (A.length - i))) := by
        rw [List.drop_append, List.take_append, List.length_drop, show i - A.length = 0 by omega, List.drop_zero, List.take_of_length_le (by rw [List.length_drop]; omega)]
      rw [this]
      obtain ⟨k, hk⟩ : ∃ k, n - (A.length - i) = k + 1 := ⟨n - (A.length - i) - 1, by omega⟩
      rw [hk, List.take_succ_cons]
      exact List.mem_append_right _ List.mem_cons_self
  · refine .inr ⟨i - A.length - 1, n, ?_⟩
    obtain ⟨k, hk⟩ : ∃ k, i - A.length = k + 1 := ⟨i - A.length - 1, by omega⟩
    rw [e, List.drop_append, List.drop_of_length_le (by omega), List.nil_append, hk, List.drop_succ_cons, show k + 1 - 1 = k by omega]
def Free (w : List Nat) : Prop := 32 ∉ w ∧ 10 ∉ w
def Short (N : Nat) (L : List Nat) : Prop := ∀ w, Inf w L → Free w → w.length ≤ N
theorem Short.inf {N : Nat} {L M : List Nat} (h : Short N L) (k : Inf M L) : Short N M := fun w hw hf => h w (hw.trans k) hf
theorem Short.join {N s : Nat} (hs : s = 32 ∨ s = 10) : ∀ {ps : List (List Nat)}, (∀ p ∈ ps, Short N p) → Short N (joinL [s] ps)
  | [], _ => fun w hw _ => by
    obtain ⟨i, n, rfl⟩ := hw
    simp [joinL]
  | [p], h => h p List.mem_cons_self
  | p :: q :: r, h => fun w hw hf => by
    have hw' : Inf w (p ++ s :: joinL [s] (q :: r)) := hw
    have ns : s ∉ w := by rcases hs with rfl | rfl; exact hf.1; exact hf.2
    rcases hw'.sep ns with k | k
    · exact h p List.mem_cons_self w k hf
    · exact Short.join hs (fun x hx => h x (List.mem_cons_of_mem _ hx)) w k hf
theorem Short.of_len {N : Nat} {L : List Nat} (h : L.length ≤ N) : Short N L := fun w hw _ => by
  obtain ⟨i, n, rfl⟩ := hw
  rw [List.length_take, List.length_drop]; omega
theorem Short.cat {N : Nat} {A B : List Nat} {c : Nat} (hA : Short N A) (hB : Short N B) : Short (2 * N + 1) (A ++ ([c] ++ B)) := fun w hw hf => by
  obtain ⟨a, b, rfl, h1, h2⟩ := hw.app
  obtain ⟨b1, b2, rfl, h3, h4⟩ := h2.app
  have l1 := hA a h1 ⟨fun q => hf.1 (List.mem_append_left _ q), fun q => hf.2 (List.mem_append_left _ q)⟩
  have l2 := hB b2 h4 ⟨fun q => hf.1 (List.mem_append_right _ (List.mem_append_right _ q)), fun q => hf.2 (List.mem_append_right _ (List.mem_append_right _ q))⟩
  have l3 : b1.length ≤ 1 := by
    obtain ⟨i, n, rfl⟩ := h3
    rw [List.length_take, List.length_drop]; simp; omega
  rw [List.length_append, List.length_append]; omega
theorem spl_parts (s : Nat) : ∀ (L acc : List Nat), ∀ p ∈ spl [s] 0 acc L, (s ∉ acc → s ∉ p) ∧ Inf p (acc ++ L)
  | [], acc, p, h => by
    rw [TL.spl_nil] at h
    rw [List.mem_singleton.mp h, List.append_nil]
    exact ⟨fun q => q, .self _⟩
  | c :: r, acc, p, h => by
    by_cases hc : TL.pre [s] (c :: r) = true
    · rw [TL.spl_hit hc] at h
      rcases List.mem_cons.mp h with rfl | h
      · exact ⟨fun q => q, (Inf.self _).left⟩
      · have := spl_parts s r [] p h
        exact ⟨fun _ => this.1 List.not_mem_nil, Inf.right (Inf.right (A := [c]) this.2)⟩
    · rw [TL.spl_miss (by simpa using hc)] at h
      have := spl_parts s r (acc ++ [c]) p h
      rw [pre1] at hc
      refine ⟨fun q => this.1 fun z => ?_, by have := this.2; rwa [List.append_assoc] at this⟩
      rcases List.mem_append.mp z with z | z
      · exact q z
      · exact hc (List.mem_singleton.mp z).symm
theorem split_part {x y p : Str} {s : Nat} (h : Sep y s) (hp : p ∈ Txt.split x y) : s ∉ tl p ∧ Inf (tl p) (tl x) := by
  have hm : tl p ∈ spl [s] 0 [] (tl x) := by rw [← split_tl h]; exact List.mem_map.mpr ⟨p, hp, rfl⟩
  have := spl_parts s (tl x) [] _ hm
  exact ⟨this.1 List.not_mem_nil, this.2⟩
theorem tok_short {N : Nat} {x l t : Str} (h : Short N (tl x)) (hl : l ∈ Txt.split x ("\n" : Str)) (ht : t ∈ Txt.split l (" " : Str)) : t.length ≤ N := by
  obtain ⟨a, b⟩ := split_part nl_sep hl
  obtain ⟨c, d⟩ := split_part sp_sep ht
  rw [len_tl]
  refine h _ (d.trans b) ⟨c, fun q => a ?_⟩
  obtain ⟨i, n, e⟩ := d
  rw [e] at q
  exact List.mem_of_mem_drop (List.mem_of_mem_take q)
def val (t : Str) : Int := (NumText.digitsVal (tl t) : Nat)
def TokOk (line : Str) : Prop := line.length ≤ 10000 ∧ ∀ t ∈ Txt.split line (" " : Str), t.length ≤ 11
theorem plain_ok {t : Str} (h : t.length ≤ 11) : p__law_plain t = .ok (goodB t) := by
  unfold p__law_plain goodB
  by_cases c0 : t = ("" : Str)
  · subst c0
    rw [if_neg (by simp), Res.bind_ok]; rfl
  have l1 : 1 ≤ t.length := by
    rcases Nat.eq_zero_or_pos t.length with q | q
    · exact absurd (TL.ext_tl (by rw [(TL.len0_tl t).mp q]; rfl)) c0
    · exact q
  rw [if_pos (decide_eq_true c0), lenSR_ok (by omega), Res.bind_ok, if_pos (decide_eq_true (by omega)), filC_idI (c := fun s => !inS s ("0123456789" : Str)) (by show ((tl t).map sign1).length ≤ _; rw [List.length_map, ← len_tl]; omega) fun x _ => rfl, Res.bind_ok, decide_eq_true (show 1 ≤ t.length ∧ t.length ≤ 60 from ⟨l1, by omega⟩), Bool.true_and]
  have e : decide ((signsT t).filter (fun s => !inS s ("0123456789" : Str)) = ([] : List Str)) = digB (tl t) := by
    rw [Bool.eq_iff_iff, decide_eq_true_iff, List.filter_eq_nil_iff, digB_iff]
    constructor
    · intro q c hc
      have := q (sign1 c) (List.mem_map.mpr ⟨c, hc, rfl⟩)
      rw [inS_fig] at this
      simpa using this
    · intro q s hs z
      obtain ⟨c, hc, rfl⟩ := List.mem_map.mp (show s ∈ (tl t).map sign1 from hs)
      rw [inS_fig, decide_eq_true (q c hc)] at z
      cases z
  rw [e]
  cases digB (tl t) with
  | false => rfl
  | true =>
    have l0 : 0 < (tl t).length := by rw [← len_tl]; omega
    have hh : (tl t).head? = some (tl t)[0] := by rw [List.head?_eq_getElem?, List.getElem?_eq_getElem l0]
    rw [if_pos rfl, Bool.true_and, hh]
    by_cases cz : t = ("0" : Str)
    · subst cz
      rw [if_pos (decide_eq_true rfl)]; rfl
    · rw [if_neg (by rw [decide_eq_true_iff]; exact cz), getiS_ok (i := 0) (by omega) (by omega) l0, Res.bind_ok, Res.bind_ok, Res.bind_ok, Res.bind_ok, Res.bind_ok]
      congr 1
      by_cases ch : (tl t)[0] = 48
      · have l2 : 1 < t.length := by
          rcases Nat.lt_or_ge 1 t.length with q | q
          · exact q
          · refine absurd (TL.ext_tl ?_) cz
            have : (tl t).length = 1 := by rw [← len_tl]; omega
            obtain ⟨a, ha⟩ := List.length_eq_one_iff.mp this
            have : a = 48 := by simpa [ha] using ch
            rw [ha, this]; rfl
        rw [decide_eq_true l2, ch, show (tl t)[(0 : Int).toNat] = 48 from ch, zero_sign]; simp
      · rw [decide_eq_false (show ¬ (some (tl t)[0] = some 48) from fun q => ch (Option.some.inj q)), Bool.and_false, decide_eq_true (show sign1 (tl t)[(0 : Int).toNat] ≠ ("0" : Str) from fun q => ch (by rw [zero_sign] at q; exact sign_inj q))]; rfl
def lastT (m : Nat) (ps : List Str) : Str := ps.getD (m + 1) ("" : Str)
def valsL (m : Nat) (line : Str) : List Int := ((Txt.split line (" " : Str)).take m).map val
def shapeB (m : Nat) (ps : List Str) : Bool := decide (ps.length = m + 2) && decide (ps.getD m ("" : Str) = ":")
def numsB (m : Nat) (ps : List Str) : Bool := (ps.take m).all goodB && goodB (lastT m ps)
def sumB (p : Int) (m : Nat) (line : Str) : Bool := (valsL m line).all (fun v => decide (v < p)) && decide ((valsL m line).sum % p = val (lastT m (Txt.split line (" " : Str))))
def goodL (m : Nat) (p : Int) (line : Str) : Bool := shapeB m (Txt.split line (" " : Str)) && (numsB m (Txt.split line (" " : Str)) && sumB p m line)
theorem good_val {t : Str} (h : goodB t = true) (hl : t.length ≤ 11) : intSR t = .ok (val t) := by
  unfold goodB at h
  simp only [Bool.and_eq_true, decide_eq_true_eq] at h
  exact intSR_ok (digB_iff.mp h.1.2) h.1.1.1 (by omega)
theorem rn_val (t : Str) : rnO t = if goodB t = true then some (val t) else none := rfl
section
variable {m : Nat} (hm : 1 ≤ m) (hm2 : m ≤ 100) {p : Int} (hp : 0 < p) {line : Str} (tk : TokOk line)
include hm hm2 hp tk
theorem good_ok : p__law_good (m : Int) p line = .ok (goodL m p line) := by
  unfold p__law_good goodL
  obtain ⟨tl1, tks⟩ := tk
  have hc := parts_len (x := line) sp_sep
  rw [splitR_ok sp_sep (by omega), Res.bind_ok, Res.bind_ok]
  unfold sumB valsL
  generalize hps : Txt.split line (" " : Str) = ps at *
  unfold shapeB
  by_cases c1 : ps.length = m + 2
  · rw [if_neg (by rw [decide_eq_true_iff]; omega), geti_D (i := m) ("" : Str) (by omega), Res.bind_ok, Res.bind_ok, decide_eq_true c1, Bool.true_and]
    by_cases c2 : ps.getD m ("" : Str) = ":"
    · have lst : ps.drop (m + 1) = [lastT m ps] := by
        have : ps.drop (m + 1) = ps[m + 1]'(by omega) :: ps.drop (m + 2) := List.drop_eq_getElem_cons (by omega)
        rw [this, List.drop_of_length_le (by omega)]
        unfold lastT
        rw [getD_lt _ (by omega)]
      have hlast : lastT m ps ∈ ps := by unfold lastT; rw [getD_lt _ (by omega)]; exact List.getElem_mem _
      rw [if_neg (by rw [decide_eq_true_iff]; exact fun q => q c2), decide_eq_true c2, Bool.true_and, cut_take ps m (by omega), show ((m : Int) + 1) = ((m + 1 : Nat) : Int) by omega, cut_drop ps (m + 1) (by omega), lst, catR_ok (by rw [List.length_take]; simp; omega), Res.bind_ok, Res.bind_ok,
        filC_idI (c := fun t => !goodB t) (by rw [List.length_append, List.length_take]; simp; omega) fun t ht => ?_, Res.bind_ok]
      · have e : ((ps.take m ++ [lastT m ps]).filter fun t => !goodB t).isEmpty = numsB m ps := by
          unfold numsB
          rw [Bool.eq_iff_iff, List.isEmpty_iff, List.filter_eq_nil_iff, Bool.and_eq_true, List.all_eq_true]
          constructor
          · intro q
            exact ⟨fun t ht => by simpa using q t (List.mem_append_left _ ht), by simpa using q _ (List.mem_append_right _ List.mem_cons_self)⟩
          · rintro ⟨q1, q2⟩ t ht
            rcases List.mem_append.mp ht with h | h
            · simp [q1 t h]
            · rw [List.mem_singleton.mp h]; simp [q2]
        rw [e]
        cases hn : numsB m ps with
        | false => rfl
        | true =>
          unfold numsB at hn
          rw [Bool.and_eq_true, List.all_eq_true] at hn
          rw [if_neg (by decide), mapC_ok (g := val) (by rw [List.length_take]; omega) fun t ht => by rw [good_val (hn.1 t ht) (tks t (List.mem_of_mem_take ht)), Res.bind_ok], Res.bind_ok, Res.bind_ok, Bool.true_and]
          have hne : (ps.take m).map val ≠ [] := fun q => by
            have := congrArg List.length q
            rw [List.length_map, List.length_take, List.length_nil] at this
            omega
          obtain ⟨x, e1, e2, e3⟩ := maxR_spec hne
          have ea : ((ps.take m).map val).all (fun v => decide (v < p)) = decide (x < p) := by
            rw [Bool.eq_iff_iff, List.all_eq_true, decide_eq_true_iff]
            exact ⟨fun q => of_decide_eq_true (q x e2), fun q v hv => decide_eq_true (Int.lt_of_le_of_lt (e3 v hv) q)⟩
          rw [e1, Res.bind_ok, ea]
          by_cases cx : x < p
          · have gl : ps.getLast? = some (lastT m ps) := by
              rw [List.getLast?_eq_getElem?]
              unfold lastT
              rw [getD_lt _ (by omega), ← List.getElem?_eq_getElem]
              congr 1; omega
            rw [if_pos (decide_eq_true cx), modR_ok hp, Res.bind_ok, geti_last gl, Res.bind_ok, good_val hn.2 (tks _ hlast), Res.bind_ok, Res.bind_ok, decide_eq_true cx, Bool.true_and]
          · rw [if_neg (by rw [decide_eq_true_iff]; exact cx), Res.bind_ok, decide_eq_false cx]; rfl
      · have ht' : t ∈ ps := by
          rcases List.mem_append.mp ht with h | h
          · exact List.mem_of_mem_take h
          · rw [List.mem_singleton.mp h]; exact hlast
        rw [plain_ok (tks t ht'), Res.bind_ok]
    · rw [if_pos (decide_eq_true c2), decide_eq_false c2]; rfl
  · rw [if_pos (by rw [decide_eq_true_iff]; omega), Res.bind_ok, if_pos rfl, decide_eq_false c1]; rfl
theorem row_ok : p_read_row p (m : Int) line = .ok (if goodL m p line = true then some (valsL m line) else none) := by
  unfold p_read_row goodL
  obtain ⟨tl1, tks⟩ := tk
  have hc := parts_len (x := line) sp_sep
  rw [splitR_ok sp_sep (by omega), Res.bind_ok, Res.bind_ok]
  unfold sumB valsL
  generalize hps : Txt.split line (" " : Str) = ps at *
  unfold shapeB
  by_cases c1 : ps.length = m + 2
  · rw [if_neg (by rw [decide_eq_true_iff]; omega), geti_D (i := m) ("" : Str) (by omega), Res.bind_ok, Res.bind_ok, decide_eq_true c1, Bool.true_and]
    by_cases c2 : ps.getD m ("" : Str) = ":"
    · have hlast : lastT m ps ∈ ps := by unfold lastT; rw [getD_lt _ (by omega)]; exact List.getElem_mem _
      rw [if_neg (by rw [decide_eq_true_iff]; exact fun q => q c2), decide_eq_true c2, Bool.true_and, cut_take ps m (by omega), mapC_ok (g := rnO) (by rw [List.length_take]; omega) fun t ht => by rw [rn_ok (by have := tks t (List.mem_of_mem_take ht); omega), Res.bind_ok], Res.bind_ok, Res.bind_ok, show ((m : Int) + 1) = ((m + 1 : Nat) : Int) by omega, geti_D (i := m + 1) ("" : Str) (by omega), Res.bind_ok,
        show ps.getD (m + 1) ("" : Str) = lastT m ps from rfl, rn_ok (by have := tks _ hlast; omega), Res.bind_ok, Res.bind_ok]
      cases hn : numsB m ps with
      | false =>
        rw [Bool.false_and, if_neg (fun h : false = true => by cases h), if_pos]
        rw [Bool.or_eq_true]
        unfold numsB at hn
        rcases Bool.and_eq_false_iff.mp hn with q | q
        · right
          rw [List.all_eq_false] at q
          obtain ⟨t, ht, hg⟩ := q
          exact memD_iff.mpr (List.mem_map.mpr ⟨t, ht, by rw [rn_val, if_neg hg]⟩)
        · left
          rw [rn_val, if_neg (by rw [q]; decide)]; rfl
      | true =>
        unfold numsB at hn
        rw [Bool.and_eq_true, List.all_eq_true] at hn
        have em : (ps.take m).map rnO = ((ps.take m).map val).map some := by
          rw [List.map_map]
          exact List.map_congr_left fun t ht => by rw [rn_val, if_pos (hn.1 t ht)]; rfl
        have el : rnO (lastT m ps) = some (val (lastT m ps)) := by rw [rn_val, if_pos hn.2]
        have nm : memD (none : Option Int) (((ps.take m).map val).map some) = false := by
          rw [Bool.eq_false_iff]
          intro q
          obtain ⟨_, _, z⟩ := List.mem_map.mp (memD_iff.mp q)
          cases z
        rw [em, el, nm, if_neg (show ¬ ((some (val (lastT m ps))).isNone || false) = true from by simp), unOs_some, Res.bind_ok, Bool.true_and]
        unfold p_read_row_5
        rw [forR_find (c := fun s => decide (p ≤ s)) (g := fun _ => (none : Option (List Int))) fun x _ => rfl]
        cases ef : ((ps.take m).map val).find? (fun s => decide (p ≤ s)) with
        | some s =>
          have hs := of_decide_eq_true (List.find?_some (p := fun s => decide (p ≤ s)) ef)
          have hmem := List.mem_of_find?_eq_some ef
          have : ((ps.take m).map val).all (fun v => decide (v < p)) = false := by
            rw [List.all_eq_false]
            exact ⟨s, hmem, by rw [decide_eq_true_iff]; omega⟩
          rw [this]; rfl
        | none =>
          have : ((ps.take m).map val).all (fun v => decide (v < p)) = true := by
            rw [List.all_eq_true]
            intro v hv
            have := List.find?_eq_none.mp ef v hv
            rw [decide_eq_true_iff] at this
            exact decide_eq_true (by omega)
          rw [this, Bool.true_and, Option.elim_none, total_ok hp, Res.bind_ok]
          by_cases cs : ((ps.take m).map val).sum % p = val (lastT m ps)
          · rw [if_neg (by rw [decide_eq_true_iff]; exact fun q => q (by rw [cs])), if_pos (decide_eq_true cs)]
          · rw [if_pos (by rw [decide_eq_true_iff]; exact fun q => cs (Option.some.inj q)), if_neg (by rw [decide_eq_true_iff]; exact cs)]
    · rw [if_pos (decide_eq_true c2), decide_eq_false c2]; rfl
  · rw [if_pos (by rw [decide_eq_true_iff]; omega), Res.bind_ok, if_pos rfl, decide_eq_false c1]; rfl
end
def rpO (line : Str) : Option Int := match Txt.split line (" " : Str) with
  | [a, b] => if a = "prime" then rnO b else none
  | _ => none
theorem prime_okT {line : Str} (h : line.length ≤ 10000) : p_read_prime line = .ok (rpO line) := by
  unfold p_read_prime rpO
  have hp := fun (t : Str) (ht : t ∈ Txt.split line (" " : Str)) => part_len sp_sep ht
  rw [splitR_ok sp_sep (by omega), Res.bind_ok, Res.bind_ok]
  match hps : Txt.split line (" " : Str) with
  | [] => exact absurd hps (split_ne sp_sep)
  | [a] => rfl
  | [a, b] =>
    rw [hps] at hp
    have hb := hp b (by simp)
    rw [if_neg (by simp), show geti [a, b] 0 = .ok a from rfl, Res.bind_ok, Res.bind_ok]
    by_cases c : a = "prime"
    · rw [if_neg (by rw [decide_eq_true_iff]; exact fun q => q c), show geti [a, b] 1 = .ok b from rfl, Res.bind_ok, rn_ok (by omega), Res.bind_ok]
      simp only
      rw [if_pos c]
    · rw [if_pos (by rw [decide_eq_true_iff]; exact c)]
      simp only
      rw [if_neg c]
  | a :: b :: c :: r =>
    rw [if_pos (by rw [decide_eq_true_iff]; simp only [List.length_cons]; omega), Res.bind_ok, if_pos rfl]
def bad1 (m : Nat) (p : Int) : List Str → Nat → Option Nat
  | [], _ => none
  | x :: xs, i => if goodL m p x = true then bad1 m p xs (i + 1) else some i
theorem bad_none {m : Nat} {p : Int} : ∀ {xs : List Str} {i : Nat}, (∀ x ∈ xs, goodL m p x = true) → bad1 m p xs i = none
  | [], _, _ => rfl
  | x :: xs, i, h => by
    unfold bad1
    rw [if_pos (h x List.mem_cons_self)]
    exact bad_none fun y hy => h y (List.mem_cons_of_mem _ hy)
theorem bad_at {m : Nat} {p : Int} : ∀ {xs : List Str} {i j : Nat} (hj : j < xs.length), (∀ k (hk : k < j), goodL m p (xs[k]'(by omega)) = true) → goodL m p xs[j] = false → bad1 m p xs i = some (i + j)
  | [], _, _, hj, _, _ => absurd hj (Nat.not_lt_zero _)
  | x :: xs, i, 0, hj, _, hb => by
    unfold bad1
    rw [if_neg (by rw [show goodL m p x = false from hb]; decide)]; rfl
  | x :: xs, i, j + 1, hj, hk, hb => by
    unfold bad1
    rw [if_pos (show goodL m p x = true from hk 0 (by omega)), bad_at (xs := xs) (i := i + 1) (j := j) (by simpa using hj) (fun k h => hk (k + 1) (by omega)) hb]
    congr 1; omega
theorem loop_ok {m : Nat} (hm : 1 ≤ m) (hm2 : m ≤ 100) {p : Int} (hp : 0 < p) {τ : Type} {k : List (List Int) → Res τ} : ∀ (xs : List Str) (i : Nat) (acc : List (List Int)), (∀ x ∈ xs, TokOk x) → acc.length + xs.length ≤ 1000000 → i + xs.length ≤ 100000 → forR (fun ((number, line) : Int × Str) table =>
(Res.ok p).bind fun u65 =>
(p_read_row u65 (m : Int) line).bind fun t66 =>
(Res.ok (t66 : Option (List Int))).bind fun row =>
if row.isNone = true then
raiseR "LineError" ["line"] [enc ((number + 2) : Int)]
else
(unO row).bind fun u75 =>
(appR table u75).bind fun table =>
Res.ok (Lp.go table)) (xs.mapIdx fun j x => (((i + j : Nat) : Int), x)) acc k = match bad1 m p xs i with
    | some j => .ex ⟨"LineError", ["line"], [enc (((j + 2 : Nat) : Int))]⟩
    | none => k (acc ++ xs.map (valsL m))
  | [], i, acc, _, _, _ => by simp [forR, bad1]
  | x :: xs, i, acc, h, hl, hi => by
    rw [List.length_cons] at hl hi
    rw [List.mapIdx_cons]
    unfold forR bad1
    dsimp only
    rw [Res.bind_ok, row_ok hm hm2 hp (h x List.mem_cons_self), Res.bind_ok, Res.bind_ok]
    by_cases c : goodL m p x = true
    · rw [if_pos c, if_pos c, if_neg (by simp), show unO (some (valsL m x)) = .ok (valsL m x) from rfl, Res.bind_ok, appR_ok (by omega), Res.bind_ok, Res.bind_ok]
      have := loop_ok hm hm2 hp (k := k) xs (i + 1) (acc ++ [valsL m x]) (fun y hy => h y (List.mem_cons_of_mem _ hy)) (by rw [List.length_append]; simp; omega) (by omega)
      have e : (xs.mapIdx ((fun j x => (((i + j : Nat) : Int), x)) ∘ fun i => i + 1)) = xs.mapIdx fun j x => (((i + 1 + j : Nat) : Int), x) := by
        congr 1
        funext j y
        show (((i + (j + 1) : Nat) : Int), y) = _
        rw [show i + (j + 1) = i + 1 + j by omega]
      simp only
      rw [show (xs.mapIdx fun i_1 x => (((i + (i_1 + 1) : Nat) : Int), x)) = xs.mapIdx fun j x => (((i + 1 + j : Nat) : Int), x) from e]
      rw [this, List.map_cons, List.append_assoc]; rfl
    · rw [if_neg c, if_neg c, if_pos (show (none : Option (List Int)).isNone = true from rfl)]
      show (raiseR "LineError" ["line"] [enc ((((i + 0 : Nat) : Int)) + 2)] : Res (Lp (List (List Int)) τ)).bind _ = _
      rw [raise1 (by omega) (by omega), Res.bind_ex]
      simp only
      rw [show ((((i + 0 : Nat) : Int)) + 2) = ((i + 2 : Nat) : Int) by omega]
def PB (N : Nat) (text : Str) : Prop := text.length ≤ 700 ∧ Short N (tl text)
theorem PB.tok {text : Str} (h : PB 11 text) : ∀ l ∈ Txt.split text ("\n" : Str), TokOk l := fun l hl => ⟨by have := part_len nl_sep hl; have := h.1; omega, fun t ht => tok_short h.2 hl ht⟩
theorem board_ok {m : Nat} (hm : 1 ≤ m) (hm2 : m ≤ 100) {text : Str} (h : PB 11 text) {r0 : Str} {rest : List Str} (e : Txt.split text ("\n" : Str) = r0 :: rest) : p_read_board (m : Int) text = match rpO r0 with
    | none => .ex ⟨"LineError", ["line"], [enc (1 : Int)]⟩
    | some p => if p < 2 then .ex ⟨"LineError", ["line"], [enc (1 : Int)]⟩ else (match bad1 m p rest 0 with
      | some j => .ex ⟨"LineError", ["line"], [enc (((j + 2 : Nat) : Int))]⟩
      | none => .ok (some p, rest.map (valsL m))) := by
  have tk := h.tok
  have tl1 := h.1
  have pl := parts_len (x := text) nl_sep
  rw [e] at tk pl
  rw [List.length_cons] at pl
  unfold p_read_board
  rw [splitR_ok nl_sep (by omega), Res.bind_ok, Res.bind_ok, e, show geti (r0 :: rest) 0 = .ok r0 from geti_nat (xs := r0 :: rest) (i := 0) (by simp), Res.bind_ok, prime_okT (tk r0 List.mem_cons_self).1, Res.bind_ok, Res.bind_ok]
  cases rpO r0 with
  | none => rw [if_pos (show (none : Option Int).isNone = true from rfl), Res.bind_ok, if_pos rfl, raise1 (by omega) (by omega)]
  | some p =>
    rw [if_neg (by simp), show unO (some p) = .ok p from rfl, Res.bind_ok, Res.bind_ok]
    simp only
    by_cases c : p < 2
    · rw [if_pos (decide_eq_true c), if_pos c, raise1 (by omega) (by omega)]
    · rw [if_neg (by rw [decide_eq_true_iff]; exact c), if_neg c, Res.bind_ok, show (1 : Int) = ((1 : Nat) : Int) from rfl, cut_drop _ 1 (by simp), show (r0 :: rest).drop 1 = rest from rfl]
      have := loop_ok hm hm2 (p := p) (by omega) (k := fun table => Res.ok ((some p, table) : Option Int × List (List Int))) rest 0 [] (fun x hx => tk x (List.mem_cons_of_mem _ hx)) (by simp; omega) (by omega)
      have ee : enumL rest = rest.mapIdx fun j x => (((0 + j : Nat) : Int), x) := by
        unfold enumL
        congr 1
        funext j x
        rw [Nat.zero_add]
      rw [ee]
      exact this
def nT (n : Int) : Str := numT n.toNat
def rowS (row : List Int) : Str := Txt.join (" " : Str) (row.map nT)
def rowT (p : Int) (row : List Int) : Str := (rowS row ++ (" : " : Str)) ++ nT (row.sum % p)
def headT (p : Int) : Str := ("prime " : Str) ++ nT p
def textT (p : Int) (table : List (List Int)) : Str := Txt.join ("\n" : Str) (headT p :: table.map (rowT p))
def RowOk (m : Nat) (p : Int) (row : List Int) : Prop := row.length = m ∧ ∀ v ∈ row, 0 ≤ v ∧ v < p
theorem joinL_app2 {S c d : List Nat} : ∀ {A : List (List Nat)}, A ≠ [] → joinL S (A ++ [c, d]) = joinL S A ++ (S ++ (c ++ (S ++ d)))
  | [], h => absurd rfl h
  | [a], _ => rfl
  | a :: b :: r, _ => by
    rw [joinL_cons (p := a) (l := b :: r) (by simp), List.cons_append, joinL_cons (by simp), joinL_app2 (A := b :: r) (by simp)]
    simp only [List.append_assoc]
theorem mem_join {s c : Nat} : ∀ {ps : List (List Nat)}, c ∈ joinL [s] ps → c = s ∨ ∃ p ∈ ps, c ∈ p
  | [], h => by cases h
  | [p], h => .inr ⟨p, List.mem_cons_self, h⟩
  | p :: q :: r, h => by
    rw [joinL_cons (by simp)] at h
    rcases List.mem_append.mp h with h | h
    · exact .inr ⟨p, List.mem_cons_self, h⟩
    · rcases List.mem_append.mp h with h | h
      · exact .inl (by simpa using h)
      · rcases mem_join h with h | ⟨x, h1, h2⟩
        · exact .inl h
        · exact .inr ⟨x, List.mem_cons_of_mem _ h1, h2⟩
theorem nT_len {n : Int} (h : n.toNat < 10000) : (nT n).length ≤ 4 := by
  unfold nT
  rw [numT_len]
  exact TL.numL_len (k := 4) (by decide) (by simpa using h)
theorem nT_dig (n : Int) : ∀ c ∈ tl (nT n), 48 ≤ c ∧ c ≤ 57 := fun c hc => by
  unfold nT at hc
  rw [numT_tl] at hc
  exact TL.numL_digits _ c hc
theorem nT_val {n : Int} (h : 0 ≤ n) : val (nT n) = n := by
  unfold val nT
  rw [numT_tl, TL.numL_val, Int.toNat_of_nonneg h]
theorem nT_good {n : Int} (h : n.toNat < 10000) : goodB (nT n) = true := by
  have := rn_num (n := n.toNat) (Nat.lt_trans h (by decide +kernel))
  cases q : goodB (nT n) with
  | true => rfl
  | false =>
    rw [rn_val, if_neg (by show ¬ goodB (nT n) = true; rw [q]; decide)] at this
    cases this
theorem nT_str {n : Int} (h : 0 ≤ n) (h2 : n.toNat < 10000) : strR n = .ok (nT n) := by
  have := strR_ok (n := n.toNat) (Nat.lt_trans h2 (by decide +kernel))
  rw [Int.toNat_of_nonneg h] at this
  exact this
theorem colon_tl : tl (":" : Str) = [58] := by decide +kernel
theorem gap_tl : tl (" : " : Str) = [32, 58, 32] := by decide +kernel
theorem prime_tl : tl ("prime " : Str) = [112, 114, 105, 109, 101, 32] := by decide +kernel
theorem prime5_tl : tl ("prime" : Str) = [112, 114, 105, 109, 101] := by decide +kernel
section
variable {m : Nat} (hm : 1 ≤ m) (hm2 : m ≤ 4) {p : Int} (p0 : 2 ≤ p) (p1 : p ≤ 9999)
include hm hm2 p0 p1
theorem row_eq {row : List Int} (h : RowOk m p row) : rowT p row = Txt.join (" " : Str) (row.map nT ++ [(":" : Str), nT (row.sum % p)]) := by
  refine TL.ext_tl ?_
  have hne : (row.map nT).map tl ≠ [] := fun q => by
    have := congrArg List.length q
    rw [List.length_map, List.length_map, h.1, List.length_nil] at this
    omega
  unfold rowT rowS
  rw [TL.tl_append, TL.tl_append, join_tl sp_sep, join_tl sp_sep, List.map_append, List.map_cons, List.map_cons, List.map_nil, joinL_app2 hne, colon_tl, gap_tl]
  simp
theorem row_parts {row : List Int} (h : RowOk m p row) : ∀ t ∈ row.map nT ++ [(":" : Str), nT (row.sum % p)], t.length ≤ 5 ∧ 32 ∉ tl t ∧ 10 ∉ tl t := fun t ht => by
  have key : ∀ n : Int, n.toNat < 10000 → (nT n).length ≤ 5 ∧ 32 ∉ tl (nT n) ∧ 10 ∉ tl (nT n) := fun n hn => ⟨Nat.le_trans (nT_len hn) (by decide), fun q => by have := nT_dig n _ q; omega, fun q => by have := nT_dig n _ q; omega⟩
  rcases List.mem_append.mp ht with ht | ht
  · obtain ⟨n, hn, rfl⟩ := List.mem_map.mp ht
    have := h.2 n hn
    exact key n (by omega)
  · rcases List.mem_cons.mp ht with rfl | ht
    · exact ⟨by decide +kernel, by rw [colon_tl]; decide, by rw [colon_tl]; decide⟩
    · rw [List.mem_singleton.mp ht]
      have a := Int.emod_nonneg row.sum (show p ≠ 0 by omega)
      have b := Int.emod_lt_of_pos row.sum (show 0 < p by omega)
      exact key _ (by omega)
theorem row_split {row : List Int} (h : RowOk m p row) : Txt.split (rowT p row) (" " : Str) = row.map nT ++ [(":" : Str), nT (row.sum % p)] := by
  rw [row_eq hm hm2 p0 p1 h]
  exact split_join sp_sep (by simp) fun t ht => (row_parts hm hm2 p0 p1 h t ht).2.1
theorem row_good {row : List Int} (h : RowOk m p row) : goodL m p (rowT p row) = true ∧ valsL m (rowT p row) = row := by
  have a := Int.emod_nonneg row.sum (show p ≠ 0 by omega)
  have b := Int.emod_lt_of_pos row.sum (show 0 < p by omega)
  have lm : (row.map nT).length = m := by rw [List.length_map, h.1]
  have ht : (row.map nT ++ [(":" : Str), nT (row.sum % p)]).take m = row.map nT := by rw [← lm, List.take_left']; rfl
  have hv : (row.map nT).map val = row := by
    rw [List.map_map]
    have : ∀ x ∈ row, (val ∘ nT) x = x := fun x hx => nT_val (h.2 x hx).1
    rw [List.map_congr_left this]; simp
  have hl : lastT m (row.map nT ++ [(":" : Str), nT (row.sum % p)]) = nT (row.sum % p) := by
    unfold lastT
    rw [List.getD_eq_getElem?_getD, List.getElem?_append_right (by omega), lm, show m + 1 - m = 1 by omega]; rfl
  have hc : (row.map nT ++ [(":" : Str), nT (row.sum % p)]).getD m ("" : Str) = ":" := by
    rw [List.getD_eq_getElem?_getD, List.getElem?_append_right (by omega), lm, Nat.sub_self]; rfl
  have hV : valsL m (rowT p row) = row := by
    unfold valsL
    rw [row_split hm hm2 p0 p1 h, ht, hv]
  refine ⟨?_, hV⟩
  unfold goodL shapeB numsB sumB
  rw [hV, row_split hm hm2 p0 p1 h, hc, ht, hl, nT_val a]
  simp only [Bool.and_eq_true, decide_eq_true_eq, List.all_eq_true]
  refine ⟨⟨by rw [List.length_append, lm]; rfl, trivial⟩, ⟨fun t ht => ?_, nT_good (by omega)⟩, fun v hv => (h.2 v hv).2, trivial⟩
  obtain ⟨n, hn, rfl⟩ := List.mem_map.mp ht
  have := h.2 n hn
  exact nT_good (by omega)
theorem head_eq : headT p = Txt.join (" " : Str) [("prime" : Str), nT p] := by
  refine TL.ext_tl ?_
  unfold headT
  rw [TL.tl_append, join_tl sp_sep, prime_tl]
  show _ = joinL [32] [tl ("prime" : Str), tl (nT p)]
  rw [prime5_tl]; rfl
theorem head_parts : ∀ t ∈ [("prime" : Str), nT p], t.length ≤ 5 ∧ 32 ∉ tl t ∧ 10 ∉ tl t := fun t ht => by
  rcases List.mem_cons.mp ht with rfl | ht
  · exact ⟨by decide +kernel, by rw [prime5_tl]; decide, by rw [prime5_tl]; decide⟩
  · rw [List.mem_singleton.mp ht]
    exact ⟨Nat.le_trans (nT_len (by omega)) (by decide), fun q => by have := nT_dig p _ q; omega, fun q => by have := nT_dig p _ q; omega⟩
theorem head_read : rpO (headT p) = some p := by
  unfold rpO
  rw [head_eq hm hm2 p0 p1, split_join sp_sep (by simp) fun t ht => (head_parts hm hm2 p0 p1 t ht).2.1]
  simp only
  rw [if_pos trivial, rn_val, if_pos (nT_good (by omega)), nT_val (by omega)]
theorem line_known {ps : List Str} (hne : ps ≠ []) (hl : ps.length ≤ 6) (h : ∀ t ∈ ps, t.length ≤ 5 ∧ 32 ∉ tl t ∧ 10 ∉ tl t) : (Txt.join (" " : Str) ps).length ≤ 36 ∧ 10 ∉ tl (Txt.join (" " : Str) ps) ∧ Short 5 (tl (Txt.join (" " : Str) ps)) := by
  refine ⟨?_, fun q => ?_, ?_⟩
  · have e := join_len sp_sep hne
    have := sum_le (B := 5) fun t ht => (h t ht).1
    omega
  · rw [join_tl sp_sep] at q
    rcases mem_join q with q | ⟨x, hx, q⟩
    · cases q
    · obtain ⟨t, ht, rfl⟩ := List.mem_map.mp hx
      exact (h t ht).2.2 q
  · rw [join_tl sp_sep]
    refine Short.join (.inl rfl) fun x hx => ?_
    obtain ⟨t, ht, rfl⟩ := List.mem_map.mp hx
    exact Short.of_len (by rw [← len_tl]; exact (h t ht).1)
theorem lines_known {table : List (List Int)} (ht : ∀ r ∈ table, RowOk m p r) : ∀ l ∈ headT p :: table.map (rowT p), l.length ≤ 36 ∧ 10 ∉ tl l ∧ Short 5 (tl l) := fun l hl => by
  rcases List.mem_cons.mp hl with rfl | hl
  · rw [head_eq hm hm2 p0 p1]
    exact line_known hm hm2 p0 p1 (by simp) (by simp) (head_parts hm hm2 p0 p1)
  · obtain ⟨r, hr, rfl⟩ := List.mem_map.mp hl
    have h := ht r hr
    rw [row_eq hm hm2 p0 p1 h]
    exact line_known hm hm2 p0 p1 (by simp) (by rw [List.length_append, List.length_map, h.1]; simp; omega) (row_parts hm hm2 p0 p1 h)
theorem text_known {table : List (List Int)} (ht : ∀ r ∈ table, RowOk m p r) (hl : table.length ≤ 6) : (textT p table).length ≤ 300 ∧ 1 ≤ (textT p table).length ∧ Short 5 (tl (textT p table)) ∧ Txt.split (textT p table) ("\n" : Str) = headT p :: table.map (rowT p) := by
  have k := lines_known hm hm2 p0 p1 ht
  have e := join_len nl_sep (ps := headT p :: table.map (rowT p)) (by simp)
  have := sum_le (B := 36) fun t ht => (k t ht).1
  rw [List.length_cons, List.length_map] at *
  refine ⟨by unfold textT; omega, ?_, ?_, ?_⟩
  · have l6 : 6 ≤ (headT p).length := by
      unfold headT
      rw [app_len]
      have : ("prime " : Str).length = 6 := by decide +kernel
      omega
    rw [List.map_cons, List.sum_cons] at e
    unfold textT
    omega
  · unfold textT
    rw [join_tl nl_sep]
    refine Short.join (.inr rfl) fun x hx => ?_
    obtain ⟨t, ht, rfl⟩ := List.mem_map.mp hx
    exact (k t ht).2.2
  · exact split_join nl_sep (by simp) fun t ht => (k t ht).2.1
theorem strs_ok {row : List Int} (h : RowOk m p row) : mapC (fun (share : Int) => (strR share).bind fun t9 => Res.ok t9) row = .ok (row.map nT) :=
  mapC_ok (by rw [h.1]; omega) fun x hx => by have := h.2 x hx; rw [nT_str this.1 (by omega), Res.bind_ok]
theorem rowS_join {row : List Int} (h : RowOk m p row) : joinR (" " : Str) (row.map nT) = .ok (rowS row) ∧ (rowS row).length ≤ 100 := by
  have hs : ((row.map nT).map (·.length)).sum ≤ 4 * (row.map nT).length := sum_le fun t ht => by
    obtain ⟨n, hn, rfl⟩ := List.mem_map.mp ht
    have := h.2 n hn
    exact nT_len (by omega)
  rw [List.length_map, h.1] at hs
  refine ⟨joinR_ok sp_sep (by rw [List.length_map, h.1]; omega), ?_⟩
  have e := join_len sp_sep (ps := row.map nT) (fun q => by have := congrArg List.length q; rw [List.length_map, h.1, List.length_nil] at this; omega)
  rw [List.length_map, h.1] at e
  unfold rowS
  omega
theorem write_row_ok {row : List Int} (h : RowOk m p row) : p_write_row row = .ok (rowS row) := by
  unfold p_write_row
  rw [strs_ok hm hm2 p0 p1 h, Res.bind_ok, (rowS_join hm hm2 p0 p1 h).1, Res.bind_ok]
theorem sum_nT (row : List Int) : strR (row.sum % p) = .ok (nT (row.sum % p)) ∧ (nT (row.sum % p)).length ≤ 4 := by
  have a := Int.emod_nonneg row.sum (show p ≠ 0 by omega)
  have b := Int.emod_lt_of_pos row.sum (show 0 < p by omega)
  exact ⟨nT_str a (by omega), nT_len (by omega)⟩
theorem lines_join {table : List (List Int)} (ht : ∀ r ∈ table, RowOk m p r) (hl : table.length ≤ 6) : joinR ("\n" : Str) (headT p :: table.map (rowT p)) = .ok (textT p table) := by
  have k := lines_known hm hm2 p0 p1 ht
  have := sum_le (B := 36) fun t ht => (k t ht).1
  rw [List.length_cons, List.length_map] at this
  exact joinR_ok nl_sep (by rw [List.length_cons, List.length_map]; omega)
theorem write_board_ok {table : List (List Int)} (ht : ∀ r ∈ table, RowOk m p r) (hl : table.length ≤ 6) : p_write_board p table = .ok (textT p table) := by
  have l6 : ("prime " : Str).length = 6 := by decide +kernel
  have l3 : (" : " : Str).length = 3 := by decide +kernel
  have l0 : Str.empty.length = 0 := rfl
  have em : ∀ x : Str, Str.empty ++ x = x := fun x => TL.ext_tl (by rw [TL.tl_append]; rfl)
  have lp := nT_len (n := p) (by omega)
  unfold p_write_board
  rw [addSR_ok (by omega), Res.bind_ok, nT_str (by omega) (by omega), Res.bind_ok, em, addSR_ok (by omega), Res.bind_ok, Res.bind_ok, foldR_app (g := rowT p) table [("prime " : Str) ++ nT p] (by simp; omega) fun row hr acc => ?_, Res.bind_ok, show [("prime " : Str) ++ nT p] ++ table.map (rowT p) = headT p :: table.map (rowT p) from rfl, lines_join hm hm2 p0 p1 ht hl, Res.bind_ok]
  have h := ht row hr
  have rl := (rowS_join hm hm2 p0 p1 h).2
  obtain ⟨s1, s2⟩ := sum_nT hm hm2 p0 p1 row
  rw [write_row_ok hm hm2 p0 p1 h, Res.bind_ok, show okS (rowS row) = .ok () from if_pos (by rw [sizeLine_eq]; omega), Res.bind_ok, addSR_ok (by omega), Res.bind_ok, em, addSR_ok (by omega), Res.bind_ok, total_ok (by omega), Res.bind_ok, s1, Res.bind_ok, addSR_ok (by rw [app_len]; omega), Res.bind_ok, bind_ok_self]
  rfl
theorem text_signs {table : List (List Int)} : ∀ c ∈ tl (textT p table), c < 0x110000 := fun c hc => by
  unfold textT at hc
  rw [join_tl nl_sep] at hc
  have dg : ∀ n c, c ∈ tl (nT n) → c < 0x110000 := fun n c h => by have := nT_dig n c h; omega
  rcases mem_join hc with rfl | ⟨x, hx, hc2⟩
  · decide
  · obtain ⟨t, ht, rfl⟩ := List.mem_map.mp hx
    rcases List.mem_cons.mp ht with rfl | ht
    · unfold headT at hc2
      rw [TL.tl_append, prime_tl] at hc2
      rcases List.mem_append.mp hc2 with q | q
      · exact (by decide : ∀ c ∈ [112, 114, 105, 109, 101, 32], c < 0x110000) c q
      · exact dg _ _ q
    · obtain ⟨r, hr, rfl⟩ := List.mem_map.mp ht
      unfold rowT rowS at hc2
      rw [TL.tl_append, TL.tl_append, join_tl sp_sep, gap_tl] at hc2
      rcases List.mem_append.mp hc2 with q | q
      · rcases List.mem_append.mp q with q | q
        · rcases mem_join q with rfl | ⟨x, hx, q⟩
          · decide
          · obtain ⟨t, ht, rfl⟩ := List.mem_map.mp hx
            obtain ⟨n, _, rfl⟩ := List.mem_map.mp ht
            exact dg _ _ q
        · exact (by decide : ∀ c ∈ [32, 58, 32], c < 0x110000) c q
      · exact dg _ _ q
end
theorem read_good {m : Int} {text : Str} {x : Option Int × List (List Int)} (h : p_read_board m text = .ok x) : p__law_read m text = .ok (enc x) := by
  unfold p__law_read
  rw [h, Res.bind_ok, tryR_out]
theorem read_bad {m : Int} {text : Str} {k : Int} (h : p_read_board m text = .ex ⟨"LineError", ["line"], [enc k]⟩) : p__law_read m text = .ok (enc ((("line" : Str), k) : Str × Int)) := by
  unfold p__law_read
  rw [h, Res.bind_ex]
  exact tryR_ex (ex1_at _ _ _ _)
theorem same_line {k : Int} (h : k.natAbs < 10 ^ 12) : p__law_same (enc ((("line" : Str), k) : Str × Int) : VF.D) ((("line" : Str), k) : Str × Int) = .ok true := by
  have sh : Sh 1 84 (enc ((("line" : Str), k) : Str × Int)) := Sh.pair (k := 0) (w := 41) (Sh.str (by decide +kernel) (by decide +kernel)) (Sh.encI h)
  exact same_sh (a := (enc ((("line" : Str), k) : Str × Int) : VF.D)) sh rfl
theorem same_board {q : Int} {rows : List (List Int)} (hq : q.natAbs < 10 ^ 12) (hl : rows.length ≤ 701) (hr : ∀ r ∈ rows, r.length ≤ 4 ∧ ∀ v ∈ r, v.natAbs < 10 ^ 12) : p__law_same (enc ((some q, rows) : Option Int × List (List Int)) : VF.D) ((q, rows) : Int × List (List Int)) = .ok true := by
  have s1 : Sh 2 ((42 * 4 + 1) * 701) (enc rows) := Sh.list (fun r hr' => Sh.ints (hr r hr').2 (hr r hr').1) hl
  have s2 : Sh 2 ((42 * 4 + 1) * 701) (enc (some q)) := Sh.le (Sh.encI hq) (by decide) (by decide)
  have sh : Sh 3 (((42 * 4 + 1) * 701 + 1) * 2) (enc ((some q, rows) : Option Int × List (List Int))) := Sh.pair s2 s1
  exact same_sh (a := (enc ((some q, rows) : Option Int × List (List Int)) : VF.D)) sh rfl
theorem prime_pick {t : Int} (h0 : 0 ≤ t) (h1 : t < 8) : ∃ p, geti ([2, 3, 5, 7, 11, 101, 997, 7919] : List Int) t = .ok p ∧ 2 ≤ p ∧ p ≤ 9999 := by
  have hl : t.toNat < ([2, 3, 5, 7, 11, 101, 997, 7919] : List Int).length := by simp; omega
  refine ⟨_, geti_int h0 hl, (by decide : ∀ p ∈ ([2, 3, 5, 7, 11, 101, 997, 7919] : List Int), 2 ≤ p ∧ p ≤ 9999) _ (List.getElem_mem hl)⟩
def headB (line : Str) : Bool := match rpO line with
  | some q => decide (q < 2)
  | none => true
theorem head_chk {line : Str} (tk : TokOk line) : ((if (decide ((((Txt.split line (" " : Str)).length : Nat) : Int) ≠ 2)) = true then Res.ok true else
(geti (Txt.split line (" " : Str)) 0).bind fun t110 =>
(if (decide (t110 ≠ ("prime" : Str))) = true then Res.ok true else
(geti (Txt.split line (" " : Str)) 1).bind fun t143 =>
(p__law_plain t143).bind fun t144 =>
(if (!t144) = true then Res.ok true else
(geti (Txt.split line (" " : Str)) 1).bind fun t159 =>
(intSR t159).bind fun t160 =>
Res.ok (decide (t160 < 2))).bind fun t163 =>
Res.ok t163).bind fun t165 =>
Res.ok t165) : Res Bool) = .ok (headB line) := by
  unfold headB rpO
  obtain ⟨_, tks⟩ := tk
  match hps : Txt.split line (" " : Str) with
  | [] => exact absurd hps (split_ne sp_sep)
  | [a] => rfl
  | [a, b] =>
    rw [hps] at tks
    have hb := tks b (by simp)
    rw [if_neg (by simp), show geti [a, b] 0 = .ok a from rfl, Res.bind_ok]
    simp only
    by_cases c : a = "prime"
    · rw [if_neg (by rw [decide_eq_true_iff]; exact fun q => q c), show geti [a, b] 1 = .ok b from rfl, Res.bind_ok, plain_ok hb, Res.bind_ok, if_pos c, rn_val]
      cases hg : goodB b with
      | false => rfl
      | true => rw [if_neg (by decide), Res.bind_ok, good_val hg hb, Res.bind_ok]; rfl
    · rw [if_pos (by rw [decide_eq_true_iff]; exact c), if_neg c]; rfl
  | a :: b :: c :: r =>
    rw [if_pos (by rw [decide_eq_true_iff]; simp only [List.length_cons]; omega)]
theorem rpO_some {line : Str} {q : Int} (h : rpO line = some q) : ∃ b, Txt.split line (" " : Str) = [("prime" : Str), b] ∧ goodB b = true ∧ q = val b := by
  unfold rpO at h
  match hps : Txt.split line (" " : Str) with
  | [] => rw [hps] at h; cases h
  | [a] => rw [hps] at h; cases h
  | [a, b] =>
    rw [hps] at h
    simp only at h
    by_cases c : a = "prime"
    · rw [if_pos c, rn_val] at h
      cases hg : goodB b with
      | false => rw [hg] at h; cases h
      | true => rw [hg] at h; cases h; exact ⟨b, by rw [c], hg, rfl⟩
    · rw [if_neg c] at h; cases h
  | a :: b :: c :: r => rw [hps] at h; cases h
theorem val_lt11 {t : Str} (h : goodB t = true) (hl : t.length ≤ 11) : (val t).natAbs < 10 ^ 12 := by
  unfold goodB at h
  simp only [Bool.and_eq_true, decide_eq_true_eq] at h
  have := val_lt (tl t) (digB_iff.mp h.1.2)
  have h2 : 10 ^ (tl t).length ≤ 10 ^ 11 := Nat.pow_le_pow_right (by decide) (by rw [← len_tl]; exact hl)
  show (NumText.digitsVal (tl t)) < _
  omega
theorem due_ok {m : Nat} (hm2 : m ≤ 100) {p : Int} {line : Str} (tk : TokOk line) (h : goodL m p line = true) : ((splitR line (" " : Str)).bind fun t71 =>
(mapC (fun (part : Str) =>
(intSR part).bind fun t81 =>
Res.ok t81) (cutL t71 none (some (m : Int)))).bind fun t82 =>
Res.ok t82) = .ok (valsL m line) ∧ (valsL m line).length ≤ m ∧ ∀ v ∈ valsL m line, v.natAbs < 10 ^ 12 := by
  obtain ⟨tl1, tks⟩ := tk
  unfold goodL shapeB numsB at h
  simp only [Bool.and_eq_true, decide_eq_true_eq, List.all_eq_true] at h
  obtain ⟨⟨h1, h2⟩, ⟨h3, h4⟩, h5⟩ := h
  refine ⟨?_, by unfold valsL; rw [List.length_map, List.length_take]; omega, fun v hv => ?_⟩
  · rw [splitR_ok sp_sep (by omega), Res.bind_ok, cut_take _ m (by omega), mapC_ok (g := val) (by rw [List.length_take]; omega) fun t ht => by rw [good_val (h3 t ht) (tks t (List.mem_of_mem_take ht)), Res.bind_ok], Res.bind_ok]
    rfl
  · obtain ⟨t, ht, rfl⟩ := List.mem_map.mp hv
    exact val_lt11 (h3 t ht) (tks t (List.mem_of_mem_take ht))
theorem law14_hd {m : Nat} (hm : 1 ≤ m) (hm2 : m ≤ 4) {ns : List Int} {other : Str} (h : PB 11 other) {r0 : Str} {rest : List Str} (e : Txt.split other ("\n" : Str) = r0 :: rest) {q : Int} (hq : rpO r0 = some q) (q2 : ¬ q < 2) : Hd (p_law_14 ns (m : Int) other (r0 :: rest) (Txt.split r0 (" " : Str))) (· = true) := by
  have tk := h.tok
  have pl := parts_len (x := other) nl_sep
  have h1 := h.1
  rw [e] at tk pl
  rw [List.length_cons] at pl
  have bd := board_ok hm (by omega) h e
  rw [hq] at bd
  simp only at bd
  rw [if_neg q2] at bd
  obtain ⟨b, eb, gb, rfl⟩ := rpO_some hq
  have hb : b.length ≤ 11 := (tk r0 List.mem_cons_self).2 b (by rw [eb]; simp)
  have g1 : geti (Txt.split r0 (" " : Str)) 1 = .ok b := by rw [eb]; rfl
  unfold p_law_14
  rw [rng_ok (by omega) (by omega) (by omega) (by rw [List.length_cons]; omega), Res.bind_ok]
  have ln : (((r0 :: rest).length : Nat) : Int) - 1 = ((rest.length : Nat) : Int) := by rw [List.length_cons]; omega
  rw [ln, Int.toNat_natCast]
  refine forR_inv (fun i _ => ∀ k (hk : k < rest.length), k < i → goodL m (val b) rest[k] = true) (fun k _ hk => absurd hk (Nat.not_lt_zero k)) (fun i hi s I => ?_) fun s I => ?_
  · rw [irng_len] at hi
    have ex : (irng 1 rest.length)[i]'(by rw [irng_len]; exact hi) = ((i + 1 : Nat) : Int) := by simp [irng]; omega
    rw [ex, g1, Res.bind_ok, good_val gb hb, Res.bind_ok, geti_nat (xs := r0 :: rest) (i := i + 1) (by simpa using hi), Res.bind_ok, show (r0 :: rest)[i + 1]'(by simpa using hi) = rest[i] from rfl, good_ok hm (by omega) (by omega) (tk _ (List.mem_cons_of_mem _ (List.getElem_mem hi))), Res.bind_ok]
    cases hg : goodL m (val b) rest[i] with
    | true =>
      rw [if_neg (by decide)]
      refine Hd.ok (.inl ⟨s, rfl, fun k hk hk2 => ?_⟩)
      rcases Nat.lt_or_ge k i with c | c
      · exact I k hk c
      · have : k = i := by omega
        subst this; exact hg
    | false =>
      rw [bad_at (i := 0) hi (fun k hk => I k (by omega) hk) hg] at bd
      simp only at bd
      have rb := read_bad bd
      rw [if_pos (show (!false) = true from rfl), rb, Res.bind_ok, show (((i + 1 : Nat) : Int) + 1) = ((0 + i + 2 : Nat) : Int) by omega, same_line (by omega), Res.bind_ok]
      exact Hd.ok (.inr ⟨true, rfl, rfl⟩)
  · rw [irng_len] at I
    have all : ∀ x ∈ rest, goodL m (val b) x = true := fun x hx => by
      obtain ⟨k, hk, rfl⟩ := List.mem_iff_getElem.mp hx
      exact I k hk hk
    rw [bad_none all] at bd
    simp only at bd
    rw [show (1 : Int) = ((1 : Nat) : Int) from rfl, cut_drop _ 1 (by simp), show (r0 :: rest).drop 1 = rest from rfl, mapC_ok (g := valsL m) (by omega) fun x hx => (due_ok (by omega) (tk x (List.mem_cons_of_mem _ hx)) (all x hx)).1, Res.bind_ok, Res.bind_ok]
    unfold p_law_16
    rw [read_good bd, Res.bind_ok, g1, Res.bind_ok, good_val gb hb, Res.bind_ok, same_board (val_lt11 gb hb) (by rw [List.length_map]; omega) fun r hr => ?_, Res.bind_ok]
    · exact Hd.ok rfl
    · obtain ⟨x, hx, rfl⟩ := List.mem_map.mp hr
      have := due_ok (by omega) (tk x (List.mem_cons_of_mem _ hx)) (all x hx)
      exact ⟨by omega, this.2.2⟩
theorem law_plain (ns : List Int) : p_law ns = .ok true := by
  refine Hd.true ?_
  unfold p_law
  refine (box_hd ns (by decide) (by decide)).bind fun b0 _ => ?_
  rw [Res.bind_ok]
  refine hd_drw (by decide) fun t b t0 t1 => ?_
  dsimp only
  obtain ⟨p, ep, p0, p1⟩ := prime_pick t0 t1
  rw [ep, Res.bind_ok, Res.bind_ok]
  refine hd_drw (by decide) fun a b a0 a1 => ?_
  dsimp only
  obtain ⟨m, em⟩ := Int.eq_ofNat_of_zero_le (show 0 ≤ 1 + a by omega)
  have hm : 1 ≤ m := by omega
  have hm2 : m ≤ 4 := by omega
  rw [Res.bind_ok, em]
  unfold p_law_3
  rw [Res.bind_ok]
  refine hd_drw (by decide) fun k b k0 k1 => ?_
  dsimp only
  rw [rng1_ok (by omega) (by omega), Res.bind_ok]
  refine (foldR_hd (fun i (s : Bx × List (List Int)) => (∀ r ∈ s.2, RowOk m p r) ∧ s.2.length = i) ⟨fun r hr => absurd hr List.not_mem_nil, rfl⟩ fun i hi s hs => ?_).bind fun s hs => ?_
  · obtain ⟨b, T⟩ := s
    dsimp only at hs ⊢
    rw [irng_len] at hi
    rw [rng1_ok (by omega) (by omega), Res.bind_ok, Int.toNat_natCast]
    refine (mapS_hd (Q := fun _ v => 0 ≤ v ∧ v < p) (by rw [irng_len]; omega) fun x _ s => ?_).bind fun q hq => ?_
    · refine hd_drw (by decide) fun v b v0 v1 => ?_
      dsimp only
      rw [modR_ok (by omega), Res.bind_ok]
      exact Hd.ok ⟨Int.emod_nonneg _ (by omega), Int.emod_lt_of_pos _ (by omega)⟩
    · obtain ⟨r, b⟩ := q
      dsimp only at hq ⊢
      rw [appR_ok (by omega), Res.bind_ok]
      refine Hd.ok ⟨fun x hx => ?_, by simp [hs.2]⟩
      rcases List.mem_append.mp hx with hx | hx
      · exact hs.1 x hx
      · rw [List.mem_singleton.mp hx]
        exact ⟨by rw [hq.len, irng_len], fun v hv => by obtain ⟨_, _, h⟩ := hq.mem v hv; exact h⟩
  obtain ⟨b, T⟩ := s
  dsimp only at hs ⊢
  obtain ⟨ht, hT⟩ := hs
  rw [irng_len] at hT
  have l6 : ("prime " : Str).length = 6 := by decide +kernel
  have l3 : (" : " : Str).length = 3 := by decide +kernel
  have lp := nT_len (n := p) (by omega)
  rw [nT_str (by omega) (by omega), Res.bind_ok, addSR_ok (by omega), Res.bind_ok, Res.bind_ok]
  refine forR_go (fun i L => L = headT p :: (T.take i).map (rowT p)) (by rw [List.take_zero]; rfl) (fun i hi L hL => ?_) fun L hL => ?_
  · have h := ht _ (List.getElem_mem hi)
    have rl := (rowS_join hm hm2 p0 p1 h).2
    obtain ⟨s1, s2⟩ := sum_nT hm hm2 p0 p1 T[i]
    subst hL
    rw [strs_ok hm hm2 p0 p1 h, Res.bind_ok, (rowS_join hm hm2 p0 p1 h).1, Res.bind_ok, addSR_ok (by omega), Res.bind_ok, modR_ok (by omega), Res.bind_ok, s1, Res.bind_ok, addSR_ok (by rw [app_len]; omega), Res.bind_ok, appR_ok (by rw [List.length_cons, List.length_map, List.length_take]; omega), Res.bind_ok, write_row_ok hm hm2 p0 p1 h, Res.bind_ok, Res.bind_ok, (rowS_join hm hm2 p0 p1 h).1, Res.bind_ok, if_neg (by simp)]
    refine Hd.ok ⟨_, rfl, ?_⟩
    have : T.take (i + 1) = T.take i ++ [T[i]] := by rw [List.take_succ, List.getElem?_eq_getElem hi]; rfl
    rw [this, List.map_append]
    rfl
  · rw [List.take_length] at hL
    subst hL
    unfold p_law_7
    obtain ⟨t1', t2', t3', t4'⟩ := text_known hm hm2 p0 p1 ht (by omega)
    obtain ⟨sx, ex⟩ := show_str (s := textT p T) (text_signs hm hm2 p0 p1) (by omega)
    have pb : PB 11 (textT p T) := ⟨by omega, fun w hw hf => Nat.le_trans (t3' w hw hf) (by decide)⟩
    have bd := board_ok hm (by omega) pb t4'
    rw [head_read hm hm2 p0 p1] at bd
    simp only at bd
    rw [if_neg (by omega), bad_none fun x hx => by obtain ⟨r, hr, rfl⟩ := List.mem_map.mp hx; exact (row_good hm hm2 p0 p1 (ht r hr)).1] at bd
    simp only at bd
    have ev : (T.map (rowT p)).map (valsL m) = T := by
      rw [List.map_map]
      have : ∀ r ∈ T, (valsL m ∘ rowT p) r = r := fun r hr => (row_good hm hm2 p0 p1 (ht r hr)).2
      rw [List.map_congr_left this]; simp
    rw [ev] at bd
    rw [lines_join hm hm2 p0 p1 ht (by omega), Res.bind_ok, Res.bind_ok, write_board_ok hm hm2 p0 p1 ht (by omega), Res.bind_ok, same_eq ex rfl, Res.bind_ok, if_neg (by decide), read_good bd, Res.bind_ok, same_board (by omega) (by omega) fun r hr => ⟨by rw [(ht r hr).1]; omega, fun v hv => by have := (ht r hr).2 v hv; omega⟩, Res.bind_ok, Res.bind_ok, if_neg (by decide)]
    refine hd_drw (by decide) fun at0 b at1 at2 => ?_
    dsimp only
    rw [lenSR_ok (by omega), Res.bind_ok, modR_ok (by omega), Res.bind_ok, Res.bind_ok]
    generalize at0 % ((textT p T).length : Nat) = at'
    unfold p_law_10
    rw [cutSR_ok (by omega), Res.bind_ok]
    refine hd_drw (by decide) fun c b c0 c1 => ?_
    dsimp only
    have sl : (tl ("0 9:\n1" : Str)).length = 6 := by decide +kernel
    rw [getiS_ok (by decide +kernel) c0 (by rw [sl]; omega), Res.bind_ok]
    generalize (tl ("0 9:\n1" : Str))[c.toNat]'_ = sg
    have c1' := cutS_length (textT p T) none (some at')
    rw [addSR_ok (by rw [show (sign1 sg).length = 1 from rfl]; omega), Res.bind_ok, show okS (textT p T) = .ok () from if_pos (by rw [sizeLine_eq]; omega), Res.bind_ok]
    refine hd_drw (by decide) fun d b d0 d1 => ?_
    dsimp only
    have c2' := cutS_length (textT p T) (some (at' + d)) none
    rw [addSR_ok (by rw [app_len, show (sign1 sg).length = 1 from rfl]; omega), Res.bind_ok, Res.bind_ok]
    have po : PB 11 (cutS (textT p T) none (some at') ++ sign1 sg ++ cutS (textT p T) (some (at' + d)) none) := by
      refine ⟨by rw [app_len, app_len, show (sign1 sg).length = 1 from rfl]; omega, ?_⟩
      rw [TL.tl_append, TL.tl_append, List.append_assoc]
      exact Short.cat (N := 5) (c := sg) (t3'.inf ⟨_, _, rfl⟩) (t3'.inf ⟨_, _, rfl⟩)
    generalize cutS (textT p T) none (some at') ++ sign1 sg ++ cutS (textT p T) (some (at' + d)) none = other at po ⊢
    have po1 := po.1
    rw [splitR_ok nl_sep (by omega), Res.bind_ok, Res.bind_ok]
    cases e : Txt.split other ("\n" : Str) with
    | nil => exact absurd e (split_ne nl_sep)
    | cons r0 rest =>
      have tk := po.tok
      rw [e] at tk
      have tk0 := tk r0 List.mem_cons_self
      rw [show geti (r0 :: rest) 0 = .ok r0 from geti_nat (xs := r0 :: rest) (i := 0) (by simp), Res.bind_ok, splitR_ok sp_sep (by have := tk0.1; omega), Res.bind_ok, Res.bind_ok, head_chk tk0, Res.bind_ok]
      have bd2 := board_ok hm (by omega) po e
      unfold headB
      cases hq : rpO r0 with
      | none =>
        rw [hq] at bd2
        simp only at bd2 ⊢
        rw [if_pos trivial, read_bad bd2, Res.bind_ok, same_line (by decide), Res.bind_ok]
        exact Hd.ok rfl
      | some q =>
        rw [hq] at bd2
        simp only at bd2 ⊢
        by_cases cq : q < 2
        · rw [if_pos cq] at bd2
          rw [if_pos (decide_eq_true cq), read_bad bd2, Res.bind_ok, same_line (by decide), Res.bind_ok]
          exact Hd.ok rfl
        · rw [if_neg (by rw [decide_eq_true_iff]; exact cq)]
          exact law14_hd hm hm2 po e hq cq
theorem law_pure (ns : List Int) : ∃ as', φ_law [.fz (.scr ns)] = .ok (.fz (.bl true)) as' := law_of (ss_law ns) (law_plain ns)
end
end V
set_option maxHeartbeats 0
namespace V
open PySem PySem.Spec PyProof.Rows L2 VF
abbrev N_total : List Str := ["prime", "numbers", "result", "number"]
theorem sc_total : FnScope N_total ["prime", "numbers"] (defScope s_total) := ⟨rfl, rfl, rfl, by decide +kernel, rfl, by decide +kernel, by decide +kernel⟩
abbrev N_read_number : List Str := ["text", "sign"]
theorem sc_read_number : FnScope N_read_number ["text"] (defScope s_read_number) := ⟨rfl, rfl, rfl, by decide +kernel, rfl, by decide +kernel, by decide +kernel⟩
abbrev N_write_row : List Str := ["row", "share"]
theorem sc_write_row : FnScope N_write_row ["row"] (defScope s_write_row) := ⟨rfl, rfl, rfl, by decide +kernel, rfl, by decide +kernel, by decide +kernel⟩
abbrev N_write_board : List Str := ["prime", "table", "lines", "row"]
theorem sc_write_board : FnScope N_write_board ["prime", "table"] (defScope s_write_board) := ⟨rfl, rfl, rfl, by decide +kernel, rfl, by decide +kernel, by decide +kernel⟩
abbrev N_read_prime : List Str := ["line", "parts"]
theorem sc_read_prime : FnScope N_read_prime ["line"] (defScope s_read_prime) := ⟨rfl, rfl, rfl, by decide +kernel, rfl, by decide +kernel, by decide +kernel⟩
abbrev N_read_row : List Str := ["prime", "mixers", "line", "parts", "shares", "value", "share", "part"]
theorem sc_read_row : FnScope N_read_row ["prime", "mixers", "line"] (defScope s_read_row) := ⟨rfl, rfl, rfl, by decide +kernel, rfl, by decide +kernel, by decide +kernel⟩
abbrev N_read_board : List Str := ["mixers", "text", "lines", "prime", "table", "number", "line", "row"]
theorem sc_read_board : FnScope N_read_board ["mixers", "text"] (defScope s_read_board) := ⟨rfl, rfl, rfl, by decide +kernel, rfl, by decide +kernel, by decide +kernel⟩
abbrev N__law_cell : List Str := ["_law_script", "_law_k"]
theorem sc__law_cell : FnScope N__law_cell ["_law_script", "_law_k"] (defScope s__law_cell) := ⟨rfl, rfl, rfl, by decide +kernel, rfl, by decide +kernel, by decide +kernel⟩
abbrev N__law_row : List Str := ["_law_cell_here", "_law_k", "_law_many", "_law_row_here", "_law_seed", "_law_turn"]
theorem sc__law_row : FnScope N__law_row ["_law_cell_here", "_law_k", "_law_many"] (defScope s__law_row) := ⟨rfl, rfl, rfl, by decide +kernel, rfl, by decide +kernel, by decide +kernel⟩
abbrev N__law_box : List Str := ["_law_script", "_law_first", "_law_last", "_law_row_here", "_law_k"]
theorem sc__law_box : FnScope N__law_box ["_law_script", "_law_first", "_law_last"] (defScope s__law_box) := ⟨rfl, rfl, rfl, by decide +kernel, rfl, by decide +kernel, by decide +kernel⟩
abbrev N__law_draw : List Str := ["_law_box_here", "_law_many", "_law_at"]
theorem sc__law_draw : FnScope N__law_draw ["_law_box_here", "_law_many"] (defScope s__law_draw) := ⟨rfl, rfl, rfl, by decide +kernel, rfl, by decide +kernel, by decide +kernel⟩
abbrev N__law_same : List Str := ["_law_one", "_law_other"]
theorem sc__law_same : FnScope N__law_same ["_law_one", "_law_other"] (defScope s__law_same) := ⟨rfl, rfl, rfl, by decide +kernel, rfl, by decide +kernel, by decide +kernel⟩
abbrev N__law_plain : List Str := ["_law_text", "_law_sign"]
theorem sc__law_plain : FnScope N__law_plain ["_law_text"] (defScope s__law_plain) := ⟨rfl, rfl, rfl, by decide +kernel, rfl, by decide +kernel, by decide +kernel⟩
abbrev N__law_good : List Str := ["_law_mixers", "_law_prime", "_law_line", "_law_parts", "_law_numbers", "_law_shares", "_law_part"]
theorem sc__law_good : FnScope N__law_good ["_law_mixers", "_law_prime", "_law_line"] (defScope s__law_good) := ⟨rfl, rfl, rfl, by decide +kernel, rfl, by decide +kernel, by decide +kernel⟩
abbrev N__law_read : List Str := ["_law_mixers", "_law_text", "fault"]
theorem sc__law_read : FnScope N__law_read ["_law_mixers", "_law_text"] (defScope s__law_read) := ⟨rfl, rfl, rfl, by decide +kernel, rfl, by decide +kernel, by decide +kernel⟩
abbrev N_law : List Str := ["_law_script", "_law_box_here", "_law_prime", "_law_mixers", "_law_table", "_law_row_here", "_law_lines", "_law_text", "_law_at", "_law_other", "_law_rows", "_law_head", "_law_k", "_law_due", "_law_line", "_law_part", "_law_mixer", "_law_share"]
theorem sc_law : FnScope N_law ["_law_script"] (defScope s_law) := ⟨rfl, rfl, rfl, by decide +kernel, rfl, by decide +kernel, by decide +kernel⟩
abbrev FnP (K : PySem.W.Frag) (x : Str) (st : Stmt) (f : Addr) (fd : FuncData) : Prop := FunD K x x (defArgs st) (defBody st) (defScope st) [] [] f fd
structure Tx (P : Program) (K : PySem.W.Frag) (mg : Str → Option Value) where
  b_ValueError : mg "ValueError" = none
  b_enumerate : mg "enumerate" = none
  b_int : mg "int" = none
  b_len : mg "len" = none
  b_max : mg "max" = none
  b_range : mg "range" = none
  b_repr : mg "repr" = none
  b_str : mg "str" = none
  b_sum : mg "sum" = none
  b_super : mg "super" = none
  gc_FIGURES : ∃ t, mg "FIGURES" = some (.str "0123456789" t)
  a_total : Addr
  fd_total : FuncData
  F_total : FnP K "total" s_total a_total fd_total
  g_total : mg "total" = some (.ref a_total)
  a_read_number : Addr
  fd_read_number : FuncData
  F_read_number : FnP K "read_number" s_read_number a_read_number fd_read_number
  g_read_number : mg "read_number" = some (.ref a_read_number)
  a_write_row : Addr
  fd_write_row : FuncData
  F_write_row : FnP K "write_row" s_write_row a_write_row fd_write_row
  g_write_row : mg "write_row" = some (.ref a_write_row)
  a_write_board : Addr
  fd_write_board : FuncData
  F_write_board : FnP K "write_board" s_write_board a_write_board fd_write_board
  g_write_board : mg "write_board" = some (.ref a_write_board)
  a_read_prime : Addr
  fd_read_prime : FuncData
  F_read_prime : FnP K "read_prime" s_read_prime a_read_prime fd_read_prime
  g_read_prime : mg "read_prime" = some (.ref a_read_prime)
  a_read_row : Addr
  fd_read_row : FuncData
  F_read_row : FnP K "read_row" s_read_row a_read_row fd_read_row
  g_read_row : mg "read_row" = some (.ref a_read_row)
  a_read_board : Addr
  fd_read_board : FuncData
  F_read_board : FnP K "read_board" s_read_board a_read_board fd_read_board
  g_read_board : mg "read_board" = some (.ref a_read_board)
  a__law_cell : Addr
  fd__law_cell : FuncData
  F__law_cell : FnP K "_law_cell" s__law_cell a__law_cell fd__law_cell
  g__law_cell : mg "_law_cell" = some (.ref a__law_cell)
  a__law_row : Addr
  fd__law_row : FuncData
  F__law_row : FnP K "_law_row" s__law_row a__law_row fd__law_row
  g__law_row : mg "_law_row" = some (.ref a__law_row)
  a__law_box : Addr
  fd__law_box : FuncData
  F__law_box : FnP K "_law_box" s__law_box a__law_box fd__law_box
  g__law_box : mg "_law_box" = some (.ref a__law_box)
  a__law_draw : Addr
  fd__law_draw : FuncData
  F__law_draw : FnP K "_law_draw" s__law_draw a__law_draw fd__law_draw
  g__law_draw : mg "_law_draw" = some (.ref a__law_draw)
  a__law_same : Addr
  fd__law_same : FuncData
  F__law_same : FnP K "_law_same" s__law_same a__law_same fd__law_same
  g__law_same : mg "_law_same" = some (.ref a__law_same)
  a__law_plain : Addr
  fd__law_plain : FuncData
  F__law_plain : FnP K "_law_plain" s__law_plain a__law_plain fd__law_plain
  g__law_plain : mg "_law_plain" = some (.ref a__law_plain)
  a__law_good : Addr
  fd__law_good : FuncData
  F__law_good : FnP K "_law_good" s__law_good a__law_good fd__law_good
  g__law_good : mg "_law_good" = some (.ref a__law_good)
  a__law_read : Addr
  fd__law_read : FuncData
  F__law_read : FnP K "_law_read" s__law_read a__law_read fd__law_read
  g__law_read : mg "_law_read" = some (.ref a__law_read)
  a_law : Addr
  fd_law : FuncData
  F_law : FnP K "law" s_law a_law fd_law
  g_law : mg "law" = some (.ref a_law)
  c_LineError : Addr
  g_LineError : mg "LineError" = some (.ref c_LineError)
  z_LineError : ErrK P K mg c_LineError Z_LineError
  f_LineError : XfC K c_LineError
  n_LineError_line : PySem.W.findIn K (.ref c_LineError) "line" = some none
  m_LineError_LineError : PySem.W.exmOne K (.ref c_LineError) (.ref c_LineError) = some true
section
variable {P : Program} {w : World} {K : PySem.W.Frag} {mg : Str → Option Value} {base : Heap}
theorem Tx.e_LineError (T : Tx P K mg) : ErrF P w K mg base "LineError" T.c_LineError ["line"] := errF1 T.z_LineError T.g_LineError (NdefX.nscope_by (by decide +kernel)) rfl rfl (by decide +kernel) rfl (fun _ => rfl) (by decide) (fun X hN hS => (.cons (pe_ptC (by decide)) (.cons (pe_ptV (j := 1) (by decide) (by rw [hN]; rfl) (by rw [hS]; exact .inl (by decide +kernel))) (.cons (pe_ptC (by decide)) .nil)))) T.n_LineError_line (fun _ _ _ _ _ _ _ us hl => match us, hl with | [_, _], _ => rfl)
theorem Tx.bd_total (T : Tx P K mg) : Binds K T.fd_total ["prime", "numbers"] [] := T.F_total.bindsN fun _ _ _ _ _ _ us hl => match us, hl with | [_, _], _ => rfl
theorem Tx.ok_total (T : Tx P K mg) : FnOk P w K mg base CX0 1 T.a_total T.fd_total ["prime", "numbers"] (spF K mg 2 φ_total) :=
  fn_ok (k := 0) T.F_total sc_total [false, false] rfl (m := d_total) (n := 4) rfl fun cdv A outer s H E hr => ((b_cons (s_set (i := 2) sc_total.nd rfl (by first | exact .inl rfl | exact .inr rfl) v_int)
      (b_cons (s_for PassesOwn.never rfl (i_any (v_var (i := 1) rfl (by first | exact .inl rfl | exact .inr (.inl rfl) | exact .inr (.inr rfl)))) (g_name (i := 3) sc_total.nd rfl (by first | exact .inl rfl | exact .inr rfl)) (b_one (s_set (i := 2) sc_total.nd rfl (by first | exact .inl rfl | exact .inr rfl) (v_mod (v_addI (v_var (i := 2) rfl (by first | exact .inl rfl | exact .inr (.inl rfl) | exact .inr (.inr rfl))) (v_var (i := 3) rfl (by first | exact .inl rfl | exact .inr (.inl rfl) | exact .inr (.inr rfl)))) (v_var (i := 0) rfl (by first | exact .inl rfl | exact .inr (.inl rfl) | exact .inr (.inr rfl)))))))
      (b_one (s_ret (v_var (i := 2) rfl (by first | exact .inl rfl | exact .inr (.inl rfl) | exact .inr (.inr rfl))))))))
theorem Tx.bd_read_number (T : Tx P K mg) : Binds K T.fd_read_number ["text"] [] := T.F_read_number.bindsN fun _ _ _ _ _ _ us hl => match us, hl with | [_], _ => rfl
theorem Tx.ok_read_number (T : Tx P K mg) : FnOk P w K mg base CX0 1 T.a_read_number T.fd_read_number ["text"] (spF K mg 1 φ_read_number) :=
  fn_ok (k := 0) T.F_read_number sc_read_number [false] rfl (m := d_read_number) (n := 2) rfl fun cdv A outer s H E hr => ((b_cons (s_if (t_not (t_leLe v_int (v_len rfl T.b_len (a_cons (v_var (i := 0) rfl (by first | exact .inl rfl | exact .inr (.inl rfl) | exact .inr (.inr rfl))) a_nil)) v_int)) (b_one (s_ret v_non)) b_nil)
      (b_cons (s_for PassesOwn.never rfl (i_any (v_var (i := 0) rfl (by first | exact .inl rfl | exact .inr (.inl rfl) | exact .inr (.inr rfl)))) (g_name (i := 1) sc_read_number.nd rfl (by first | exact .inl rfl | exact .inr rfl)) (b_one (s_if (t_notIn (u65 hr) (v_var (i := 1) rfl (by first | exact .inl rfl | exact .inr (.inl rfl) | exact .inr (.inr rfl))) (v_gstr rfl T.gc_FIGURES) (by rfl)) (b_one (s_ret v_non)) b_nil)))
      (b_cons (s_if (VW.t (w_and (t_gt (v_len rfl T.b_len (a_cons (v_var (i := 0) rfl (by first | exact .inl rfl | exact .inr (.inl rfl) | exact .inr (.inr rfl))) a_nil)) v_int) (w_and1 (t_eq (u64 hr) (v_ix (v_var (i := 0) rfl (by first | exact .inl rfl | exact .inr (.inl rfl) | exact .inr (.inr rfl))) v_int (fun _ _ => rfl)) v_str)))) (b_one (s_ret v_non)) b_nil)
      (b_one (s_ret (v_intS rfl T.b_int (a_cons (v_var (i := 0) rfl (by first | exact .inl rfl | exact .inr (.inl rfl) | exact .inr (.inr rfl))) a_nil))))))))
theorem Tx.bd_write_row (T : Tx P K mg) : Binds K T.fd_write_row ["row"] [] := T.F_write_row.bindsN fun _ _ _ _ _ _ us hl => match us, hl with | [_], _ => rfl
theorem Tx.ok_write_row (T : Tx P K mg) : FnOk P w K mg base CX0 1 T.a_write_row T.fd_write_row ["row"] (spF K mg 1 φ_write_row) :=
  fn_ok (k := 0) T.F_write_row sc_write_row [false] rfl (m := d_write_row) (n := 2) rfl fun cdv A outer s H E hr => ((b_one (s_ret (v_join v_str (v_comp (sc := defScope s_write_row) (own := [("share", 1)]) rfl sc_write_row.nd (by rfl) (blkOk_by (N := N_write_row) (sc := defScope s_write_row) (own := [("share", 1)]) (by decide +kernel)) (by decide) (i_any (v_var (i := 0) rfl (by first | exact .inl rfl | exact .inr (.inl rfl) | exact .inr (.inr rfl)))) (fun _ _ _ _ _ => (g_name (i := 1) sc_write_row.nd rfl (by first | exact .inl rfl | exact .inr rfl))) (fun _ _ _ _ _ => ts_nil) (fun _ _ _ _ _ => (v_strI rfl T.b_str (a_cons (v_var (i := 1) rfl (by first | exact .inl rfl | exact .inr (.inl rfl) | exact .inr (.inr rfl))) a_nil))))))))
theorem Tx.bd_write_board (T : Tx P K mg) : Binds K T.fd_write_board ["prime", "table"] [] := T.F_write_board.bindsN fun _ _ _ _ _ _ us hl => match us, hl with | [_, _], _ => rfl
theorem Tx.ok_write_board (T : Tx P K mg) : FnOk P w K mg base CX0 2 T.a_write_board T.fd_write_board ["prime", "table"] (spF K mg 2 φ_write_board) :=
  fn_ok (k := 1) T.F_write_board sc_write_board [false, false] rfl (m := d_write_board) (n := 4) rfl fun cdv A outer s H E hr => ((b_cons (s_set (i := 2) sc_write_board.nd rfl (by first | exact .inl rfl | exact .inr rfl) (v_lst (a_cons (v_fs (.cons v_str (.cons (v_fmt (v_var (i := 0) rfl (by first | exact .inl rfl | exact .inr (.inl rfl) | exact .inr (.inr rfl)))) .nil))) a_nil)))
      (b_cons (s_for PassesOwn.never rfl (i_any (v_var (i := 1) rfl (by first | exact .inl rfl | exact .inr (.inl rfl) | exact .inr (.inr rfl)))) (g_name (i := 3) sc_write_board.nd rfl (by first | exact .inl rfl | exact .inr rfl)) (b_one (s_expr (v_app (i := 2) rfl (by first | exact .inl rfl | exact .inr (.inl rfl) | exact .inr (.inr rfl)) (v_fs (.cons (v_fmt (v_callB T.ok_write_row (hr.mono (by decide)) rfl T.g_write_row T.F_write_row.kp T.bd_write_row passN (a_cons (v_var (i := 3) rfl (by first | exact .inl rfl | exact .inr (.inl rfl) | exact .inr (.inr rfl))) a_nil))) (.cons v_str (.cons (v_fmt (v_callB T.ok_total (hr.mono (by decide)) rfl T.g_total T.F_total.kp T.bd_total passN (a_cons (v_var (i := 0) rfl (by first | exact .inl rfl | exact .inr (.inl rfl) | exact .inr (.inr rfl))) (a_cons (v_var (i := 3) rfl (by first | exact .inl rfl | exact .inr (.inl rfl) | exact .inr (.inr rfl))) a_nil)))) .nil)))) rfl (by decide) (by decide) (fun ho ha => pe_bm PySem.F.plainAttrs_list PySem.F.slot_list_append PySem.F.type_list_append mt_append ho ha)))))
      (b_one (s_ret (v_join v_str (v_var (i := 2) rfl (by first | exact .inl rfl | exact .inr (.inl rfl) | exact .inr (.inr rfl)))))))))
theorem Tx.bd_read_prime (T : Tx P K mg) : Binds K T.fd_read_prime ["line"] [] := T.F_read_prime.bindsN fun _ _ _ _ _ _ us hl => match us, hl with | [_], _ => rfl
theorem Tx.ok_read_prime (T : Tx P K mg) : FnOk P w K mg base CX0 2 T.a_read_prime T.fd_read_prime ["line"] (spF K mg 1 φ_read_prime) :=
  fn_ok (k := 1) T.F_read_prime sc_read_prime [false] rfl (m := d_read_prime) (n := 2) rfl fun cdv A outer s H E hr => ((b_cons (s_set (i := 1) sc_read_prime.nd rfl (by first | exact .inl rfl | exact .inr rfl) (v_split (v_var (i := 0) rfl (by first | exact .inl rfl | exact .inr (.inl rfl) | exact .inr (.inr rfl))) v_str))
      (b_cons (s_if (VW.t (w_or (t_ne (u64 hr) (v_len rfl T.b_len (a_cons (v_var (i := 1) rfl (by first | exact .inl rfl | exact .inr (.inl rfl) | exact .inr (.inr rfl))) a_nil)) v_int) (w_or1 (t_ne (u64 hr) (v_ix (v_var (i := 1) rfl (by first | exact .inl rfl | exact .inr (.inl rfl) | exact .inr (.inr rfl))) v_int (fun _ _ => rfl)) v_str)))) (b_one (s_ret v_non)) b_nil)
      (b_one (s_ret (v_callB T.ok_read_number (hr.mono (by decide)) rfl T.g_read_number T.F_read_number.kp T.bd_read_number passN (a_cons (v_ix (v_var (i := 1) rfl (by first | exact .inl rfl | exact .inr (.inl rfl) | exact .inr (.inr rfl))) v_int (fun _ _ => rfl)) a_nil)))))))
theorem Tx.bd_read_row (T : Tx P K mg) : Binds K T.fd_read_row ["prime", "mixers", "line"] [] := T.F_read_row.bindsN fun _ _ _ _ _ _ us hl => match us, hl with | [_, _, _], _ => rfl
theorem Tx.ok_read_row (T : Tx P K mg) : FnOk P w K mg base CX0 2 T.a_read_row T.fd_read_row ["prime", "mixers", "line"] (spF K mg 3 φ_read_row) :=
  fn_ok (k := 1) T.F_read_row sc_read_row [false, false, false] rfl (m := d_read_row) (n := 8) rfl fun cdv A outer s H E hr => ((b_cons (s_set (i := 3) sc_read_row.nd rfl (by first | exact .inl rfl | exact .inr rfl) (v_split (v_var (i := 2) rfl (by first | exact .inl rfl | exact .inr (.inl rfl) | exact .inr (.inr rfl))) v_str))
      (b_cons (s_if (VW.t (w_or (t_ne (u64 hr) (v_len rfl T.b_len (a_cons (v_var (i := 3) rfl (by first | exact .inl rfl | exact .inr (.inl rfl) | exact .inr (.inr rfl))) a_nil)) (v_addI (v_var (i := 1) rfl (by first | exact .inl rfl | exact .inr (.inl rfl) | exact .inr (.inr rfl))) v_int)) (w_or1 (t_ne (u64 hr) (v_ix (v_var (i := 3) rfl (by first | exact .inl rfl | exact .inr (.inl rfl) | exact .inr (.inr rfl))) (v_var (i := 1) rfl (by first | exact .inl rfl | exact .inr (.inl rfl) | exact .inr (.inr rfl))) (fun _ _ => rfl)) v_str)))) (b_one (s_ret v_non)) b_nil)
      (b_cons (s_setComp (i := 4) (sc := defScope s_read_row) (own := [("part", 7)]) rfl sc_read_row.nd rfl rfl (sw_true rfl rfl rfl (by decide +kernel)) (by rfl) (blkOk_by (N := N_read_row) (sc := defScope s_read_row) (own := [("part", 7)]) (by decide +kernel)) (by decide) (i_any (v_slTo (v_var (i := 3) rfl (by first | exact .inl rfl | exact .inr (.inl rfl) | exact .inr (.inr rfl))) (v_var (i := 1) rfl (by first | exact .inl rfl | exact .inr (.inl rfl) | exact .inr (.inr rfl))))) (fun _ _ _ _ _ => (g_name (i := 7) sc_read_row.nd rfl (by first | exact .inl rfl | exact .inr rfl))) (fun _ _ _ _ _ => ts_nil) (fun _ _ _ _ _ => (v_callB T.ok_read_number (hr.mono (by decide)) rfl T.g_read_number T.F_read_number.kp T.bd_read_number passN (a_cons (v_var (i := 7) rfl (by first | exact .inl rfl | exact .inr (.inl rfl) | exact .inr (.inr rfl))) a_nil))))
      (b_cons (s_set (i := 5) sc_read_row.nd rfl (by first | exact .inl rfl | exact .inr rfl) (v_callB T.ok_read_number (hr.mono (by decide)) rfl T.g_read_number T.F_read_number.kp T.bd_read_number passN (a_cons (v_ix (v_var (i := 3) rfl (by first | exact .inl rfl | exact .inr (.inl rfl) | exact .inr (.inr rfl))) (v_addI (v_var (i := 1) rfl (by first | exact .inl rfl | exact .inr (.inl rfl) | exact .inr (.inr rfl))) v_int) (fun _ _ => rfl)) a_nil)))
      (b_cons (s_if (VW.t (w_or (t_isN (v_var (i := 5) rfl (by first | exact .inl rfl | exact .inr (.inl rfl) | exact .inr (.inr rfl))) v_non) (w_or1 (t_in (u65 hr) v_non (v_var (i := 4) rfl (by first | exact .inl rfl | exact .inr (.inl rfl) | exact .inr (.inr rfl))) (by rfl))))) (b_one (s_ret v_non)) b_nil)
      (b_cons (s_for PassesOwn.never rfl (i_any (v_var (i := 4) rfl (by first | exact .inl rfl | exact .inr (.inl rfl) | exact .inr (.inr rfl)))) (g_name (i := 6) sc_read_row.nd rfl (by first | exact .inl rfl | exact .inr rfl)) (b_one (s_if (t_ge (v_var (i := 6) rfl (by first | exact .inl rfl | exact .inr (.inl rfl) | exact .inr (.inr rfl))) (v_var (i := 0) rfl (by first | exact .inl rfl | exact .inr (.inl rfl) | exact .inr (.inr rfl)))) (b_one (s_ret v_non)) b_nil)))
      (b_cons (s_if (t_ne (u64 hr) (v_callB T.ok_total (hr.mono (by decide)) rfl T.g_total T.F_total.kp T.bd_total passN (a_cons (v_var (i := 0) rfl (by first | exact .inl rfl | exact .inr (.inl rfl) | exact .inr (.inr rfl))) (a_cons (v_var (i := 4) rfl (by first | exact .inl rfl | exact .inr (.inl rfl) | exact .inr (.inr rfl))) a_nil))) (v_var (i := 5) rfl (by first | exact .inl rfl | exact .inr (.inl rfl) | exact .inr (.inr rfl)))) (b_one (s_ret v_non)) b_nil)
      (b_one (s_ret (v_var (i := 4) rfl (by first | exact .inl rfl | exact .inr (.inl rfl) | exact .inr (.inr rfl)))))))))))))
theorem Tx.bd_read_board (T : Tx P K mg) : Binds K T.fd_read_board ["mixers", "text"] [] := T.F_read_board.bindsN fun _ _ _ _ _ _ us hl => match us, hl with | [_, _], _ => rfl
theorem Tx.ok_read_board (T : Tx P K mg) : FnOk P w K mg base (L2.CX P w) 3 T.a_read_board T.fd_read_board ["mixers", "text"] (spF K mg 2 φ_read_board) :=
  fn_okX (k := 2) T.F_read_board sc_read_board [false, false] rfl (m := d_read_board) (n := 8) rfl fun cdv A outer s H E hr => ((b_cons (s_set (i := 2) sc_read_board.nd rfl (by first | exact .inl rfl | exact .inr rfl) (v_split (v_var (i := 1) rfl (by first | exact .inl rfl | exact .inr (.inl rfl) | exact .inr (.inr rfl))) v_str))
      (b_cons (s_set (i := 3) sc_read_board.nd rfl (by first | exact .inl rfl | exact .inr rfl) (v_callB T.ok_read_prime (hr.mono (by decide)) rfl T.g_read_prime T.F_read_prime.kp T.bd_read_prime passN (a_cons (v_ix (v_var (i := 2) rfl (by first | exact .inl rfl | exact .inr (.inl rfl) | exact .inr (.inr rfl))) v_int (fun _ _ => rfl)) a_nil)))
      (b_cons (s_if (VW.t (w_or (t_isN (v_var (i := 3) rfl (by first | exact .inl rfl | exact .inr (.inl rfl) | exact .inr (.inr rfl))) v_non) (w_or1 (t_lt (v_var (i := 3) rfl (by first | exact .inl rfl | exact .inr (.inl rfl) | exact .inr (.inr rfl))) v_int)))) (b_one (s_raiseF1 T.e_LineError rfl (hr.mono (by decide)) (takes_of rfl rfl rfl rfl) rfl (a_cons v_int a_nil))) b_nil)
      (b_cons (s_set (i := 4) sc_read_board.nd rfl (by first | exact .inl rfl | exact .inr rfl) (v_lst a_nil))
      (b_cons (s_for (passes_of rfl) rfl (i_enum rfl T.b_enumerate (a_cons (v_slFrom (v_var (i := 2) rfl (by first | exact .inl rfl | exact .inr (.inl rfl) | exact .inr (.inr rfl))) v_int) a_nil)) (g_tup rfl (gs_cons (g_name (i := 5) sc_read_board.nd rfl (by first | exact .inl rfl | exact .inr rfl)) (gs_cons (g_name (i := 6) sc_read_board.nd rfl (by first | exact .inl rfl | exact .inr rfl)) gs_nil))) (b_cons (s_set (i := 7) sc_read_board.nd rfl (by first | exact .inl rfl | exact .inr rfl) (v_call (md := [false, false, false]) T.ok_read_row (hr.mono (by decide)) rfl T.g_read_row T.F_read_row.kp T.bd_read_row passN (a_cons (v_var (i := 3) rfl (by first | exact .inl rfl | exact .inr (.inl rfl) | exact .inr (.inr rfl))) (a_cons (v_var (i := 0) rfl (by first | exact .inl rfl | exact .inr (.inl rfl) | exact .inr (.inr rfl))) (a_cons (v_var (i := 6) rfl (by first | exact .inl rfl | exact .inr (.inl rfl) | exact .inr (.inr rfl))) a_nil)))))
      (b_cons (s_if (t_isN (v_var (i := 7) rfl (by first | exact .inl rfl | exact .inr (.inl rfl) | exact .inr (.inr rfl))) v_non) (b_one (s_raiseF1 T.e_LineError rfl (hr.mono (by decide)) (takes_of rfl rfl rfl rfl) rfl (a_cons (v_addI (v_var (i := 5) rfl (by first | exact .inl rfl | exact .inr (.inl rfl) | exact .inr (.inr rfl))) v_int) a_nil))) b_nil)
      (b_one (s_expr (v_app (i := 4) rfl (by first | exact .inl rfl | exact .inr (.inl rfl) | exact .inr (.inr rfl)) (v_var (i := 7) rfl (by first | exact .inl rfl | exact .inr (.inl rfl) | exact .inr (.inr rfl))) rfl (by decide) (by decide) (fun ho ha => pe_bm PySem.F.plainAttrs_list PySem.F.slot_list_append PySem.F.type_list_append mt_append ho ha)))))))
      (b_one (s_ret (v_tup (a_cons (v_var (i := 3) rfl (by first | exact .inl rfl | exact .inr (.inl rfl) | exact .inr (.inr rfl))) (a_cons (v_var (i := 4) rfl (by first | exact .inl rfl | exact .inr (.inl rfl) | exact .inr (.inr rfl))) a_nil)))))))))))
theorem Tx.bd__law_cell (T : Tx P K mg) : Binds K T.fd__law_cell ["_law_script", "_law_k"] [] := T.F__law_cell.bindsN fun _ _ _ _ _ _ us hl => match us, hl with | [_, _], _ => rfl
theorem Tx.ok__law_cell (T : Tx P K mg) : FnOk P w K mg base CX0 1 T.a__law_cell T.fd__law_cell ["_law_script", "_law_k"] (spF K mg 2 φ__law_cell) :=
  fn_ok (k := 0) T.F__law_cell sc__law_cell [false, false] rfl (m := d__law_cell) (n := 2) rfl fun cdv A outer s H E hr => ((b_cons (s_if (t_lt (v_var (i := 1) rfl (by first | exact .inl rfl | exact .inr (.inl rfl) | exact .inr (.inr rfl))) (v_len rfl T.b_len (a_cons (v_var (i := 0) rfl (by first | exact .inl rfl | exact .inr (.inl rfl) | exact .inr (.inr rfl))) a_nil))) (b_one (s_ret (v_ix (v_var (i := 0) rfl (by first | exact .inl rfl | exact .inr (.inl rfl) | exact .inr (.inr rfl))) (v_var (i := 1) rfl (by first | exact .inl rfl | exact .inr (.inl rfl) | exact .inr (.inr rfl))) (fun _ _ => rfl)))) b_nil)
      (b_one (s_ret v_int))))
theorem Tx.bd__law_row (T : Tx P K mg) : Binds K T.fd__law_row ["_law_cell_here", "_law_k", "_law_many"] [] := T.F__law_row.bindsN fun _ _ _ _ _ _ us hl => match us, hl with | [_, _, _], _ => rfl
theorem Tx.ok__law_row (T : Tx P K mg) : FnOk P w K mg base CX0 1 T.a__law_row T.fd__law_row ["_law_cell_here", "_law_k", "_law_many"] (spF K mg 3 φ__law_row) :=
  fn_ok (k := 0) T.F__law_row sc__law_row [false, false, false] rfl (m := d__law_row) (n := 6) rfl fun cdv A outer s H E hr => ((b_cons (s_set (i := 3) sc__law_row.nd rfl (by first | exact .inl rfl | exact .inr rfl) (v_lst a_nil))
      (b_cons (s_if (t_lt (v_var (i := 0) rfl (by first | exact .inl rfl | exact .inr (.inl rfl) | exact .inr (.inr rfl))) v_int) (b_one (s_set (i := 0) sc__law_row.nd rfl (by first | exact .inl rfl | exact .inr rfl) (v_sub v_int (v_mul v_int (v_var (i := 0) rfl (by first | exact .inl rfl | exact .inr (.inl rfl) | exact .inr (.inr rfl))))))) b_nil)
      (b_cons (s_if (t_ge (v_var (i := 0) rfl (by first | exact .inl rfl | exact .inr (.inl rfl) | exact .inr (.inr rfl))) (v_pow v_int v_int)) (b_cons (s_for PassesOwn.never rfl (i_rng1 rfl T.b_range (a_cons v_int a_nil)) (g_name (i := 5) sc__law_row.nd rfl (by first | exact .inl rfl | exact .inr rfl)) (b_one (s_if (VW.t (w_and (t_gt (v_var (i := 0) rfl (by first | exact .inl rfl | exact .inr (.inl rfl) | exact .inr (.inr rfl))) v_int) (w_and1 (t_lt (v_len rfl T.b_len (a_cons (v_var (i := 3) rfl (by first | exact .inl rfl | exact .inr (.inl rfl) | exact .inr (.inr rfl))) a_nil)) (v_var (i := 2) rfl (by first | exact .inl rfl | exact .inr (.inl rfl) | exact .inr (.inr rfl))))))) (b_cons (s_expr (v_app (i := 3) rfl (by first | exact .inl rfl | exact .inr (.inl rfl) | exact .inr (.inr rfl)) (v_mod (v_callInt rfl T.b_int (a_cons (v_var (i := 0) rfl (by first | exact .inl rfl | exact .inr (.inl rfl) | exact .inr (.inr rfl))) a_nil)) v_int) rfl (by decide) (by decide) (fun ho ha => pe_bm PySem.F.plainAttrs_list PySem.F.slot_list_append PySem.F.type_list_append mt_append ho ha)))
      (b_one (s_set (i := 0) sc__law_row.nd rfl (by first | exact .inl rfl | exact .inr rfl) (v_div (v_var (i := 0) rfl (by first | exact .inl rfl | exact .inr (.inl rfl) | exact .inr (.inr rfl))) v_int)))) b_nil)))
      (b_one (s_ret (v_var (i := 3) rfl (by first | exact .inl rfl | exact .inr (.inl rfl) | exact .inr (.inr rfl)))))) b_nil)
      (b_cons (s_set (i := 4) sc__law_row.nd rfl (by first | exact .inl rfl | exact .inr rfl) (v_mod (v_callInt rfl T.b_int (a_cons (v_addI (v_addI (v_mul (v_var (i := 0) rfl (by first | exact .inl rfl | exact .inr (.inl rfl) | exact .inr (.inr rfl))) v_int) (v_mul (v_var (i := 1) rfl (by first | exact .inl rfl | exact .inr (.inl rfl) | exact .inr (.inr rfl))) v_int)) v_int) a_nil)) v_int))
      (b_cons (s_for PassesOwn.never rfl (i_rng1 rfl T.b_range (a_cons (v_var (i := 2) rfl (by first | exact .inl rfl | exact .inr (.inl rfl) | exact .inr (.inr rfl))) a_nil)) (g_name (i := 5) sc__law_row.nd rfl (by first | exact .inl rfl | exact .inr rfl)) (b_cons (s_set (i := 4) sc__law_row.nd rfl (by first | exact .inl rfl | exact .inr rfl) (v_mod (v_callInt rfl T.b_int (a_cons (v_addI (v_addI (v_mul (v_var (i := 4) rfl (by first | exact .inl rfl | exact .inr (.inl rfl) | exact .inr (.inr rfl))) v_int) (v_mul v_int (v_var (i := 5) rfl (by first | exact .inl rfl | exact .inr (.inl rfl) | exact .inr (.inr rfl))))) v_int) a_nil)) v_int))
      (b_one (s_expr (v_app (i := 3) rfl (by first | exact .inl rfl | exact .inr (.inl rfl) | exact .inr (.inr rfl)) (v_mod (v_callInt rfl T.b_int (a_cons (v_div (v_var (i := 4) rfl (by first | exact .inl rfl | exact .inr (.inl rfl) | exact .inr (.inr rfl))) v_int) a_nil)) v_int) rfl (by decide) (by decide) (fun ho ha => pe_bm PySem.F.plainAttrs_list PySem.F.slot_list_append PySem.F.type_list_append mt_append ho ha))))))
      (b_one (s_ret (v_var (i := 3) rfl (by first | exact .inl rfl | exact .inr (.inl rfl) | exact .inr (.inr rfl)))))))))))
theorem Tx.bd__law_box (T : Tx P K mg) : Binds K T.fd__law_box ["_law_script", "_law_first", "_law_last"] [] := T.F__law_box.bindsN fun _ _ _ _ _ _ us hl => match us, hl with | [_, _, _], _ => rfl
theorem Tx.ok__law_box (T : Tx P K mg) : FnOk P w K mg base CX0 2 T.a__law_box T.fd__law_box ["_law_script", "_law_first", "_law_last"] (spF K mg 3 φ__law_box) :=
  fn_ok (k := 1) T.F__law_box sc__law_box [false, false, false] rfl (m := d__law_box) (n := 5) rfl fun cdv A outer s H E hr => ((b_cons (s_set (i := 3) sc__law_box.nd rfl (by first | exact .inl rfl | exact .inr rfl) (v_lst a_nil))
      (b_cons (s_for PassesOwn.never rfl (i_rng2 rfl T.b_range (a_cons (v_var (i := 1) rfl (by first | exact .inl rfl | exact .inr (.inl rfl) | exact .inr (.inr rfl))) (a_cons (v_var (i := 2) rfl (by first | exact .inl rfl | exact .inr (.inl rfl) | exact .inr (.inr rfl))) a_nil))) (g_name (i := 4) sc__law_box.nd rfl (by first | exact .inl rfl | exact .inr rfl)) (b_one (s_set (i := 3) sc__law_box.nd rfl (by first | exact .inl rfl | exact .inr rfl) (v_addL (v_var (i := 3) rfl (by first | exact .inl rfl | exact .inr (.inl rfl) | exact .inr (.inr rfl))) (v_call (md := [false, false, false]) T.ok__law_row (hr.mono (by decide)) rfl T.g__law_row T.F__law_row.kp T.bd__law_row passN (a_cons (v_call (md := [false, false]) T.ok__law_cell (hr.mono (by decide)) rfl T.g__law_cell T.F__law_cell.kp T.bd__law_cell passN (a_cons (v_var (i := 0) rfl (by first | exact .inl rfl | exact .inr (.inl rfl) | exact .inr (.inr rfl))) (a_cons (v_var (i := 4) rfl (by first | exact .inl rfl | exact .inr (.inl rfl) | exact .inr (.inr rfl))) a_nil))) (a_cons (v_var (i := 4) rfl (by first | exact .inl rfl | exact .inr (.inl rfl) | exact .inr (.inr rfl))) (a_cons v_int a_nil))))))))
      (b_one (s_ret (v_lst (a_cons (v_var (i := 3) rfl (by first | exact .inl rfl | exact .inr (.inl rfl) | exact .inr (.inr rfl))) (a_cons v_int a_nil))))))))
theorem Tx.bd__law_draw (T : Tx P K mg) : Binds K T.fd__law_draw ["_law_box_here", "_law_many"] [] := T.F__law_draw.bindsN fun _ _ _ _ _ _ us hl => match us, hl with | [_, _], _ => rfl
theorem Tx.ok__law_draw (T : Tx P K mg) : FnOk P w K mg base CX0 1 T.a__law_draw T.fd__law_draw ["_law_box_here", "_law_many"] (spF K mg 2 φ__law_draw) :=
  fn_ok (k := 0) T.F__law_draw sc__law_draw [true, false] rfl (m := d__law_draw) (n := 3) rfl fun cdv A outer s H E hr => ((b_cons (s_set (i := 2) sc__law_draw.nd rfl (by first | exact .inl rfl | exact .inr rfl) (v_ix (v_var (i := 0) rfl (by first | exact .inl rfl | exact .inr (.inl rfl) | exact .inr (.inr rfl))) v_int (fun _ _ => rfl)))
      (b_cons (s_setIx (j := 0) rfl (by first | exact .inl rfl | exact .inr (.inl rfl) | exact .inr (.inr rfl)) v_int (v_addI (v_var (i := 2) rfl (by first | exact .inl rfl | exact .inr (.inl rfl) | exact .inr (.inr rfl))) v_int) (fun ho hi => pg_sub ho hi set_list))
      (b_cons (s_if (t_lt (v_var (i := 2) rfl (by first | exact .inl rfl | exact .inr (.inl rfl) | exact .inr (.inr rfl))) (v_len rfl T.b_len (a_cons (v_ix (v_var (i := 0) rfl (by first | exact .inl rfl | exact .inr (.inl rfl) | exact .inr (.inr rfl))) v_int (fun _ _ => rfl)) a_nil))) (b_one (s_ret (v_mod (v_callInt rfl T.b_int (a_cons (v_ix (v_ix (v_var (i := 0) rfl (by first | exact .inl rfl | exact .inr (.inl rfl) | exact .inr (.inr rfl))) v_int (fun _ _ => rfl)) (v_var (i := 2) rfl (by first | exact .inl rfl | exact .inr (.inl rfl) | exact .inr (.inr rfl))) (fun _ _ => rfl)) a_nil)) (v_var (i := 1) rfl (by first | exact .inl rfl | exact .inr (.inl rfl) | exact .inr (.inr rfl)))))) b_nil)
      (b_one (s_ret (v_mod (v_callInt rfl T.b_int (a_cons (v_addI (v_mul (v_var (i := 2) rfl (by first | exact .inl rfl | exact .inr (.inl rfl) | exact .inr (.inr rfl))) v_int) v_int) a_nil)) (v_var (i := 1) rfl (by first | exact .inl rfl | exact .inr (.inl rfl) | exact .inr (.inr rfl))))))))))
theorem Tx.bd__law_same (T : Tx P K mg) : Binds K T.fd__law_same ["_law_one", "_law_other"] [] := T.F__law_same.bindsN fun _ _ _ _ _ _ us hl => match us, hl with | [_, _], _ => rfl
theorem Tx.ok__law_same (T : Tx P K mg) : FnOkG P w K mg base 1 T.a__law_same T.fd__law_same ["_law_one", "_law_other"] (spF K mg 2 φ__law_same) :=
  fn_okG (k := 0) T.F__law_same sc__law_same [false, false] rfl (m := d__law_same) (n := 2) rfl fun cdv A outer s H E hr hgd => ((b_one (s_ret (v_eqS (v_repr hgd (u64 hr) rfl T.b_repr (a_cons (v_var (i := 0) rfl (by first | exact .inl rfl | exact .inr (.inl rfl) | exact .inr (.inr rfl))) a_nil)) (v_repr hgd (u64 hr) rfl T.b_repr (a_cons (v_var (i := 1) rfl (by first | exact .inl rfl | exact .inr (.inl rfl) | exact .inr (.inr rfl))) a_nil))))))
theorem Tx.bd__law_plain (T : Tx P K mg) : Binds K T.fd__law_plain ["_law_text"] [] := T.F__law_plain.bindsN fun _ _ _ _ _ _ us hl => match us, hl with | [_], _ => rfl
theorem Tx.ok__law_plain (T : Tx P K mg) : FnOk P w K mg base CX0 1 T.a__law_plain T.fd__law_plain ["_law_text"] (spF K mg 1 φ__law_plain) :=
  fn_ok (k := 0) T.F__law_plain sc__law_plain [false] rfl (m := d__law_plain) (n := 2) rfl fun cdv A outer s H E hr => ((b_one (s_ret (v_and (v_ne (u64 hr) (v_var (i := 0) rfl (by first | exact .inl rfl | exact .inr (.inl rfl) | exact .inr (.inr rfl))) v_str) (v_and (v_lt (v_len rfl T.b_len (a_cons (v_var (i := 0) rfl (by first | exact .inl rfl | exact .inr (.inl rfl) | exact .inr (.inr rfl))) a_nil)) v_int) (v_and (v_eq (u64 hr) (v_comp (sc := defScope s__law_plain) (own := [("_law_sign", 1)]) rfl sc__law_plain.nd (by rfl) (blkOk_by (N := N__law_plain) (sc := defScope s__law_plain) (own := [("_law_sign", 1)]) (by decide +kernel)) (by decide) (i_any (v_var (i := 0) rfl (by first | exact .inl rfl | exact .inr (.inl rfl) | exact .inr (.inr rfl)))) (fun _ _ _ _ _ => (g_name (i := 1) sc__law_plain.nd rfl (by first | exact .inl rfl | exact .inr rfl))) (fun _ _ _ _ _ => (ts_one (t_notIn (u65 hr) (v_var (i := 1) rfl (by first | exact .inl rfl | exact .inr (.inl rfl) | exact .inr (.inr rfl))) v_str (by rfl)))) (fun _ _ _ _ _ => (v_var (i := 1) rfl (by first | exact .inl rfl | exact .inr (.inl rfl) | exact .inr (.inr rfl))))) (v_lst a_nil)) (v_one (v_or (v_eq (u64 hr) (v_var (i := 0) rfl (by first | exact .inl rfl | exact .inr (.inl rfl) | exact .inr (.inr rfl))) v_str) (v_one (v_ne (u64 hr) (v_ix (v_var (i := 0) rfl (by first | exact .inl rfl | exact .inr (.inl rfl) | exact .inr (.inr rfl))) v_int (fun _ _ => rfl)) v_str))))))))))
theorem Tx.bd__law_good (T : Tx P K mg) : Binds K T.fd__law_good ["_law_mixers", "_law_prime", "_law_line"] [] := T.F__law_good.bindsN fun _ _ _ _ _ _ us hl => match us, hl with | [_, _, _], _ => rfl
theorem Tx.ok__law_good (T : Tx P K mg) : FnOk P w K mg base CX0 2 T.a__law_good T.fd__law_good ["_law_mixers", "_law_prime", "_law_line"] (spF K mg 3 φ__law_good) :=
  fn_ok (k := 1) T.F__law_good sc__law_good [false, false, false] rfl (m := d__law_good) (n := 7) rfl fun cdv A outer s H E hr => ((b_cons (s_set (i := 3) sc__law_good.nd rfl (by first | exact .inl rfl | exact .inr rfl) (v_split (v_var (i := 2) rfl (by first | exact .inl rfl | exact .inr (.inl rfl) | exact .inr (.inr rfl))) v_str))
      (b_cons (s_if (VW.t (w_or (t_ne (u64 hr) (v_len rfl T.b_len (a_cons (v_var (i := 3) rfl (by first | exact .inl rfl | exact .inr (.inl rfl) | exact .inr (.inr rfl))) a_nil)) (v_addI (v_var (i := 0) rfl (by first | exact .inl rfl | exact .inr (.inl rfl) | exact .inr (.inr rfl))) v_int)) (w_or1 (t_ne (u64 hr) (v_ix (v_var (i := 3) rfl (by first | exact .inl rfl | exact .inr (.inl rfl) | exact .inr (.inr rfl))) (v_var (i := 0) rfl (by first | exact .inl rfl | exact .inr (.inl rfl) | exact .inr (.inr rfl))) (fun _ _ => rfl)) v_str)))) (b_one (s_ret v_bl)) b_nil)
      (b_cons (s_set (i := 4) sc__law_good.nd rfl (by first | exact .inl rfl | exact .inr rfl) (v_addL (v_slTo (v_var (i := 3) rfl (by first | exact .inl rfl | exact .inr (.inl rfl) | exact .inr (.inr rfl))) (v_var (i := 0) rfl (by first | exact .inl rfl | exact .inr (.inl rfl) | exact .inr (.inr rfl)))) (v_slFrom (v_var (i := 3) rfl (by first | exact .inl rfl | exact .inr (.inl rfl) | exact .inr (.inr rfl))) (v_addI (v_var (i := 0) rfl (by first | exact .inl rfl | exact .inr (.inl rfl) | exact .inr (.inr rfl))) v_int))))
      (b_cons (s_if (t_tru (v_comp (sc := defScope s__law_good) (own := [("_law_part", 6)]) rfl sc__law_good.nd (by rfl) (blkOk_by (N := N__law_good) (sc := defScope s__law_good) (own := [("_law_part", 6)]) (by decide +kernel)) (by decide) (i_any (v_var (i := 4) rfl (by first | exact .inl rfl | exact .inr (.inl rfl) | exact .inr (.inr rfl)))) (fun _ _ _ _ _ => (g_name (i := 6) sc__law_good.nd rfl (by first | exact .inl rfl | exact .inr rfl))) (fun _ _ _ _ _ => (ts_one (t_not (t_tru (v_callB T.ok__law_plain (hr.mono (by decide)) rfl T.g__law_plain T.F__law_plain.kp T.bd__law_plain passN (a_cons (v_var (i := 6) rfl (by first | exact .inl rfl | exact .inr (.inl rfl) | exact .inr (.inr rfl))) a_nil)))))) (fun _ _ _ _ _ => (v_var (i := 6) rfl (by first | exact .inl rfl | exact .inr (.inl rfl) | exact .inr (.inr rfl)))))) (b_one (s_ret v_bl)) b_nil)
      (b_cons (s_setComp (i := 5) (sc := defScope s__law_good) (own := [("_law_part", 6)]) rfl sc__law_good.nd rfl rfl (sw_true rfl rfl rfl (by decide +kernel)) (by rfl) (blkOk_by (N := N__law_good) (sc := defScope s__law_good) (own := [("_law_part", 6)]) (by decide +kernel)) (by decide) (i_any (v_slTo (v_var (i := 3) rfl (by first | exact .inl rfl | exact .inr (.inl rfl) | exact .inr (.inr rfl))) (v_var (i := 0) rfl (by first | exact .inl rfl | exact .inr (.inl rfl) | exact .inr (.inr rfl))))) (fun _ _ _ _ _ => (g_name (i := 6) sc__law_good.nd rfl (by first | exact .inl rfl | exact .inr rfl))) (fun _ _ _ _ _ => ts_nil) (fun _ _ _ _ _ => (v_intS rfl T.b_int (a_cons (v_var (i := 6) rfl (by first | exact .inl rfl | exact .inr (.inl rfl) | exact .inr (.inr rfl))) a_nil))))
      (b_one (s_ret (v_and (v_lt (v_max rfl rfl T.b_max (a_cons (v_var (i := 5) rfl (by first | exact .inl rfl | exact .inr (.inl rfl) | exact .inr (.inr rfl))) a_nil)) (v_var (i := 1) rfl (by first | exact .inl rfl | exact .inr (.inl rfl) | exact .inr (.inr rfl)))) (v_one (v_eq (u64 hr) (v_mod (v_callInt rfl T.b_int (a_cons (v_sum rfl rfl T.b_sum (a_cons (v_var (i := 5) rfl (by first | exact .inl rfl | exact .inr (.inl rfl) | exact .inr (.inr rfl))) a_nil)) a_nil)) (v_var (i := 1) rfl (by first | exact .inl rfl | exact .inr (.inl rfl) | exact .inr (.inr rfl)))) (v_intS rfl T.b_int (a_cons (v_ix (v_var (i := 3) rfl (by first | exact .inl rfl | exact .inr (.inl rfl) | exact .inr (.inr rfl))) v_neg (fun _ _ => rfl)) a_nil)))))))))))))
theorem Tx.bd__law_read (T : Tx P K mg) : Binds K T.fd__law_read ["_law_mixers", "_law_text"] [] := T.F__law_read.bindsN fun _ _ _ _ _ _ us hl => match us, hl with | [_, _], _ => rfl
theorem Tx.ok__law_read (T : Tx P K mg) : FnOk P w K mg base CX0 4 T.a__law_read T.fd__law_read ["_law_mixers", "_law_text"] (spF K mg 2 φ__law_read) :=
  fn_ok (k := 3) T.F__law_read sc__law_read [false, false] rfl (m := d__law_read) (n := 3) rfl fun cdv A outer s H E hr => ((b_one (s_tryX (i := 2) rfl rfl sc__law_read.nd rfl (by first | rfl | decide +kernel) ⟨rfl, by decide, .inl T.g_LineError⟩ takesE0 (CatT.hm (show CatT _ _ (.ref T.c_LineError) ["LineError"] from (.cons T.g_LineError T.m_LineError_LineError .nil)) _) (fun E pn xe tk hpo => (b_one (s_ret (v_call (md := [false, false]) T.ok_read_board (hr.mono (by decide)) rfl T.g_read_board T.F_read_board.kp T.bd_read_board (passT tk) (a_cons (v_var (i := 0) rfl (by first | exact .inl rfl | exact .inr (.inl rfl) | exact .inr (.inr rfl))) (a_cons (v_var (i := 1) rfl (by first | exact .inl rfl | exact .inr (.inl rfl) | exact .inr (.inr rfl))) a_nil)))))) (su_on ["LineError"] (su_retT (.cons (su_c (v := .str "line") rfl fun _ _ => pe_str) (fun _ => rfl) (.cons (su_fld (show FldT _ _ "line" ["LineError"] from (.cons T.g_LineError T.f_LineError T.n_LineError_line .nil)) rfl (by first | exact .inl rfl | exact .inr (.inl rfl) | exact .inr (.inr rfl)) (fun _ => rfl)) (fun _ => rfl) .nil)))))))
theorem Tx.ok_law (T : Tx P K mg) : FnOkG P w K mg base 5 T.a_law T.fd_law ["_law_script"] (spF K mg 1 φ_law) :=
  fn_okG (k := 4) T.F_law sc_law [false] rfl (m := d_law) (n := 18) rfl fun cdv A outer s H E hr hgd => ((b_cons (s_set (i := 1) sc_law.nd rfl (by first | exact .inl rfl | exact .inr rfl) (v_call (md := [false, false, false]) T.ok__law_box (hr.mono (by decide)) rfl T.g__law_box T.F__law_box.kp T.bd__law_box passN (a_cons (v_var (i := 0) rfl (by first | exact .inl rfl | exact .inr (.inl rfl) | exact .inr (.inr rfl))) (a_cons v_int (a_cons v_int a_nil)))))
      (b_cons (s_set (i := 2) sc_law.nd rfl (by first | exact .inl rfl | exact .inr rfl) (v_ix (v_lst (a_cons v_int (a_cons v_int (a_cons v_int (a_cons v_int (a_cons v_int (a_cons v_int (a_cons v_int (a_cons v_int a_nil))))))))) (v_call (md := [true, false]) T.ok__law_draw (hr.mono (by decide)) rfl T.g__law_draw T.F__law_draw.kp T.bd__law_draw passN (a_cons (v_var (i := 1) rfl (by first | exact .inl rfl | exact .inr (.inl rfl) | exact .inr (.inr rfl))) (a_cons v_int a_nil))) (fun _ _ => rfl)))
      (b_cons (s_set (i := 3) sc_law.nd rfl (by first | exact .inl rfl | exact .inr rfl) (v_addI v_int (v_call (md := [true, false]) T.ok__law_draw (hr.mono (by decide)) rfl T.g__law_draw T.F__law_draw.kp T.bd__law_draw passN (a_cons (v_var (i := 1) rfl (by first | exact .inl rfl | exact .inr (.inl rfl) | exact .inr (.inr rfl))) (a_cons v_int a_nil)))))
      (b_cons (s_set (i := 4) sc_law.nd rfl (by first | exact .inl rfl | exact .inr rfl) (v_lst a_nil))
      (b_cons (s_for PassesOwn.never rfl (i_rng1 rfl T.b_range (a_cons (v_call (md := [true, false]) T.ok__law_draw (hr.mono (by decide)) rfl T.g__law_draw T.F__law_draw.kp T.bd__law_draw passN (a_cons (v_var (i := 1) rfl (by first | exact .inl rfl | exact .inr (.inl rfl) | exact .inr (.inr rfl))) (a_cons v_int a_nil))) a_nil)) (g_name (i := 5) sc_law.nd rfl (by first | exact .inl rfl | exact .inr rfl)) (b_one (s_expr (v_app (i := 4) rfl (by first | exact .inl rfl | exact .inr (.inl rfl) | exact .inr (.inr rfl)) (v_comp (sc := defScope s_law) (own := [("_law_mixer", 16)]) rfl sc_law.nd (by rfl) (blkOk_by (N := N_law) (sc := defScope s_law) (own := [("_law_mixer", 16)]) (by decide +kernel)) (by decide) (i_rng1 rfl T.b_range (a_cons (v_var (i := 3) rfl (by first | exact .inl rfl | exact .inr (.inl rfl) | exact .inr (.inr rfl))) a_nil)) (fun _ _ _ _ _ => (g_name (i := 16) sc_law.nd rfl (by first | exact .inl rfl | exact .inr rfl))) (fun _ _ _ _ _ => ts_nil) (fun _ _ _ _ _ => (v_mod (v_callInt rfl T.b_int (a_cons (v_call (md := [true, false]) T.ok__law_draw (hr.mono (by decide)) rfl T.g__law_draw T.F__law_draw.kp T.bd__law_draw passN (a_cons (v_var (i := 1) rfl (by first | exact .inl rfl | exact .inr (.inl rfl) | exact .inr (.inr rfl))) (a_cons v_int a_nil))) a_nil)) (v_var (i := 2) rfl (by first | exact .inl rfl | exact .inr (.inl rfl) | exact .inr (.inr rfl)))))) rfl (by decide) (by decide) (fun ho ha => pe_bm PySem.F.plainAttrs_list PySem.F.slot_list_append PySem.F.type_list_append mt_append ho ha)))))
      (b_cons (s_set (i := 6) sc_law.nd rfl (by first | exact .inl rfl | exact .inr rfl) (v_lst (a_cons (v_addS v_str (v_strI rfl T.b_str (a_cons (v_var (i := 2) rfl (by first | exact .inl rfl | exact .inr (.inl rfl) | exact .inr (.inr rfl))) a_nil))) a_nil)))
      (b_cons (s_for PassesOwn.never rfl (i_any (v_var (i := 4) rfl (by first | exact .inl rfl | exact .inr (.inl rfl) | exact .inr (.inr rfl)))) (g_name (i := 5) sc_law.nd rfl (by first | exact .inl rfl | exact .inr rfl)) (b_cons (s_expr (v_app (i := 6) rfl (by first | exact .inl rfl | exact .inr (.inl rfl) | exact .inr (.inr rfl)) (v_addS (v_addS (v_join v_str (v_comp (sc := defScope s_law) (own := [("_law_share", 17)]) rfl sc_law.nd (by rfl) (blkOk_by (N := N_law) (sc := defScope s_law) (own := [("_law_share", 17)]) (by decide +kernel)) (by decide) (i_any (v_var (i := 5) rfl (by first | exact .inl rfl | exact .inr (.inl rfl) | exact .inr (.inr rfl)))) (fun _ _ _ _ _ => (g_name (i := 17) sc_law.nd rfl (by first | exact .inl rfl | exact .inr rfl))) (fun _ _ _ _ _ => ts_nil) (fun _ _ _ _ _ => (v_strI rfl T.b_str (a_cons (v_var (i := 17) rfl (by first | exact .inl rfl | exact .inr (.inl rfl) | exact .inr (.inr rfl))) a_nil))))) v_str) (v_strI rfl T.b_str (a_cons (v_mod (v_callInt rfl T.b_int (a_cons (v_sum rfl rfl T.b_sum (a_cons (v_var (i := 5) rfl (by first | exact .inl rfl | exact .inr (.inl rfl) | exact .inr (.inr rfl))) a_nil)) a_nil)) (v_var (i := 2) rfl (by first | exact .inl rfl | exact .inr (.inl rfl) | exact .inr (.inr rfl)))) a_nil))) rfl (by decide) (by decide) (fun ho ha => pe_bm PySem.F.plainAttrs_list PySem.F.slot_list_append PySem.F.type_list_append mt_append ho ha)))
      (b_one (s_if (t_ne (u64 hr) (v_callB T.ok_write_row (hr.mono (by decide)) rfl T.g_write_row T.F_write_row.kp T.bd_write_row passN (a_cons (v_var (i := 5) rfl (by first | exact .inl rfl | exact .inr (.inl rfl) | exact .inr (.inr rfl))) a_nil)) (v_join v_str (v_comp (sc := defScope s_law) (own := [("_law_share", 17)]) rfl sc_law.nd (by rfl) (blkOk_by (N := N_law) (sc := defScope s_law) (own := [("_law_share", 17)]) (by decide +kernel)) (by decide) (i_any (v_var (i := 5) rfl (by first | exact .inl rfl | exact .inr (.inl rfl) | exact .inr (.inr rfl)))) (fun _ _ _ _ _ => (g_name (i := 17) sc_law.nd rfl (by first | exact .inl rfl | exact .inr rfl))) (fun _ _ _ _ _ => ts_nil) (fun _ _ _ _ _ => (v_strI rfl T.b_str (a_cons (v_var (i := 17) rfl (by first | exact .inl rfl | exact .inr (.inl rfl) | exact .inr (.inr rfl))) a_nil)))))) (b_one (s_ret v_bl)) b_nil))))
      (b_cons (s_set (i := 7) sc_law.nd rfl (by first | exact .inl rfl | exact .inr rfl) (v_join v_str (v_var (i := 6) rfl (by first | exact .inl rfl | exact .inr (.inl rfl) | exact .inr (.inr rfl)))))
      (b_cons (s_if (VW.t (w_or (t_not (t_tru (v_callBG T.ok__law_same (hr.mono (by decide)) hgd rfl T.g__law_same T.F__law_same.kp T.bd__law_same (a_cons (v_callB T.ok_write_board (hr.mono (by decide)) rfl T.g_write_board T.F_write_board.kp T.bd_write_board passN (a_cons (v_var (i := 2) rfl (by first | exact .inl rfl | exact .inr (.inl rfl) | exact .inr (.inr rfl))) (a_cons (v_var (i := 4) rfl (by first | exact .inl rfl | exact .inr (.inl rfl) | exact .inr (.inr rfl))) a_nil))) (a_cons (v_var (i := 7) rfl (by first | exact .inl rfl | exact .inr (.inl rfl) | exact .inr (.inr rfl))) a_nil))))) (w_or1 (t_not (t_tru (v_callBG T.ok__law_same (hr.mono (by decide)) hgd rfl T.g__law_same T.F__law_same.kp T.bd__law_same (a_cons (v_call (md := [false, false]) T.ok__law_read (hr.mono (by decide)) rfl T.g__law_read T.F__law_read.kp T.bd__law_read passN (a_cons (v_var (i := 3) rfl (by first | exact .inl rfl | exact .inr (.inl rfl) | exact .inr (.inr rfl))) (a_cons (v_var (i := 7) rfl (by first | exact .inl rfl | exact .inr (.inl rfl) | exact .inr (.inr rfl))) a_nil))) (a_cons (v_tup (a_cons (v_var (i := 2) rfl (by first | exact .inl rfl | exact .inr (.inl rfl) | exact .inr (.inr rfl))) (a_cons (v_var (i := 4) rfl (by first | exact .inl rfl | exact .inr (.inl rfl) | exact .inr (.inr rfl))) a_nil))) a_nil)))))))) (b_one (s_ret v_bl)) b_nil)
      (b_cons (s_set (i := 8) sc_law.nd rfl (by first | exact .inl rfl | exact .inr rfl) (v_mod (v_callInt rfl T.b_int (a_cons (v_call (md := [true, false]) T.ok__law_draw (hr.mono (by decide)) rfl T.g__law_draw T.F__law_draw.kp T.bd__law_draw passN (a_cons (v_var (i := 1) rfl (by first | exact .inl rfl | exact .inr (.inl rfl) | exact .inr (.inr rfl))) (a_cons v_int a_nil))) a_nil)) (v_len rfl T.b_len (a_cons (v_var (i := 7) rfl (by first | exact .inl rfl | exact .inr (.inl rfl) | exact .inr (.inr rfl))) a_nil))))
      (b_cons (s_set (i := 9) sc_law.nd rfl (by first | exact .inl rfl | exact .inr rfl) (v_addS (v_addS (v_slSTo (v_var (i := 7) rfl (by first | exact .inl rfl | exact .inr (.inl rfl) | exact .inr (.inr rfl))) (v_var (i := 8) rfl (by first | exact .inl rfl | exact .inr (.inl rfl) | exact .inr (.inr rfl)))) (v_ix v_str (v_call (md := [true, false]) T.ok__law_draw (hr.mono (by decide)) rfl T.g__law_draw T.F__law_draw.kp T.bd__law_draw passN (a_cons (v_var (i := 1) rfl (by first | exact .inl rfl | exact .inr (.inl rfl) | exact .inr (.inr rfl))) (a_cons v_int a_nil))) (fun _ _ => rfl))) (v_slSFrom (v_var (i := 7) rfl (by first | exact .inl rfl | exact .inr (.inl rfl) | exact .inr (.inr rfl))) (v_addI (v_var (i := 8) rfl (by first | exact .inl rfl | exact .inr (.inl rfl) | exact .inr (.inr rfl))) (v_call (md := [true, false]) T.ok__law_draw (hr.mono (by decide)) rfl T.g__law_draw T.F__law_draw.kp T.bd__law_draw passN (a_cons (v_var (i := 1) rfl (by first | exact .inl rfl | exact .inr (.inl rfl) | exact .inr (.inr rfl))) (a_cons v_int a_nil)))))))
      (b_cons (s_set (i := 10) sc_law.nd rfl (by first | exact .inl rfl | exact .inr rfl) (v_split (v_var (i := 9) rfl (by first | exact .inl rfl | exact .inr (.inl rfl) | exact .inr (.inr rfl))) v_str))
      (b_cons (s_set (i := 11) sc_law.nd rfl (by first | exact .inl rfl | exact .inr rfl) (v_split (v_ix (v_var (i := 10) rfl (by first | exact .inl rfl | exact .inr (.inl rfl) | exact .inr (.inr rfl))) v_int (fun _ _ => rfl)) v_str))
      (b_cons (s_if (VW.t (w_or (t_ne (u64 hr) (v_len rfl T.b_len (a_cons (v_var (i := 11) rfl (by first | exact .inl rfl | exact .inr (.inl rfl) | exact .inr (.inr rfl))) a_nil)) v_int) (w_or (t_ne (u64 hr) (v_ix (v_var (i := 11) rfl (by first | exact .inl rfl | exact .inr (.inl rfl) | exact .inr (.inr rfl))) v_int (fun _ _ => rfl)) v_str) (w_or (t_not (t_tru (v_callB T.ok__law_plain (hr.mono (by decide)) rfl T.g__law_plain T.F__law_plain.kp T.bd__law_plain passN (a_cons (v_ix (v_var (i := 11) rfl (by first | exact .inl rfl | exact .inr (.inl rfl) | exact .inr (.inr rfl))) v_int (fun _ _ => rfl)) a_nil)))) (w_or1 (t_lt (v_intS rfl T.b_int (a_cons (v_ix (v_var (i := 11) rfl (by first | exact .inl rfl | exact .inr (.inl rfl) | exact .inr (.inr rfl))) v_int (fun _ _ => rfl)) a_nil)) v_int)))))) (b_one (s_ret (v_callBG T.ok__law_same (hr.mono (by decide)) hgd rfl T.g__law_same T.F__law_same.kp T.bd__law_same (a_cons (v_call (md := [false, false]) T.ok__law_read (hr.mono (by decide)) rfl T.g__law_read T.F__law_read.kp T.bd__law_read passN (a_cons (v_var (i := 3) rfl (by first | exact .inl rfl | exact .inr (.inl rfl) | exact .inr (.inr rfl))) (a_cons (v_var (i := 9) rfl (by first | exact .inl rfl | exact .inr (.inl rfl) | exact .inr (.inr rfl))) a_nil))) (a_cons (v_tup (a_cons v_str (a_cons v_int a_nil))) a_nil))))) b_nil)
      (b_cons (s_for PassesOwn.never rfl (i_rng2 rfl T.b_range (a_cons v_int (a_cons (v_len rfl T.b_len (a_cons (v_var (i := 10) rfl (by first | exact .inl rfl | exact .inr (.inl rfl) | exact .inr (.inr rfl))) a_nil)) a_nil))) (g_name (i := 12) sc_law.nd rfl (by first | exact .inl rfl | exact .inr rfl)) (b_one (s_if (t_not (t_tru (v_callB T.ok__law_good (hr.mono (by decide)) rfl T.g__law_good T.F__law_good.kp T.bd__law_good passN (a_cons (v_var (i := 3) rfl (by first | exact .inl rfl | exact .inr (.inl rfl) | exact .inr (.inr rfl))) (a_cons (v_intS rfl T.b_int (a_cons (v_ix (v_var (i := 11) rfl (by first | exact .inl rfl | exact .inr (.inl rfl) | exact .inr (.inr rfl))) v_int (fun _ _ => rfl)) a_nil)) (a_cons (v_ix (v_var (i := 10) rfl (by first | exact .inl rfl | exact .inr (.inl rfl) | exact .inr (.inr rfl))) (v_var (i := 12) rfl (by first | exact .inl rfl | exact .inr (.inl rfl) | exact .inr (.inr rfl))) (fun _ _ => rfl)) a_nil)))))) (b_one (s_ret (v_callBG T.ok__law_same (hr.mono (by decide)) hgd rfl T.g__law_same T.F__law_same.kp T.bd__law_same (a_cons (v_call (md := [false, false]) T.ok__law_read (hr.mono (by decide)) rfl T.g__law_read T.F__law_read.kp T.bd__law_read passN (a_cons (v_var (i := 3) rfl (by first | exact .inl rfl | exact .inr (.inl rfl) | exact .inr (.inr rfl))) (a_cons (v_var (i := 9) rfl (by first | exact .inl rfl | exact .inr (.inl rfl) | exact .inr (.inr rfl))) a_nil))) (a_cons (v_tup (a_cons v_str (a_cons (v_addI (v_var (i := 12) rfl (by first | exact .inl rfl | exact .inr (.inl rfl) | exact .inr (.inr rfl))) v_int) a_nil))) a_nil))))) b_nil)))
      (b_cons (s_setComp (i := 13) (sc := defScope s_law) (own := [("_law_line", 14)]) rfl sc_law.nd rfl rfl (sw_true rfl rfl rfl (by decide +kernel)) (by rfl) (blkOk_by (N := N_law) (sc := defScope s_law) (own := [("_law_line", 14)]) (by decide +kernel)) (by decide) (i_any (v_slFrom (v_var (i := 10) rfl (by first | exact .inl rfl | exact .inr (.inl rfl) | exact .inr (.inr rfl))) v_int)) (fun _ _ _ _ _ => (g_name (i := 14) sc_law.nd rfl (by first | exact .inl rfl | exact .inr rfl))) (fun _ _ _ _ _ => ts_nil) (fun _ _ _ _ _ => (v_comp (sc := relS _ (defScope s_law)) (own := [("_law_part", 15)]) rfl sc_law.nd (by rfl) (blkOk_by (N := N_law) (sc := relS _ (defScope s_law)) (own := [("_law_part", 15)]) (by decide +kernel)) (by decide) (i_any (v_slTo (v_split (v_var (i := 14) rfl (by first | exact .inl rfl | exact .inr (.inl rfl) | exact .inr (.inr rfl))) v_str) (v_var (i := 3) rfl (by first | exact .inl rfl | exact .inr (.inl rfl) | exact .inr (.inr rfl))))) (fun _ _ _ _ _ => (g_name (i := 15) sc_law.nd rfl (by first | exact .inl rfl | exact .inr rfl))) (fun _ _ _ _ _ => ts_nil) (fun _ _ _ _ _ => (v_intS rfl T.b_int (a_cons (v_var (i := 15) rfl (by first | exact .inl rfl | exact .inr (.inl rfl) | exact .inr (.inr rfl))) a_nil))))))
      (b_one (s_ret (v_callBG T.ok__law_same (hr.mono (by decide)) hgd rfl T.g__law_same T.F__law_same.kp T.bd__law_same (a_cons (v_call (md := [false, false]) T.ok__law_read (hr.mono (by decide)) rfl T.g__law_read T.F__law_read.kp T.bd__law_read passN (a_cons (v_var (i := 3) rfl (by first | exact .inl rfl | exact .inr (.inl rfl) | exact .inr (.inr rfl))) (a_cons (v_var (i := 9) rfl (by first | exact .inl rfl | exact .inr (.inl rfl) | exact .inr (.inr rfl))) a_nil))) (a_cons (v_tup (a_cons (v_intS rfl T.b_int (a_cons (v_ix (v_var (i := 11) rfl (by first | exact .inl rfl | exact .inr (.inl rfl) | exact .inr (.inr rfl))) v_int (fun _ _ => rfl)) a_nil)) (a_cons (v_var (i := 13) rfl (by first | exact .inl rfl | exact .inr (.inl rfl) | exact .inr (.inr rfl))) a_nil))) a_nil))))))))))))))))))))))
end
theorem ob_eq (s : PySem.W.SharedT) : ob s = hk.obs s.abs := obsZ_eq (HandSHeadRun.getT_eq s)
theorem facts {K : PySem.W.Frag} {h : Heap} {mg : Str → Option Value} (X : K.In h) (G : h.Ns mainGlobals mg) (c0 : SaysZ fa fn ex ini K) : Nonempty (Tx PR K mg) := by
  have c := c0.d
  have r0 : ex K = true := c0.more
  unfold ex at r0
  obtain ⟨m0, r0⟩ := Bool.and_eq_true_iff.mp r0
  obtain ⟨m1, r0⟩ := Bool.and_eq_true_iff.mp r0
  obtain ⟨m2, r0⟩ := Bool.and_eq_true_iff.mp r0
  obtain ⟨fd_total, F_total⟩ := c.def_ 0 (d := D_total) rfl
  obtain ⟨fd_read_number, F_read_number⟩ := c.def_ 1 (d := D_read_number) rfl
  obtain ⟨fd_write_row, F_write_row⟩ := c.def_ 2 (d := D_write_row) rfl
  obtain ⟨fd_write_board, F_write_board⟩ := c.def_ 3 (d := D_write_board) rfl
  obtain ⟨fd_read_prime, F_read_prime⟩ := c.def_ 4 (d := D_read_prime) rfl
  obtain ⟨fd_read_row, F_read_row⟩ := c.def_ 5 (d := D_read_row) rfl
  obtain ⟨fd_read_board, F_read_board⟩ := c.def_ 6 (d := D_read_board) rfl
  obtain ⟨fd__law_cell, F__law_cell⟩ := c.def_ 7 (d := D__law_cell) rfl
  obtain ⟨fd__law_row, F__law_row⟩ := c.def_ 8 (d := D__law_row) rfl
  obtain ⟨fd__law_box, F__law_box⟩ := c.def_ 9 (d := D__law_box) rfl
  obtain ⟨fd__law_draw, F__law_draw⟩ := c.def_ 10 (d := D__law_draw) rfl
  obtain ⟨fd__law_same, F__law_same⟩ := c.def_ 11 (d := D__law_same) rfl
  obtain ⟨fd__law_plain, F__law_plain⟩ := c.def_ 12 (d := D__law_plain) rfl
  obtain ⟨fd__law_good, F__law_good⟩ := c.def_ 13 (d := D__law_good) rfl
  obtain ⟨fd__law_read, F__law_read⟩ := c.def_ 14 (d := D__law_read) rfl
  obtain ⟨fd_law, F_law⟩ := c.def_ 15 (d := D_law) rfl
  exact ⟨{ b_ValueError := He.free_ok X G (c.fact 16 (f := .free "ValueError") rfl), b_enumerate := He.free_ok X G (c.fact 17 (f := .free "enumerate") rfl), b_int := He.free_ok X G (c.fact 18 (f := .free "int") rfl), b_len := He.free_ok X G (c.fact 19 (f := .free "len") rfl), b_max := He.free_ok X G (c.fact 20 (f := .free "max") rfl), b_range := He.free_ok X G (c.fact 21 (f := .free "range") rfl), b_repr := He.free_ok X G (c.fact 22 (f := .free "repr") rfl), b_str := He.free_ok X G (c.fact 23 (f := .free "str") rfl), b_sum := He.free_ok X G (c.fact 24 (f := .free "sum") rfl), b_super := He.free_ok X G (c.fact 25 (f := .free "super") rfl), a_total := _, fd_total := fd_total, F_total := F_total, g_total := He.glo_ok X G (c.fact 0 (f := .glo "total") rfl), a_read_number := _, fd_read_number := fd_read_number, F_read_number := F_read_number, g_read_number := He.glo_ok X G (c.fact 1 (f := .glo "read_number") rfl), a_write_row := _, fd_write_row := fd_write_row, F_write_row := F_write_row, g_write_row := He.glo_ok X G (c.fact 2 (f := .glo "write_row") rfl), a_write_board := _, fd_write_board := fd_write_board, F_write_board := F_write_board, g_write_board := He.glo_ok X G (c.fact 3 (f := .glo "write_board") rfl), a_read_prime := _, fd_read_prime := fd_read_prime, F_read_prime := F_read_prime, g_read_prime := He.glo_ok X G (c.fact 4 (f := .glo "read_prime") rfl), a_read_row := _, fd_read_row := fd_read_row, F_read_row := F_read_row, g_read_row := He.glo_ok X G (c.fact 5 (f := .glo "read_row") rfl), a_read_board := _, fd_read_board := fd_read_board, F_read_board := F_read_board, g_read_board := He.glo_ok X G (c.fact 6 (f := .glo "read_board") rfl), a__law_cell := _, fd__law_cell := fd__law_cell, F__law_cell := F__law_cell, g__law_cell := He.glo_ok X G (c.fact 7 (f := .glo "_law_cell") rfl), a__law_row := _, fd__law_row := fd__law_row, F__law_row := F__law_row, g__law_row := He.glo_ok X G (c.fact 8 (f := .glo "_law_row") rfl), a__law_box := _, fd__law_box := fd__law_box, F__law_box := F__law_box, g__law_box := He.glo_ok X G (c.fact 9 (f := .glo "_law_box") rfl), a__law_draw := _, fd__law_draw := fd__law_draw, F__law_draw := F__law_draw, g__law_draw := He.glo_ok X G (c.fact 10 (f := .glo "_law_draw") rfl), a__law_same := _, fd__law_same := fd__law_same, F__law_same := F__law_same, g__law_same := He.glo_ok X G (c.fact 11 (f := .glo "_law_same") rfl), a__law_plain := _, fd__law_plain := fd__law_plain, F__law_plain := F__law_plain, g__law_plain := He.glo_ok X G (c.fact 12 (f := .glo "_law_plain") rfl), a__law_good := _, fd__law_good := fd__law_good, F__law_good := F__law_good, g__law_good := He.glo_ok X G (c.fact 13 (f := .glo "_law_good") rfl), a__law_read := _, fd__law_read := fd__law_read, F__law_read := F__law_read, g__law_read := He.glo_ok X G (c.fact 14 (f := .glo "_law_read") rfl), a_law := _, fd_law := fd_law, F_law := F_law, g_law := He.glo_ok X G (c.fact 15 (f := .glo "law") rfl), gc_FIGURES := He.str_ok X G (c.fact 28 (f := .str "FIGURES" "0123456789") rfl), c_LineError := He.ga K "LineError", g_LineError := He.glo_ok X G (c.fact 26 (f := .glo "LineError") rfl), m_LineError_LineError := He.exm_ok (c.fact 27 (f := .exm "LineError" "LineError" true) rfl), z_LineError := errK m0 (c0.at 0) (He.free_ok X G (c.fact 25 (f := .free "super") rfl)), f_LineError := xfB_ok m1, n_LineError_line := of_decide_eq_true m2 }⟩
end V
open PySem PySem.W PySem.Calls PyProof.Rows
theorem PySem.Challenge.cw_veilcount_k63_boards_are_read_back_holds : PySem.Challenge.rw_veilcount_k63_boards_are_read_back.Holds := by
  w_on; o_law
  refine HandSHeadRun.head_any (r := OpenLaw.row PySem.Challenge.rw_veilcount_k63_boards_are_read_back) (q := view (OpenLaw.row PySem.Challenge.rw_veilcount_k63_boards_are_read_back).prog [23]) (H := V.hk) (ob := V.ob) (M := 4000) (loose := V.loose) (d := HandSHeadRun.topDef (OpenLaw.row PySem.Challenge.rw_veilcount_k63_boards_are_read_back).prog 23) (kwd := []) V.ob_eq
    (by kernel_rfl) (fun s => by kernel_rfl) V.run (by kernel_rfl) (by kernel_rfl) (by kernel_rfl) (by rfl) (by first | assumption | decide +kernel) (by decide +kernel) ⟨rfl, rfl, rfl, rfl, rfl, by decide +kernel⟩ ?hw ?hc
  case hw => w_witness2
  case hc =>
    refine VF.walk_G (l := PySem.Challenge.rw_veilcount_k63_boards_are_read_back) (n := 63) (k := 5) (x := "_law_script") rfl (by decide) (by kernel_rfl) ⟨rfl, by decide, by decide⟩ ?F
    intro w mg fa h Y G hmg0
    obtain ⟨K, KX, c⟩ := Y
    have hmg : mg ("law" : PySem.Str) = some (.ref fa) := by
      have e : (HandSHeadRun.topDef (OpenLaw.row PySem.Challenge.rw_veilcount_k63_boards_are_read_back).prog 23).name = ("law" : PySem.Str) := by kernel_rfl
      rw [← e]
      exact hmg0
    obtain ⟨T⟩ := V.facts KX G c
    have e := hmg.symm.trans T.g_law
    cases e
    have b := L2.FunD.bindsA (ps := ["_law_script"]) T.F_law fun _ _ _ _ _ _ us hl => match us, hl with | [_], _ => rfl
    exact ⟨K, T.fd_law, _, KX, fun s v => b s [v] rfl, fun H a ns hS => VF.law_sp (V.law_pure ns) hS, fun base _ _ => T.ok_law⟩
