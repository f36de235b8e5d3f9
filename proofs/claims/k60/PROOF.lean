import PyProof.Rows.All
import Wide.All
import OpenK.AllK
import Wide.FinOn
import HandS.HeadHook2
import HandS.HeadHook4
import HandS.ExcOwn
import HandS.ExcInit
import HandS.Head2
import HandS.ForMost
import HandS.IsInst
import HandS.Defaults
import HandS.Deep
import HandS.SortInts
import HandS.Conv
import HandS.Style
import KE.DataEq
import HandS.ExcField
import HandS.Nested
import HandS.FStr
import KE.KExcSuper
import HandS.ExcIs
import KE.KExcIs
import HandS.Zip
import KE.LtSeq
import HandS.CallSlots
import KE.SortData
import KE.DataFind
import HandS.SetFor
import HandS.Strs
import HandS.Text
import PyProof.StrBlock2
import HandS.Flow
import KE.IntTextLaws
import KE.KStateDown
import HandS.More
import HandS.WordsExc
import HandS.Head0
import HandS.Head1
import HandS.HeadEnd
import HandS.HeadHook1
import PySem.Challenge.RW_veilcount_k60_lines_of_deeds
set_option Elab.async false
set_option linter.all false
set_option maxRecDepth 100000
set_option maxRecDepth 100000
set_option maxHeartbeats 4000000
namespace VF
set_option autoImplicit false
open PySem PySem.Spec PyProof.Rows L2
def addZ (m : Nat) : List Addr → Nat × List Addr
  | [] => (m, [])
  | a :: as => match Nat.beq ((m >>> a) % 2) 1 with
    | true => addZ m as
    | false => match addZ (m ||| (1 <<< a)) as with
      | (m2, l) => (m2, a :: l)
def refZ (g : Addr → Option Obj) (as : List Addr) : List Addr := as.flatMap fun a => match g a with
  | some o => He.refsD o
  | none => []
def goZ (g : Addr → Option Obj) : Nat → Nat → List Addr → List Addr
  | 0, _, _ => []
  | n + 1, m, fr => match addZ m (refZ g fr) with
    | (m2, l) => l ++ goZ g n m2 l
def asZ (g : Addr → Option Obj) (n : Nat) : List Addr := [mainGlobals, cStatics] ++ goZ g n ((1 <<< mainGlobals) ||| (1 <<< cStatics)) [mainGlobals, cStatics]
abbrev FnZ : Type := Option (Str × Str × Arguments × FuncBody × Scope × Addr × List Str × Addr)
def iniAt (K : PySem.W.Frag) (x : Str) : Addr := match PySem.W.findIn K (.ref (He.ga K x)) "__init__" with
  | some (some (.ref f)) => f
  | _ => 0
def fnZ (K : PySem.W.Frag) (a : Addr) : FnZ := match K.lookup a with
  | some ⟨_, _, .func fd, _⟩ => some (fd.name, fd.qualname, fd.params, fd.body, fd.scope, fd.globals, fd.closure.map (·.1), fd.builtins)
  | _ => none
structure IniD where
  cls : Str
  qual : Str
  params : Arguments
  body : List Stmt
  scope : Scope
def IniD.val (d : IniD) : FnZ := some ("__init__", d.qual, d.params, .stmts d.body, d.scope, mainGlobals, ["__class__"], builtinsNs)
abbrev AlZ : Type := He.AlD × (Bool × List FnZ)
def obsZ (n : Nat) (fa : List He.Fa) (fn : List He.DefD) (ex : PySem.W.Frag → Bool) (ini : List IniD) (g : Addr → Option Obj) : AlZ :=
  (He.obsD fa fn (He.frG g (asZ g n)), ex (He.frG g (asZ g n)), ini.map fun d => fnZ (He.frG g (asZ g n)) (iniAt (He.frG g (asZ g n)) d.cls))
def valZ (fn : List He.DefD) (ini : List IniD) : AlZ := (He.valD fn, true, ini.map IniD.val)
structure SaysZ (fa : List He.Fa) (fn : List He.DefD) (ex : PySem.W.Frag → Bool) (ini : List IniD) (K : PySem.W.Frag) : Prop where
  d : He.SaysD fa fn K
  more : ex K = true
  ini : (ini.map fun d => fnZ K (iniAt K d.cls)) = ini.map IniD.val
def hookZ (n : Nat) (fa : List He.Fa) (fn : List He.DefD) (ex : PySem.W.Frag → Bool) (ini : List IniD) : PySem.W.Hook where
  α := AlZ
  obs := fun s => obsZ n fa fn ex ini s.heap.get?
  val := fun _ => valZ fn ini
  says := fun _ h => ∃ K : PySem.W.Frag, K.In h ∧ SaysZ fa fn ex ini K
  of := fun _ _ e => ⟨_, He.frG_in, ⟨congrArg (fun z : AlZ => z.1) e, congrArg (fun z : AlZ => z.2.1) e, congrArg (fun z : AlZ => z.2.2) e⟩⟩
  keeps := fun _ _ _ ⟨K, hK, c⟩ k => ⟨K, PySem.W.Frag.In.keeps hK k, c⟩
theorem obsZ_eq {n : Nat} {fa : List He.Fa} {fn : List He.DefD} {ex : PySem.W.Frag → Bool} {ini : List IniD} {g : Addr → Option Obj} {s : Shared} (h : ∀ a, g a = s.heap.get? a) : obsZ n fa fn ex ini g = (hookZ n fa fn ex ini).obs s := by
  have e : g = s.heap.get? := funext h
  rw [e] <;> rfl
theorem SaysZ.at {fa : List He.Fa} {fn : List He.DefD} {ex : PySem.W.Frag → Bool} {ini : List IniD} {K : PySem.W.Frag} (c : SaysZ fa fn ex ini K) (i : Nat) {d : IniD} (h : ini[i]? = some d := by rfl) : fnZ K (iniAt K d.cls) = d.val := by
  have e2 : (ini.map fun d => fnZ K (iniAt K d.cls))[i]? = (ini.map IniD.val)[i]? := by rw [c.ini]
  rw [List.getElem?_map, List.getElem?_map, h] at e2
  exact Option.some.inj e2
theorem runEq_of {r : PySem.W.OpenRow} {q : Program} {H : PySem.W.Hook} {ob : PySem.W.SharedT → H.α} {M : Nat} {loose : List Str} {w : World}
    (h1 : ∀ os : OsState, (HandSHeadRun.endF (HandSHeadRun.stepQ (HandSHeadRun.denQ HandSHeadRun.tabQ) r.prog w) M r.prog w os).map (fun s => HandSHeadRun.looksF r.prog (PySem.W.boot_heap w.params) s.abs) = some true)
    (h2 : ∀ os : OsState, (HandSHeadRun.endF (HandSHeadRun.stepQ (HandSHeadRun.denQ HandSHeadRun.tabQ) r.prog w) M r.prog w os).map (fun s => HandSHeadRun.seenQ q loose (importedModules r.prog.main.body) (fun s => PySem.W.xlAt q [] s && PySem.W.recOk r.toRowW.records s) s.abs) = some (PySem.W.openGood q loose))
    (h3 : ∀ os : OsState, (HandSHeadRun.endF (HandSHeadRun.stepQ (HandSHeadRun.denQ HandSHeadRun.tabQ) r.prog w) M r.prog w os).map ob = some (H.val w)) : HandSHeadRun.RunEq r q H ob M loose w := by
  intro os
  have a1 := h1 os
  have a2 := h2 os
  have a3 := h3 os
  cases z : HandSHeadRun.endF (HandSHeadRun.stepQ (HandSHeadRun.denQ HandSHeadRun.tabQ) r.prog w) M r.prog w os with
  | none => rw [z] at a1; cases a1
  | some s =>
    rw [z] at a1 a2 a3
    rw [Option.map_some] at a1 a2 a3
    rw [Option.map_some, Option.some.inj a1, Option.some.inj a2, Option.some.inj a3]
def strsAre : List Value → List Str → Bool
  | [], [] => true
  | .str y _ :: vs, z :: zs => decide (y = z) && strsAre vs zs
  | _, _ => false
def gtupB (K : PySem.W.Frag) (x : Str) (zs : List Str) : Bool := match PySem.W.nsIn K mainGlobals x with
  | some (some (.ref a)) => (match K.lookup a with
    | some ⟨.type t, _, .seq its _, _⟩ => decide (t = "tuple") && (decide (its.size ≤ sizeLine) && strsAre its.toList zs)
    | _ => false)
  | _ => false
end VF
set_option maxHeartbeats 0
namespace V
open PySem PySem.Spec PyProof.Rows L2 VF
def top (i : Nat) : Stmt := PySem.Challenge.pw_veilcount_k60_lines_of_deeds.main.body.getD i (.Pass ⟨0, 0, 0, 0⟩)
abbrev s_read_number : Stmt := top 3
abbrev s_write_deed : Stmt := top 4
abbrev s_fits : Stmt := top 5
abbrev s_read_deed : Stmt := top 6
abbrev s__law_cell : Stmt := top 8
abbrev s__law_row : Stmt := top 9
abbrev s__law_box : Stmt := top 10
abbrev s__law_draw : Stmt := top 11
abbrev s__law_same : Stmt := top 12
abbrev s__law_line : Stmt := top 13
abbrev s__law_number : Stmt := top 14
abbrev s__law_near : Stmt := top 15
abbrev s_law : Stmt := top 16
def D_read_number : He.DefD := ⟨("read_number", none), "read_number", "read_number", defArgs s_read_number, defBody s_read_number, defScope s_read_number, [], []⟩
def D_write_deed : He.DefD := ⟨("write_deed", none), "write_deed", "write_deed", defArgs s_write_deed, defBody s_write_deed, defScope s_write_deed, [], []⟩
def D_fits : He.DefD := ⟨("fits", none), "fits", "fits", defArgs s_fits, defBody s_fits, defScope s_fits, [], []⟩
def D_read_deed : He.DefD := ⟨("read_deed", none), "read_deed", "read_deed", defArgs s_read_deed, defBody s_read_deed, defScope s_read_deed, [], []⟩
def D__law_cell : He.DefD := ⟨("_law_cell", none), "_law_cell", "_law_cell", defArgs s__law_cell, defBody s__law_cell, defScope s__law_cell, [], []⟩
def D__law_row : He.DefD := ⟨("_law_row", none), "_law_row", "_law_row", defArgs s__law_row, defBody s__law_row, defScope s__law_row, [], []⟩
def D__law_box : He.DefD := ⟨("_law_box", none), "_law_box", "_law_box", defArgs s__law_box, defBody s__law_box, defScope s__law_box, [], []⟩
def D__law_draw : He.DefD := ⟨("_law_draw", none), "_law_draw", "_law_draw", defArgs s__law_draw, defBody s__law_draw, defScope s__law_draw, [], []⟩
def D__law_same : He.DefD := ⟨("_law_same", none), "_law_same", "_law_same", defArgs s__law_same, defBody s__law_same, defScope s__law_same, [], []⟩
def D__law_line : He.DefD := ⟨("_law_line", none), "_law_line", "_law_line", defArgs s__law_line, defBody s__law_line, defScope s__law_line, [], []⟩
def D__law_number : He.DefD := ⟨("_law_number", none), "_law_number", "_law_number", defArgs s__law_number, defBody s__law_number, defScope s__law_number, [], []⟩
def D__law_near : He.DefD := ⟨("_law_near", none), "_law_near", "_law_near", defArgs s__law_near, defBody s__law_near, defScope s__law_near, [], []⟩
def D_law : He.DefD := ⟨("law", none), "law", "law", defArgs s_law, defBody s_law, defScope s_law, [], []⟩
def fn : List He.DefD := [D_read_number, D_write_deed, D_fits, D_read_deed, D__law_cell, D__law_row, D__law_box, D__law_draw, D__law_same, D__law_line, D__law_number, D__law_near, D_law]
def fa : List He.Fa := [.glo "read_number", .glo "write_deed", .glo "fits", .glo "read_deed", .glo "_law_cell", .glo "_law_row", .glo "_law_box", .glo "_law_draw", .glo "_law_same", .glo "_law_line", .glo "_law_number", .glo "_law_near", .glo "law", .free "int", .free "len", .free "range", .free "repr", .free "str", .str "FIGURES" "0123456789"]
abbrev R : PySem.W.OpenRow := PySem.W.OpenLaw.row PySem.Challenge.rw_veilcount_k60_lines_of_deeds
def ex (K : PySem.W.Frag) : Bool := (gtupB K "WORDS" ["cast", "withdraw", "close", "mix"] && true)
def ini : List IniD := []
abbrev hk : PySem.W.Hook := hookZ 5 fa fn ex ini
def ob (s : PySem.W.SharedT) : AlZ := obsZ 5 fa fn ex ini (HandSHeadRun.getT s)
def loose : List Str := (["__name__", "FIGURES", "WORDS", "read_number", "write_deed", "fits", "read_deed", "_law_cell", "_law_row", "_law_box", "_law_draw", "_law_same", "_law_line", "_law_number", "_law_near"] : List Str)
theorem run1 (w : World) : ∀ os : OsState, (HandSHeadRun.endF (HandSHeadRun.stepQ (HandSHeadRun.denQ HandSHeadRun.tabQ) R.prog w) 4000 R.prog w os).map (fun s => HandSHeadRun.looksF R.prog (PySem.W.boot_heap w.params) s.abs) = some true := by
  intro os
  kernel_rfl
theorem run2 (w : World) : ∀ os : OsState, (HandSHeadRun.endF (HandSHeadRun.stepQ (HandSHeadRun.denQ HandSHeadRun.tabQ) R.prog w) 4000 R.prog w os).map (fun s => HandSHeadRun.seenQ (PySem.W.view R.prog [16]) loose (importedModules R.prog.main.body) (fun s => PySem.W.xlAt (PySem.W.view R.prog [16]) [] s && PySem.W.recOk R.toRowW.records s) s.abs) = some (PySem.W.openGood (PySem.W.view R.prog [16]) loose) := by
  intro os
  kernel_rfl
theorem run3 (w : World) : ∀ os : OsState, (HandSHeadRun.endF (HandSHeadRun.stepQ (HandSHeadRun.denQ HandSHeadRun.tabQ) R.prog w) 4000 R.prog w os).map ob = some (hk.val w) := by
  intro os
  kernel_rfl
theorem run (w : World) : HandSHeadRun.RunEq R (PySem.W.view R.prog [16]) hk ob 4000 loose w := VF.runEq_of (run1 w) (run2 w) (run3 w)
end V
set_option maxHeartbeats 4000000
set_option maxRecDepth 100000
set_option maxHeartbeats 4000000
namespace VF
set_option autoImplicit false
open PySem PySem.Spec PyProof.Rows L2
inductive D where
  | non | bl (b : Bool) | int (i : Int) | str (s : Str) | ty (n : String)
  | lst (xs : List D) | tup (xs : List D) | dct (ks : List Key) (xs : List D) | obj (c : Str) (ns : List Str) (xs : List D)
  | scr (ns : List Int)
  | hl
  deriving Inhabited
inductive SV where
  | fz (d : D) | ol (xs : List SV) | oo (c : Str) (ns : List Str) (xs : List SV) | od (ks : List Key) (xs : List SV)
  deriving Inhabited
inductive AT where
  | fz (v : V) (d : D) | ol (p : Addr) (xs : List AT) | oo (p C dx : Addr) (c : Str) (ns : List Str) (xs : List AT) | od (p : Addr) (ks : List Key) (xs : List AT)
def AT.val : AT → V
  | .fz v _ => v
  | .ol p _ => .ref p
  | .oo p _ _ _ _ _ => .ref p
  | .od p _ _ => .ref p
mutual
def SV.toD : SV → D
  | .fz d => d
  | .ol xs => .lst (SV.toDs xs)
  | .oo c ns xs => .obj c ns (SV.toDs xs)
  | .od ks xs => .dct ks (SV.toDs xs)
def SV.toDs : List SV → List D
  | [] => []
  | x :: xs => SV.toD x :: SV.toDs xs
end
mutual
def AT.er : AT → SV
  | .fz _ d => .fz d
  | .ol _ xs => .ol (AT.ers xs)
  | .oo _ _ _ c ns xs => .oo c ns (AT.ers xs)
  | .od _ ks xs => .od ks (AT.ers xs)
def AT.ers : List AT → List SV
  | [] => []
  | x :: xs => AT.er x :: AT.ers xs
end
def vals (xs : List AT) : List V := xs.map AT.val
mutual
def AT.cells : AT → List (Addr × HO)
  | .fz _ _ => []
  | .ol p xs => (p, .lst (vals xs)) :: AT.cellsL xs
  | .oo p C dx _ ns xs => (p, .ins C dx (ns.zip (vals xs))) :: AT.cellsL xs
  | .od p ks xs => (p, .dK (ks.zip (vals xs))) :: AT.cellsL xs
def AT.cellsL : List AT → List (Addr × HO)
  | [] => []
  | x :: xs => AT.cells x ++ AT.cellsL xs
end
open AT (cells cellsL er ers)
section
variable (K : PySem.W.Frag) (mg : Str → Option Value)
mutual
def Rep (F : Hp) : V → D → Prop
  | v, .non => v = .non
  | v, .bl b => v = .bl b
  | v, .int i => v = .int i
  | v, .str s => v = .str s
  | v, .ty n => v = .ty n
  | v, .lst ds => ∃ p vs, v = .ref p ∧ F p = some (.lst vs) ∧ Reps F vs ds
  | v, .tup ds => ∃ p vs, v = .ref p ∧ SqT K F p vs ∧ Reps F vs ds
  | v, .dct ks ds => ∃ p vs, v = .ref p ∧ F p = some (.dK (ks.zip vs)) ∧ ks.length = vs.length ∧ Reps F vs ds
  | v, .obj c ns ds => ∃ p C dx vs, v = .ref p ∧ mg c = some (.ref C) ∧ F p = some (.ins C dx (ns.zip vs)) ∧ ns.length = vs.length ∧ Reps F vs ds
  | v, .scr ns => ∃ p, v = .ref p ∧ SqL K F p (ns.map V.int)
  | v, .hl => ∃ p, v = .ref p
def Reps (F : Hp) : List V → List D → Prop
  | [], [] => True
  | v :: vs, d :: ds => Rep F v d ∧ Reps F vs ds
  | _, _ => False
end
mutual
def Ok (F : Hp) : AT → Prop
  | .fz v d => Rep K mg F v d
  | .ol _ xs => Oks F xs
  | .oo _ C _ c ns xs => mg c = some (.ref C) ∧ ns.length = xs.length ∧ Oks F xs
  | .od _ ks xs => ks.length = xs.length ∧ Oks F xs
def Oks (F : Hp) : List AT → Prop
  | [] => True
  | x :: xs => Ok F x ∧ Oks F xs
end
structure Good (F H : Hp) (ts : List AT) : Prop where
  at_ : ∀ c ∈ cellsL ts, H c.1 = some c.2 ∧ F c.1 = none
  ok : Oks K mg F ts
  nd : ((cellsL ts).map (·.1)).Nodup
end
theorem SqT_same {K : PySem.W.Frag} {H H' : Hp} {a : Addr} {xs : List V} (e : Same H H') (h : SqT K H a xs) : SqT K H' a xs := by
  rcases h with h | h
  · rcases h with h | ⟨o, h⟩
    · exact .inl (.inl (e _ _ h))
    · exact .inl (.inr ⟨o, e _ _ h⟩)
  · exact .inr h
section
variable {K : PySem.W.Frag} {mg : Str → Option Value} {F F' H H' : Hp}
mutual
theorem Rep.same (s : Same F F') : ∀ {d : D} {v : V}, Rep K mg F v d → Rep K mg F' v d
  | .non, _, h => h
  | .bl _, _, h => h
  | .int _, _, h => h
  | .str _, _, h => h
  | .ty _, _, h => h
  | .lst ds, _, ⟨p, vs, e, h1, h2⟩ => ⟨p, vs, e, s _ _ h1, Reps.same s h2⟩
  | .tup ds, _, ⟨p, vs, e, h1, h2⟩ => ⟨p, vs, e, SqT_same s h1, Reps.same s h2⟩
  | .dct ks ds, _, ⟨p, vs, e, h1, h3, h2⟩ => ⟨p, vs, e, s _ _ h1, h3, Reps.same s h2⟩
  | .obj c ns ds, _, ⟨p, C, dx, vs, e, h0, h1, h3, h2⟩ => ⟨p, C, dx, vs, e, h0, s _ _ h1, h3, Reps.same s h2⟩
  | .scr ns, _, ⟨p, e, h1⟩ => ⟨p, e, s.seq h1⟩
  | .hl, _, h => h
theorem Reps.same (s : Same F F') : ∀ {ds : List D} {vs : List V}, Reps K mg F vs ds → Reps K mg F' vs ds
  | [], [], _ => trivial
  | _ :: _, _ :: _, ⟨h1, h2⟩ => ⟨Rep.same s h1, Reps.same s h2⟩
  | [], _ :: _, h => h.elim
  | _ :: _, [], h => h.elim
end
theorem Reps.length : ∀ {ds : List D} {vs : List V}, Reps K mg F vs ds → vs.length = ds.length
  | [], [], _ => rfl
  | _ :: _, _ :: _, ⟨_, h2⟩ => congrArg Nat.succ (Reps.length h2)
  | [], _ :: _, h => h.elim
  | _ :: _, [], h => h.elim
theorem Reps.get : ∀ {ds : List D} {vs : List V} {i : Nat} {d : D}, Reps K mg F vs ds → ds[i]? = some d → ∃ v, vs[i]? = some v ∧ Rep K mg F v d
  | d :: _, v :: _, 0, _, ⟨h1, _⟩, e => ⟨v, rfl, by cases e; exact h1⟩
  | _ :: ds, _ :: vs, i + 1, _, ⟨_, h2⟩, e => by
    obtain ⟨v, e1, e2⟩ := Reps.get (i := i) h2 (by simpa using e)
    exact ⟨v, by simpa using e1, e2⟩
  | [], _ :: _, _, _, h, _ => h.elim
  | _ :: _, [], _, _, h, _ => h.elim
  | [], [], _, _, _, e => by simp at e
theorem Reps.getV : ∀ {ds : List D} {vs : List V} {i : Nat} {v : V}, Reps K mg F vs ds → vs[i]? = some v → ∃ d, ds[i]? = some d ∧ Rep K mg F v d
  | d :: _, v :: _, 0, _, ⟨h1, _⟩, e => ⟨d, rfl, by cases e; exact h1⟩
  | _ :: ds, _ :: vs, i + 1, _, ⟨_, h2⟩, e => by
    obtain ⟨v, e1, e2⟩ := Reps.getV (i := i) h2 (by simpa using e)
    exact ⟨v, by simpa using e1, e2⟩
  | [], _ :: _, _, _, h, _ => h.elim
  | _ :: _, [], _, _, h, _ => h.elim
  | [], [], _, _, _, e => by simp at e
theorem Reps.append : ∀ {ds es : List D} {vs us : List V}, Reps K mg F vs ds → Reps K mg F us es → Reps K mg F (vs ++ us) (ds ++ es)
  | [], _, [], _, _, h => h
  | _ :: _, _, _ :: _, _, ⟨h1, h2⟩, h => ⟨h1, Reps.append h2 h⟩
  | [], _, _ :: _, _, h, _ => h.elim
  | _ :: _, _, [], _, h, _ => h.elim
theorem Reps.take (n : Nat) : ∀ {ds : List D} {vs : List V}, Reps K mg F vs ds → Reps K mg F (vs.take n) (ds.take n) := by
  induction n with
  | zero => intro ds vs _; simp only [List.take_zero]; trivial
  | succ n ih =>
    intro ds vs h
    cases ds with
    | nil => cases vs with
      | nil => trivial
      | cons _ _ => exact h.elim
    | cons d ds => cases vs with
      | nil => exact h.elim
      | cons v vs => exact ⟨h.1, ih h.2⟩
theorem Reps.drop (n : Nat) : ∀ {ds : List D} {vs : List V}, Reps K mg F vs ds → Reps K mg F (vs.drop n) (ds.drop n) := by
  induction n with
  | zero => intro ds vs h; simpa only [List.drop_zero] using h
  | succ n ih =>
    intro ds vs h
    cases ds with
    | nil => cases vs with
      | nil => trivial
      | cons _ _ => exact h.elim
    | cons d ds => cases vs with
      | nil => exact h.elim
      | cons v vs => exact ih h.2
theorem Reps.set {v : V} {d : D} (h0 : Rep K mg F v d) : ∀ {ds : List D} {vs : List V} (n : Nat), Reps K mg F vs ds → Reps K mg F (vs.set n v) (ds.set n d)
  | [], [], _, _ => trivial
  | _ :: _, _ :: _, 0, ⟨_, h2⟩ => ⟨h0, h2⟩
  | _ :: _, _ :: _, n + 1, ⟨h1, h2⟩ => ⟨h1, Reps.set h0 n h2⟩
  | [], _ :: _, _, h => h.elim
  | _ :: _, [], _, h => h.elim
mutual
theorem Ok.same (s : Same F F') : ∀ {t : AT}, Ok K mg F t → Ok K mg F' t
  | .fz _ _, h => Rep.same s h
  | .ol _ xs, h => Oks.same s h
  | .oo _ _ _ _ _ xs, ⟨h1, h2, h3⟩ => ⟨h1, h2, Oks.same s h3⟩
  | .od _ _ xs, ⟨h2, h3⟩ => ⟨h2, Oks.same s h3⟩
theorem Oks.same (s : Same F F') : ∀ {ts : List AT}, Oks K mg F ts → Oks K mg F' ts
  | [], _ => trivial
  | _ :: _, ⟨h1, h2⟩ => ⟨Ok.same s h1, Oks.same s h2⟩
end
theorem Oks.append : ∀ {ts us : List AT}, Oks K mg F (ts ++ us) ↔ Oks K mg F ts ∧ Oks K mg F us
  | [], us => ⟨fun h => ⟨trivial, h⟩, fun h => h.2⟩
  | t :: ts, us => by
    show (Ok K mg F t ∧ Oks K mg F (ts ++ us)) ↔ (Ok K mg F t ∧ Oks K mg F ts) ∧ Oks K mg F us
    rw [Oks.append (ts := ts)]
    exact ⟨fun ⟨a, b, c⟩ => ⟨⟨a, b⟩, c⟩, fun ⟨⟨a, b⟩, c⟩ => ⟨a, b, c⟩⟩
theorem Oks.mem : ∀ {ts : List AT}, Oks K mg F ts ↔ ∀ t ∈ ts, Ok K mg F t
  | [] => ⟨fun _ _ h => absurd h List.not_mem_nil, fun _ => trivial⟩
  | t :: ts => by
    show (Ok K mg F t ∧ Oks K mg F ts) ↔ _
    rw [Oks.mem (ts := ts), List.forall_mem_cons]
theorem cellsL_append : ∀ (ts us : List AT), cellsL (ts ++ us) = cellsL ts ++ cellsL us
  | [], _ => rfl
  | t :: ts, us => by
    show cells t ++ cellsL (ts ++ us) = (cells t ++ cellsL ts) ++ cellsL us
    rw [cellsL_append ts us, List.append_assoc]
theorem cellsL_eq : ∀ (ts : List AT), cellsL ts = ts.flatMap cells
  | [] => rfl
  | t :: ts => by
    show cells t ++ cellsL ts = _
    rw [cellsL_eq ts, List.flatMap_cons]
theorem ers_eq : ∀ (ts : List AT), ers ts = ts.map er
  | [] => rfl
  | t :: ts => congrArg (er t :: ·) (ers_eq ts)
theorem ers_length (ts : List AT) : (ers ts).length = ts.length := by rw [ers_eq, List.length_map]
mutual
theorem rep_of : ∀ (t : AT), (∀ c ∈ cells t, H c.1 = some c.2) → Same F H → Ok K mg F t → Rep K mg H t.val (SV.toD (er t))
  | .fz v d, _, s, h => Rep.same s h
  | .ol p xs, hc, s, h => ⟨p, vals xs, rfl, hc _ List.mem_cons_self, reps_of xs (fun c hm => hc c (List.mem_cons_of_mem _ hm)) s h⟩
  | .oo p C dx c ns xs, hc, s, ⟨h1, h2, h3⟩ => ⟨p, C, dx, vals xs, rfl, h1, hc _ List.mem_cons_self, by rw [h2]; exact (List.length_map _).symm, reps_of xs (fun c hm => hc c (List.mem_cons_of_mem _ hm)) s h3⟩
  | .od p ks xs, hc, s, ⟨h2, h3⟩ => ⟨p, vals xs, rfl, hc _ List.mem_cons_self, by rw [h2]; exact (List.length_map _).symm, reps_of xs (fun c hm => hc c (List.mem_cons_of_mem _ hm)) s h3⟩
theorem reps_of : ∀ (ts : List AT), (∀ c ∈ cellsL ts, H c.1 = some c.2) → Same F H → Oks K mg F ts → Reps K mg H (vals ts) (SV.toDs (ers ts))
  | [], _, _, _ => trivial
  | t :: ts, hc, s, ⟨h1, h2⟩ => ⟨rep_of t (fun c hm => hc c (List.mem_append_left _ hm)) s h1, reps_of ts (fun c hm => hc c (List.mem_append_right _ hm)) s h2⟩
end
theorem Good.rep {ts : List AT} {t : AT} (g : Good K mg F H ts) (s : Same F H) (h : t ∈ ts) : Rep K mg H t.val (SV.toD (er t)) := by
  refine rep_of t (fun c hc => (g.at_ c ?_).1) s (Oks.mem.mp g.ok t h)
  rw [cellsL_eq]
  exact List.mem_flatMap.mpr ⟨t, h, hc⟩
theorem cellsL_perm {ts us : List AT} (p : ts.Perm us) : (cellsL ts).Perm (cellsL us) := by
  rw [cellsL_eq, cellsL_eq]
  exact p.flatMap_right _
theorem Good.perm {ts us : List AT} (g : Good K mg F H ts) (p : ts.Perm us) : Good K mg F H us where
  at_ := fun c hc => g.at_ c ((cellsL_perm p).mem_iff.mpr hc)
  ok := Oks.mem.mpr fun t ht => Oks.mem.mp g.ok t (p.mem_iff.mpr ht)
  nd := (((cellsL_perm p).map _).nodup_iff).mp g.nd
theorem Good.sub {ts us : List AT} (g : Good K mg F H (ts ++ us)) : Good K mg F H us where
  at_ := fun c hc => g.at_ c (by rw [cellsL_append]; exact List.mem_append_right _ hc)
  ok := (Oks.append.mp g.ok).2
  nd := by
    have := g.nd
    rw [cellsL_append, List.map_append] at this
    exact (List.nodup_append.mp this).2.1
theorem Good.fz {ts : List AT} {v : V} {d : D} (g : Good K mg F H ts) (r : Rep K mg F v d) : Good K mg F H (.fz v d :: ts) :=
  ⟨g.at_, ⟨r, g.ok⟩, g.nd⟩
theorem Good.unfz {ts : List AT} {v : V} {d : D} (g : Good K mg F H (.fz v d :: ts)) : Good K mg F H ts ∧ Rep K mg F v d :=
  ⟨⟨g.at_, g.ok.2, g.nd⟩, g.ok.1⟩
theorem Good.tail {ts : List AT} {t : AT} (g : Good K mg F H (t :: ts)) : Good K mg F H ts := Good.sub (ts := [t]) g
def frz (cs : List (Addr × HO)) (F : Hp) : Hp := fun a => match cs.lookup a with
  | some o => some o
  | none => F a
theorem lookup_of_mem {α β : Type} [BEq α] [LawfulBEq α] : ∀ {l : List (α × β)} {a : α} {b : β}, (l.map (·.1)).Nodup → (a, b) ∈ l → l.lookup a = some b
  | (c, d) :: l, a, b, nd, h => by
    rw [List.map_cons, List.nodup_cons] at nd
    rw [List.lookup_cons]
    rcases List.mem_cons.mp h with e | h
    · cases e
      simp
    · have ne : a ≠ c := fun e => nd.1 (e ▸ List.mem_map_of_mem (f := (·.1)) h)
      have : (a == c) = false := by simpa using ne
      rw [this]
      exact lookup_of_mem nd.2 h
theorem mem_of_look {α β : Type} [BEq α] [LawfulBEq α] : ∀ {l : List (α × β)} {a : α} {b : β}, l.lookup a = some b → (a, b) ∈ l
  | (c, d) :: l, a, b, h => by
    rw [List.lookup_cons] at h
    cases e : (a == c) with
    | true =>
      rw [e] at h
      have e2 : a = c := by simpa using e
      subst e2
      cases h
      exact List.mem_cons_self
    | false =>
      rw [e] at h
      exact List.mem_cons_of_mem _ (mem_of_look h)
theorem frz_same {cs : List (Addr × HO)} (h : ∀ c ∈ cs, F c.1 = none) : Same F (frz cs F) := fun a o e => by
  unfold frz
  cases q : cs.lookup a with
  | none => exact e
  | some u =>
    have := h _ (mem_of_look q)
    rw [e] at this
    cases this
theorem frz_le {cs : List (Addr × HO)} (s : Same F H) (h : ∀ c ∈ cs, H c.1 = some c.2) : Same (frz cs F) H := fun a o e => by
  unfold frz at e
  cases q : cs.lookup a with
  | none => rw [q] at e; exact s a o e
  | some u =>
    rw [q] at e
    cases e
    exact h _ (mem_of_look q)
theorem frz_out {cs : List (Addr × HO)} {a : Addr} (h : a ∉ cs.map (·.1)) : frz cs F a = F a := by
  unfold frz
  cases q : cs.lookup a with
  | none => rfl
  | some u => exact absurd (List.mem_map_of_mem (f := (·.1)) (mem_of_look q)) h
theorem Good.freeze {ts : List AT} {t : AT} (g : Good K mg F H (t :: ts)) (s : Same F H) :
    Same F (frz (cells t) F) ∧ Same (frz (cells t) F) H ∧ Good K mg (frz (cells t) F) H (.fz t.val (SV.toD (er t)) :: ts) := by
  have hc : ∀ c ∈ cells t, H c.1 = some c.2 ∧ F c.1 = none := fun c h => g.at_ c (List.mem_append_left _ h)
  have nd := g.nd
  have nd2 : ((cells t ++ cellsL ts).map (·.1)).Nodup := nd
  rw [List.map_append, List.nodup_append] at nd2
  have s1 : Same F (frz (cells t) F) := frz_same fun c h => (hc c h).2
  refine ⟨s1, frz_le s fun c h => (hc c h).1, ⟨fun c h => ?_, ⟨?_, Oks.same s1 g.ok.2⟩, nd2.2.1⟩⟩
  · have h' := g.at_ c (List.mem_append_right _ h)
    refine ⟨h'.1, ?_⟩
    rw [frz_out fun q => nd2.2.2 _ q _ (List.mem_map_of_mem (f := (·.1)) h) rfl]
    exact h'.2
  · refine rep_of t (fun c h => ?_) s1 g.ok.1
    unfold frz
    rw [lookup_of_mem (l := cells t) nd2.1 (show (c.1, c.2) ∈ cells t from h)]
end
end VF
set_option maxRecDepth 100000
set_option maxHeartbeats 4000000
namespace VF
set_option autoImplicit false
open PySem PySem.Spec PyProof.Rows L2
open AT (cells cellsL er ers)
def imm : D → Option V
  | .non => some .non
  | .bl b => some (.bl b)
  | .int i => some (.int i)
  | .str s => some (.str s)
  | .ty n => some (.ty n)
  | _ => none
abbrev XS := Value → Option Addr → L2.St → Hp → Prop
def E0 : XS := fun _ _ _ _ => False
structure Exc where
  c : Str
  ns : List Str
  ds : List D
structure Env where
  sl : List (Option SV)
  pn : List Nat
inductive R (α : Type) where
  | st | ok (a : α) (e : Env) | ex (x : Exc) (e : Env)
abbrev M (α : Type) := Env → R α
inductive RV where
  | fz (d : D) | own (s : SV) | var (i : Nat)
inductive Fl where
  | nx | rt (r : RV) | bk | ct
def R.bind {α β : Type} (r : R α) (f : α → M β) : R β := match r with
  | .st => .st
  | .ok a e => f a e
  | .ex x e => .ex x e
def M.bind {α β : Type} (m : M α) (f : α → M β) : M β := fun e => (m e).bind f
def M.ret {α : Type} (a : α) : M α := fun e => .ok a e
def M.st {α : Type} : M α := fun _ => .st
def opts (as : List (Option AT)) : List AT := as.filterMap id
theorem mem_opts {as : List (Option AT)} {i : Nat} {t : AT} (h : as[i]? = some (some t)) : t ∈ opts as :=
  List.mem_filterMap.mpr ⟨some t, List.mem_of_getElem? h, rfl⟩
theorem opts_take : ∀ {as : List (Option AT)} {i : Nat} {t : AT}, as[i]? = some (some t) → (opts as).Perm (t :: opts (as.set i none))
  | a :: as, 0, t, h => by
    have e : a = some t := by simpa using h
    subst e
    exact List.Perm.refl _
  | a :: as, i + 1, t, h => by
    have ih := opts_take (as := as) (i := i) (t := t) (by simpa using h)
    cases a with
    | none => exact ih
    | some u => exact (ih.cons u).trans (List.Perm.swap _ _ _)
theorem opts_put : ∀ {as : List (Option AT)} {i : Nat} (t : AT), as[i]? = some none → (t :: opts as).Perm (opts (as.set i (some t)))
  | a :: as, 0, t, h => by
    have e : a = none := by simpa using h
    subst e
    exact List.Perm.refl _
  | a :: as, i + 1, t, h => by
    have ih := opts_put (as := as) (i := i) t (by simpa using h)
    cases a with
    | none => exact ih
    | some u => exact (List.Perm.swap _ _ _).trans (ih.cons u)
theorem opts_set {as : List (Option AT)} {i : Nat} (t : AT) : ∃ L, (t :: opts as).Perm (L ++ opts (as.set i (some t))) := by
  cases e : as[i]? with
  | none =>
    have : as.length ≤ i := List.getElem?_eq_none_iff.mp e
    exact ⟨[t], by rw [List.set_eq_of_length_le this]; exact List.Perm.refl _⟩
  | some o =>
    cases o with
    | none => exact ⟨[], opts_put t e⟩
    | some u =>
      refine ⟨[u], ?_⟩
      have h1 := opts_take e
      have hlt : i < as.length := (List.getElem?_eq_some_iff.mp e).1
      have h2 := opts_put (as := as.set i none) (i := i) t (by simp [hlt])
      rw [List.set_set] at h2
      exact ((h1.cons t).trans (List.Perm.swap _ _ _)).trans (h2.cons u)
section
variable (K : PySem.W.Frag) (mg : Str → Option Value)
structure SR (pv : List (Nat × V)) (σ : L2.St) (e : Env) (as : List (Option AT)) : Prop where
  sl : e.sl = as.map (Option.map er)
  len : σ.length = as.length
  at_ : ∀ (i : Nat) (t : AT), as[i]? = some (some t) → σ[i]? = some (some t.val)
  pin : ∀ p ∈ pv, p.1 ∈ e.pn ∧ σ[p.1]? = some (some p.2)
structure Cf (pv : List (Nat × V)) (F H : Hp) (σ : L2.St) (e : Env) (as : List (Option AT)) (held : List AT) : Prop where
  s : Same F H
  r : SR pv σ e as
  g : Good K mg F H (opts as ++ held)
def RR (σ : L2.St) (v : V) : RV → List AT → Prop
  | .fz d, tr => tr = [.fz v d]
  | .own s, tr => ∃ t, tr = [t] ∧ t.val = v ∧ er t = s
  | .var i, tr => tr = [] ∧ σ[i]? = some (some v)
def RRs (σ : L2.St) : List V → List RV → List AT → Prop
  | [], [], tr => tr = []
  | v :: vs, r :: rs, tr => ∃ t1 t2, tr = t2 ++ t1 ∧ RR σ v r t1 ∧ RRs σ vs rs t2
  | _, _, _ => False
def RX (H : Hp) (x : Exc) (cls : Value) (d : Option Addr) : Prop :=
  ∃ C, mg x.c = some (.ref C) ∧ cls = .ref C ∧ ((x.ns = [] ∧ d = none) ∨ (x.ns ≠ [] ∧ ∃ dd vs, d = some dd ∧ H dd = some (.xd (x.ns.zip vs)) ∧ x.ns.length = vs.length ∧ x.ds.mapM imm = some vs))
def WX (pv : List (Nat × V)) (F : Hp) (held : List AT) (E : XS) (x : Exc) (e' : Env) : Prop :=
  ∀ cls d F' H' σ' as', Same F F' → Cf K mg pv F' H' σ' e' as' held → RX mg H' x cls d → (∀ dd, d = some dd → F dd = none) → E cls d σ' H'
def WE (pv : List (Nat × V)) (F : Hp) (held : List AT) (σ : L2.St) (Q : VK) (E : XS) : R RV → Prop
  | .st => False
  | .ok r e' => ∀ v F' H' as' tr, Same F F' → Cf K mg pv F' H' σ e' as' (tr ++ held) → RR σ v r tr → Q v H'
  | .ex x e' => WX K mg pv F held E x e'
def WT (pv : List (Nat × V)) (F : Hp) (held : List AT) (σ : L2.St) (Q : Bool → Hp → Prop) (E : XS) : R Bool → Prop
  | .st => False
  | .ok b e' => ∀ F' H' as', Same F F' → Cf K mg pv F' H' σ e' as' held → Q b H'
  | .ex x e' => WX K mg pv F held E x e'
def WA (pv : List (Nat × V)) (F : Hp) (held : List AT) (σ : L2.St) (Q : List V → Hp → Prop) (E : XS) : R (List RV) → Prop
  | .st => False
  | .ok rs e' => ∀ vs F' H' as' tr, Same F F' → Cf K mg pv F' H' σ e' as' (tr ++ held) → RRs σ vs rs tr → Q vs H'
  | .ex x e' => WX K mg pv F held E x e'
def WS (pv : List (Nat × V)) (F : Hp) (held : List AT) (E : XS) (D : Ends) : R Fl → Prop
  | .st => False
  | .ok .nx e' => ∀ σ' F' H' as', Same F F' → Cf K mg pv F' H' σ' e' as' held → D.nx σ' H'
  | .ok .bk e' => ∀ σ' F' H' as', Same F F' → Cf K mg pv F' H' σ' e' as' held → D.bk σ' H'
  | .ok .ct e' => ∀ σ' F' H' as', Same F F' → Cf K mg pv F' H' σ' e' as' held → D.ct σ' H'
  | .ok (.rt r) e' => ∀ v σ' F' H' as' tr, Same F F' → Cf K mg pv F' H' σ' e' as' (tr ++ held) → RR σ' v r tr → D.rt v H'
  | .ex x e' => WX K mg pv F held E x e'
def SE (E : XS) (t : TE) (m : M RV) : Prop := ∀ pv F H σ e as held Q, Cf K mg pv F H σ e as held → WE K mg pv F held σ Q E (m e) → t σ H Q
def ST (E : XS) (t : TT) (m : M Bool) : Prop := ∀ pv F H σ e as held Q, Cf K mg pv F H σ e as held → WT K mg pv F held σ Q E (m e) → t σ H Q
def SA (E : XS) (t : TA) (m : M (List RV)) : Prop := ∀ pv F H σ e as held Q, Cf K mg pv F H σ e as held → WA K mg pv F held σ Q E (m e) → t σ H Q
def SS (E : XS) (t : TS) (m : M Fl) : Prop := ∀ pv F H σ e as held D, Cf K mg pv F H σ e as held → WS K mg pv F held E D (m e) → t D σ H
end
section
variable {K : PySem.W.Frag} {mg : Str → Option Value} {pv : List (Nat × V)} {F F' H H' : Hp} {σ : L2.St} {e e' : Env} {as as' : List (Option AT)} {held tr ts : List AT} {E : XS}
theorem none_le {dd : Addr} (s : Same F F') (h : F' dd = none) : F dd = none := by
  cases q : F dd with
  | none => rfl
  | some o => rw [s _ _ q] at h; cases h
theorem WX.mono {x : Exc} (s : Same F F') (h : WX K mg pv F held E x e) : WX K mg pv F' held E x e := fun cls d F2 H2 σ2 as2 s2 c r n => h cls d F2 H2 σ2 as2 (s.trans s2) c r fun dd q => none_le s (n dd q)
theorem Cf.drop (c : Cf K mg pv F H σ e as (tr ++ held)) : Cf K mg pv F H σ e as held :=
  ⟨c.s, c.r, (c.g.perm (us := tr ++ (opts as ++ held)) (by rw [← List.append_assoc, ← List.append_assoc]; exact List.perm_append_comm.append_right held)).sub⟩
theorem Cf.fz {v : V} {d : D} (c : Cf K mg pv F H σ e as held) (r : Rep K mg F v d) : Cf K mg pv F H σ e as ([.fz v d] ++ held) :=
  ⟨c.s, c.r, (c.g.fz r).perm (by exact (List.perm_middle (l₁ := opts as) (l₂ := held) (a := AT.fz v d)).symm)⟩
theorem WX.drop {x : Exc} (h : WX K mg pv F held E x e) : WX K mg pv F (tr ++ held) E x e := fun cls d F2 H2 σ2 as2 s2 c r n => h cls d F2 H2 σ2 as2 s2 c.drop r n
theorem SR.slot {i : Nat} {t : AT} (r : SR pv σ e as) (h : as[i]? = some (some t)) : e.sl[i]? = some (some (er t)) := by
  rw [r.sl, List.getElem?_map, h]; rfl
theorem SR.slotOf {i : Nat} {s : SV} (r : SR pv σ e as) (h : e.sl[i]? = some (some s)) : ∃ t, as[i]? = some (some t) ∧ er t = s := by
  rw [r.sl, List.getElem?_map] at h
  cases q : as[i]? with
  | none => rw [q] at h; cases h
  | some o =>
    rw [q] at h
    cases o with
    | none => cases h
    | some t =>
      have h2 : some (some (er t)) = some (some s) := h
      exact ⟨t, rfl, by simpa using h2⟩
def view (e : Env) : RV → Option D
  | .fz d => some d
  | .own s => some s.toD
  | .var i => match e.sl[i]? with
    | some (some s) => some s.toD
    | _ => none
theorem Cf.seen {v : V} {r : RV} {d : D} (c : Cf K mg pv F H σ e as held) (h : RR σ v r tr) (hm : ∀ t ∈ tr, t ∈ held) (q : view e r = some d) : Rep K mg H v d := by
  cases r with
  | fz x =>
    have e1 : tr = [.fz v x] := h
    have e2 : x = d := Option.some.inj q
    subst e1 e2
    exact c.g.rep c.s (List.mem_append_right _ (hm _ List.mem_cons_self))
  | own s =>
    obtain ⟨t, e1, e2, e3⟩ := h
    have e4 : s.toD = d := Option.some.inj q
    subst e1 e2 e3 e4
    exact c.g.rep c.s (List.mem_append_right _ (hm _ List.mem_cons_self))
  | var i =>
    obtain ⟨_, hv⟩ := h
    have q' : (match e.sl[i]? with | some (some s) => some s.toD | _ => none) = some d := q
    cases z : e.sl[i]? with
    | none => rw [z] at q'; cases q'
    | some o =>
      cases o with
      | none => rw [z] at q'; cases q'
      | some s =>
        rw [z] at q'
        have e4 : s.toD = d := Option.some.inj q'
        obtain ⟨t, ht, e5⟩ := c.r.slotOf z
        have hv2 := c.r.at_ i t ht
        rw [hv] at hv2
        have e6 : v = t.val := by simpa using hv2
        subst e4 e5 e6
        exact c.g.rep c.s (List.mem_append_left _ (mem_opts ht))
theorem WE.bindE {α : Type} {f : RV → M α} {m : M RV} {W : R α → Prop} (hs : ¬ W .st) (h : W ((m e).bind f)) {P : V → Hp → Prop}
    (hx : ∀ x e', W (.ex x e') → WX K mg pv F held E x e')
    (k : ∀ r e' v F' H' as' tr, Same F F' → Cf K mg pv F' H' σ e' as' (tr ++ held) → RR σ v r tr → W (f r e') → P v H') : WE K mg pv F held σ P E (m e) := by
  cases q : m e with
  | st => rw [q] at h; exact absurd h hs
  | ok r e' => rw [q] at h; exact fun v F' H' as' tr s c rr => k r e' v F' H' as' tr s c rr h
  | ex x e' => rw [q] at h; exact hx x e' h
theorem WT.bindT {α : Type} {f : Bool → M α} {m : M Bool} {W : R α → Prop} (hs : ¬ W .st) (h : W ((m e).bind f)) {P : Bool → Hp → Prop}
    (hx : ∀ x e', W (.ex x e') → WX K mg pv F held E x e')
    (k : ∀ b e' F' H' as', Same F F' → Cf K mg pv F' H' σ e' as' held → W (f b e') → P b H') : WT K mg pv F held σ P E (m e) := by
  cases q : m e with
  | st => rw [q] at h; exact absurd h hs
  | ok r e' => rw [q] at h; exact fun F' H' as' s c => k r e' F' H' as' s c h
  | ex x e' => rw [q] at h; exact hx x e' h
theorem WA.bindA {α : Type} {f : List RV → M α} {m : M (List RV)} {W : R α → Prop} (hs : ¬ W .st) (h : W ((m e).bind f)) {P : List V → Hp → Prop}
    (hx : ∀ x e', W (.ex x e') → WX K mg pv F held E x e')
    (k : ∀ rs e' vs F' H' as' tr, Same F F' → Cf K mg pv F' H' σ e' as' (tr ++ held) → RRs σ vs rs tr → W (f rs e') → P vs H') : WA K mg pv F held σ P E (m e) := by
  cases q : m e with
  | st => rw [q] at h; exact absurd h hs
  | ok r e' => rw [q] at h; exact fun v F' H' as' tr s c rr => k r e' v F' H' as' tr s c rr h
  | ex x e' => rw [q] at h; exact hx x e' h
theorem WE.mono {Q : VK} {r : R RV} (s : Same F F') (h : WE K mg pv F held σ Q E r) : WE K mg pv F' held σ Q E r := by
  cases r with
  | st => exact h
  | ok r e' => exact fun v F2 H2 as2 tr2 s2 c rr => h v F2 H2 as2 tr2 (s.trans s2) c rr
  | ex x e' => exact WX.mono s h
theorem WT.mono {Q : Bool → Hp → Prop} {r : R Bool} (s : Same F F') (h : WT K mg pv F held σ Q E r) : WT K mg pv F' held σ Q E r := by
  cases r with
  | st => exact h
  | ok r e' => exact fun F2 H2 as2 s2 c => h F2 H2 as2 (s.trans s2) c
  | ex x e' => exact WX.mono s h
theorem WA.mono {Q : List V → Hp → Prop} {r : R (List RV)} (s : Same F F') (h : WA K mg pv F held σ Q E r) : WA K mg pv F' held σ Q E r := by
  cases r with
  | st => exact h
  | ok r e' => exact fun v F2 H2 as2 tr2 s2 c rr => h v F2 H2 as2 tr2 (s.trans s2) c rr
  | ex x e' => exact WX.mono s h
theorem WS.mono {D : Ends} {r : R Fl} (s : Same F F') (h : WS K mg pv F held E D r) : WS K mg pv F' held E D r := by
  cases r with
  | st => exact h
  | ok r e' => cases r with
    | nx => exact fun σ2 F2 H2 as2 s2 c => h σ2 F2 H2 as2 (s.trans s2) c
    | bk => exact fun σ2 F2 H2 as2 s2 c => h σ2 F2 H2 as2 (s.trans s2) c
    | ct => exact fun σ2 F2 H2 as2 s2 c => h σ2 F2 H2 as2 (s.trans s2) c
    | rt r => exact fun v σ2 F2 H2 as2 tr2 s2 c rr => h v σ2 F2 H2 as2 tr2 (s.trans s2) c rr
  | ex x e' => exact WX.mono s h
theorem rep_imm {d : D} {v : V} (h : imm d = some v) : Rep K mg F v d := by
  cases d <;> first | (cases h; rfl) | cases h
def dVar (i : Nat) : M RV := fun e => match e.sl[i]? with
  | some (some (.fz d)) => .ok (.fz d) e
  | some (some _) => .ok (.var i) e
  | _ => .st
def dC (d : D) : M RV := fun e => .ok (.fz d) e
theorem se_var {i : Nat} : SE K mg E (tVar i) (dVar i) := by
  intro pv F H σ e as held Q c w
  unfold dVar at w
  cases z : e.sl[i]? with
  | none => rw [z] at w; exact w.elim
  | some o =>
    cases o with
    | none => rw [z] at w; exact w.elim
    | some s =>
      rw [z] at w
      obtain ⟨t, ht, et⟩ := c.r.slotOf z
      have hv := c.r.at_ i t ht
      refine ⟨t.val, hv, ?_⟩
      cases s with
      | fz d =>
        cases t with
        | fz v d' =>
          have ed : d' = d := by simpa [er] using et
          subst ed
          have rp : Rep K mg F v d' := Oks.mem.mp c.g.ok _ (List.mem_append_left _ (mem_opts ht))
          exact w v F H as _ (Same.refl _) (c.fz rp) rfl
        | ol _ _ => simp [er] at et
        | oo _ _ _ _ _ _ => simp [er] at et
        | od _ _ _ => simp [er] at et
      | ol xs => exact w t.val F H as [] (Same.refl _) c ⟨rfl, hv⟩
      | oo c' ns xs => exact w t.val F H as [] (Same.refl _) c ⟨rfl, hv⟩
      | od ks xs => exact w t.val F H as [] (Same.refl _) c ⟨rfl, hv⟩
theorem se_c {v : V} {d : D} (h : imm d = some v := by rfl) : SE K mg E (tC v) (dC d) := by
  intro pv F H σ e as held Q c w
  exact w v F H as _ (Same.refl _) (c.fz (rep_imm h)) rfl
def dOp (f : D → D → Option D) (a b : M RV) : M RV := a.bind fun r => b.bind fun q => fun e => match view e r, view e q with
  | some x, some y => (match f x y with
    | some d => .ok (.fz d) e
    | none => .st)
  | _, _ => .st
def OpD (r : R2) (K : PySem.W.Frag) (mg : Str → Option Value) (f : D → D → Option D) : Prop := ∀ (H : Hp) (x y : V) (a b d : D), Rep K mg H x a → Rep K mg H y b → f a b = some d → ∃ v, imm d = some v ∧ ∀ Q : VK, Q v H → r x y H Q
theorem se_op {r : R2} {f : D → D → Option D} {ta tb : TE} {ma mb : M RV} (hr : OpD r K mg f) (ha : SE K mg E ta ma) (hb : SE K mg E tb mb) : SE K mg E (tOp r ta tb) (dOp f ma mb) := by
  intro pv F H σ e as held Q c w
  refine ha pv F H σ e as held _ c (WE.bindE (W := WE K mg pv F held σ Q E) (fun z => z) w (fun _ _ z => z) fun r1 e1 v1 F1 H1 as1 tr1 s1 c1 rr1 w1 => ?_)
  refine hb pv F1 H1 σ e1 as1 (tr1 ++ held) _ c1 (WE.bindE (W := WE K mg pv F held σ Q E) (fun z => z) w1 (fun _ _ z => (WX.mono s1 z).drop) fun r2 e2 v2 F2 H2 as2 tr2 s2 c2 rr2 w2 => ?_)
  have w2' : WE K mg pv F held σ Q E (match view e2 r1, view e2 r2 with
    | some x, some y => (match f x y with
      | some d => .ok (.fz d) e2
      | none => .st)
    | _, _ => .st) := w2
  cases q1 : view e2 r1 with
  | none => rw [q1] at w2'; exact w2'.elim
  | some x =>
    cases q2 : view e2 r2 with
    | none => rw [q1, q2] at w2'; exact w2'.elim
    | some y =>
      rw [q1, q2] at w2'
      cases q3 : f x y with
      | none => simp only [q3] at w2'; exact w2'.elim
      | some d =>
        simp only [q3] at w2'
        have p1 := c2.seen rr1 (fun t ht => List.mem_append_right _ (List.mem_append_left _ ht)) q1
        have p2 := c2.seen rr2 (fun t ht => List.mem_append_left _ ht) q2
        obtain ⟨v, hv, k⟩ := hr H2 v1 v2 x y d p1 p2 q3
        exact k Q (w2' v F2 H2 as2 _ (s1.trans s2) (c2.drop.drop.fz (rep_imm hv)) rfl)
def dNil : M (List RV) := fun e => .ok [] e
def dCons (a : M RV) (b : M (List RV)) : M (List RV) := a.bind fun r => b.bind fun rs => fun e => .ok (r :: rs) e
theorem sa_nil : SA K mg E tNil dNil := by
  intro pv F H σ e as held Q c w
  exact w [] F H as [] (Same.refl _) c rfl
theorem sa_cons {ta : TE} {tb : TA} {ma : M RV} {mb : M (List RV)} (ha : SE K mg E ta ma) (hb : SA K mg E tb mb) : SA K mg E (tCons ta tb) (dCons ma mb) := by
  intro pv F H σ e as held Q c w
  refine ha pv F H σ e as held _ c (WE.bindE (W := WA K mg pv F held σ Q E) (fun z => z) w (fun _ _ z => z) fun r1 e1 v1 F1 H1 as1 tr1 s1 c1 rr1 w1 => ?_)
  refine hb pv F1 H1 σ e1 as1 (tr1 ++ held) _ c1 (WA.bindA (W := WA K mg pv F held σ Q E) (fun z => z) w1 (fun _ _ z => (WX.mono s1 z).drop) fun r2 e2 v2 F2 H2 as2 tr2 s2 c2 rr2 w2 => ?_)
  exact w2 (v1 :: v2) F2 H2 as2 (tr2 ++ tr1) (s1.trans s2) (by rw [List.append_assoc]; exact c2) ⟨tr1, tr2, rfl, rr1, rr2⟩
theorem RRs.seen {rs : List RV} : ∀ {vs : List V} {tr : List AT} {rs : List RV} {ds : List D}, Cf K mg pv F H σ e as held → RRs σ vs rs tr → (∀ t ∈ tr, t ∈ held) → rs.mapM (view e) = some ds → Reps K mg H vs ds
  | [], tr, [], ds, _, _, _, q => by
    have : ds = [] := by simpa using q.symm
    subst this
    trivial
  | v :: vs, tr, r :: rs, ds, c, ⟨t1, t2, e1, h1, h2⟩, hm, q => by
    subst e1
    cases q1 : view e r with
    | none => simp [q1] at q
    | some d =>
      cases q2 : rs.mapM (view e) with
      | none => simp [q1, q2] at q
      | some ds' =>
        have : ds = d :: ds' := by simpa [q1, q2] using q.symm
        subst this
        exact ⟨c.seen h1 (fun t ht => hm t (List.mem_append_right _ ht)) q1, RRs.seen (rs := rs) c h2 (fun t ht => hm t (List.mem_append_left _ ht)) q2⟩
  | [], _, _ :: _, _, _, h, _, _ => h.elim
  | _ :: _, _, [], _, _, h, _, _ => h.elim
def dCB (f : List D → Option D) (a : M (List RV)) : M RV := a.bind fun rs => fun e => match rs.mapM (view e) with
  | some xs => (match f xs with
    | some d => .ok (.fz d) e
    | none => .st)
  | none => .st
def CbD (r : List V → Hp → VK → Prop) (K : PySem.W.Frag) (mg : Str → Option Value) (f : List D → Option D) : Prop := ∀ (H : Hp) (xs : List V) (as : List D) (d : D), Reps K mg H xs as → f as = some d → ∃ v, imm d = some v ∧ ∀ Q : VK, Q v H → r xs H Q
theorem se_cb {r : List V → Hp → VK → Prop} {f : List D → Option D} {ta : TA} {ma : M (List RV)} (hr : CbD r K mg f) (ha : SA K mg E ta ma) : SE K mg E (tCB r ta) (dCB f ma) := by
  intro pv F H σ e as held Q c w
  refine ha pv F H σ e as held _ c (WA.bindA (W := WE K mg pv F held σ Q E) (fun z => z) w (fun _ _ z => z) fun r1 e1 v1 F1 H1 as1 tr1 s1 c1 rr1 w1 => ?_)
  have w2' : WE K mg pv F held σ Q E (match r1.mapM (view e1) with
    | some x => (match f x with
      | some d => .ok (.fz d) e1
      | none => .st)
    | none => .st) := w1
  cases q1 : r1.mapM (view e1) with
  | none => rw [q1] at w2'; exact w2'.elim
  | some x =>
    rw [q1] at w2'
    cases q3 : f x with
    | none => simp only [q3] at w2'; exact w2'.elim
    | some d =>
      simp only [q3] at w2'
      have p1 := RRs.seen (rs := r1) c1 rr1 (fun t ht => List.mem_append_left _ ht) q1
      obtain ⟨v, hv, k⟩ := hr H1 v1 x d p1 q3
      exact k Q (w2' v F1 H1 as1 _ s1 (c1.drop.fz (rep_imm hv)) rfl)
def dT (a : M RV) : M Bool := a.bind fun r => fun e => match view e r with
  | some (.bl b) => .ok b e
  | _ => .st
theorem st_val {ta : TE} {ma : M RV} (ha : SE K mg E ta ma) : ST K mg E (tB ta) (dT ma) := by
  intro pv F H σ e as held Q c w
  refine ha pv F H σ e as held _ c (WE.bindE (W := WT K mg pv F held σ Q E) (fun z => z) w (fun _ _ z => z) fun r1 e1 v1 F1 H1 as1 tr1 s1 c1 rr1 w1 => ?_)
  have w2' : WT K mg pv F held σ Q E (match view e1 r1 with
    | some (.bl b) => .ok b e1
    | _ => .st) := w1
  cases q1 : view e1 r1 with
  | none => rw [q1] at w2'; exact w2'.elim
  | some x =>
    rw [q1] at w2'
    have p1 := c1.seen rr1 (fun t ht => List.mem_append_left _ ht) q1
    cases x with
    | bl b => exact ⟨b, p1, w2' F1 H1 as1 s1 c1.drop⟩
    | _ => exact w2'.elim
theorem st_test {ta : TE} {ma : M RV} (ha : SE K mg E ta ma) : ST K mg E (tTest ta) (dT ma) := st_val ha
def dAnd (a b : M Bool) : M Bool := a.bind fun c => match c with
  | true => b
  | false => fun e => .ok false e
def dOr (a b : M Bool) : M Bool := a.bind fun c => match c with
  | true => fun e => .ok true e
  | false => b
def dNot (a : M Bool) : M Bool := a.bind fun c e => .ok (!c) e
theorem st_and {ta tb : TT} {ma mb : M Bool} (ha : ST K mg E ta ma) (hb : ST K mg E tb mb) : ST K mg E (tAnd ta tb) (dAnd ma mb) := by
  intro pv F H σ e as held Q c w
  refine ha pv F H σ e as held _ c (WT.bindT (W := WT K mg pv F held σ Q E) (fun z => z) w (fun _ _ z => z) fun b e1 F1 H1 as1 s1 c1 w1 => ?_)
  cases b with
  | true => exact hb pv F1 H1 σ e1 as1 held Q c1 (WT.mono s1 w1)
  | false => exact w1 F1 H1 as1 s1 c1
theorem st_or {ta tb : TT} {ma mb : M Bool} (ha : ST K mg E ta ma) (hb : ST K mg E tb mb) : ST K mg E (tOr ta tb) (dOr ma mb) := by
  intro pv F H σ e as held Q c w
  refine ha pv F H σ e as held _ c (WT.bindT (W := WT K mg pv F held σ Q E) (fun z => z) w (fun _ _ z => z) fun b e1 F1 H1 as1 s1 c1 w1 => ?_)
  cases b with
  | true => exact w1 F1 H1 as1 s1 c1
  | false => exact hb pv F1 H1 σ e1 as1 held Q c1 (WT.mono s1 w1)
theorem st_not {ta : TT} {ma : M Bool} (ha : ST K mg E ta ma) : ST K mg E (tNot ta) (dNot ma) := by
  intro pv F H σ e as held Q c w
  exact ha pv F H σ e as held _ c (WT.bindT (W := WT K mg pv F held σ Q E) (fun z => z) w (fun _ _ z => z) fun b e1 F1 H1 as1 s1 c1 w1 => w1 F1 H1 as1 s1 c1)
def dSeq (a b : M Fl) : M Fl := a.bind fun f => match f with
  | .nx => b
  | f => fun e => .ok f e
def dNext : M Fl := fun e => .ok .nx e
def dIf (c : M Bool) (a b : M Fl) : M Fl := c.bind fun k => match k with
  | true => a
  | false => b
theorem ss_next : SS K mg E tNext dNext := by
  intro pv F H σ e as held D c w
  exact w σ F H as (Same.refl _) c
theorem ss_seq {ta tb : TS} {ma mb : M Fl} (ha : SS K mg E ta ma) (hb : SS K mg E tb mb) : SS K mg E (tSeq ta tb) (dSeq ma mb) := by
  intro pv F H σ e as held D c w
  refine ha pv F H σ e as held _ c ?_
  have w' : WS K mg pv F held E D ((ma e).bind fun f => match f with
    | .nx => mb
    | f => fun e => .ok f e) := w
  cases q : ma e with
  | st => rw [q] at w'; exact w'.elim
  | ex x e' => rw [q] at w'; exact w'
  | ok f e' =>
    rw [q] at w'
    cases f with
    | nx => exact fun σ1 F1 H1 as1 s1 c1 => hb pv F1 H1 σ1 e' as1 held D c1 (WS.mono s1 w')
    | bk => exact w'
    | ct => exact w'
    | rt r => exact w'
theorem ss_if {tc : TT} {ta tb : TS} {mc : M Bool} {ma mb : M Fl} (hc : ST K mg E tc mc) (ha : SS K mg E ta ma) (hb : SS K mg E tb mb) : SS K mg E (tIfS tc ta tb) (dIf mc ma mb) := by
  intro pv F H σ e as held D c w
  refine hc pv F H σ e as held _ c (WT.bindT (W := WS K mg pv F held E D) (fun z => z) w (fun _ _ z => z) fun b e1 F1 H1 as1 s1 c1 w1 => ?_)
  cases b with
  | true => exact ha pv F1 H1 σ e1 as1 held D c1 (WS.mono s1 w1)
  | false => exact hb pv F1 H1 σ e1 as1 held D c1 (WS.mono s1 w1)
def dRet (a : M RV) : M Fl := a.bind fun r e => .ok (.rt r) e
theorem ss_ret {ta : TE} {ma : M RV} (ha : SE K mg E ta ma) : SS K mg E (tRet ta) (dRet ma) := by
  intro pv F H σ e as held D c w
  exact ha pv F H σ e as held _ c (WE.bindE (W := WS K mg pv F held E D) (fun z => z) w (fun _ _ z => z) fun r1 e1 v1 F1 H1 as1 tr1 s1 c1 rr1 w1 => w1 v1 σ F1 H1 as1 tr1 s1 c1 rr1)
def dDrop (a : M RV) : M Fl := a.bind fun _ e => .ok .nx e
theorem ss_drop {ta : TE} {ma : M RV} (ha : SE K mg E ta ma) : SS K mg E (tDrop ta) (dDrop ma) := by
  intro pv F H σ e as held D c w
  exact ha pv F H σ e as held _ c (WE.bindE (W := WS K mg pv F held E D) (fun z => z) w (fun _ _ z => z) fun r1 e1 v1 F1 H1 as1 tr1 s1 c1 rr1 w1 => w1 σ F1 H1 as1 s1 c1.drop)
end
end VF
set_option maxRecDepth 100000
set_option maxHeartbeats 4000000
namespace VF
set_option autoImplicit false
open PySem PySem.Spec PyProof.Rows L2
open AT (cells cellsL er ers)
section
variable {K : PySem.W.Frag} {mg : Str → Option Value} {pv : List (Nat × V)} {F F' H H' : Hp} {σ : L2.St} {e e' : Env} {as as' : List (Option AT)} {held tr ts us : List AT} {E : XS}
theorem same_new {p : Addr} {o : HO} (h : H p = none) : Same H (upd H p o) := fun b x e => by
  rw [upd_ne (ne_of_none e h)]; exact e
theorem same_own {p : Addr} {o : HO} (s : Same F H) (h : F p = none) : Same F (upd H p o) := fun b x e => by
  rw [upd_ne (ne_of_none e h)]; exact s b x e
theorem same_both {p : Addr} {o : HO} (s : Same F H) (h : H p = none) : Same F (upd F p o) ∧ Same (upd F p o) (upd H p o) :=
  ⟨same_new (s.free h), fun b x e => by
    by_cases q : b = p
    · subst q; rw [upd_same] at e ⊢; exact e
    · rw [upd_ne q] at e ⊢; exact s b x e⟩
theorem Good.grow {p : Addr} {o : HO} (g : Good K mg F H us) (h : H p = none) : Good K mg F (upd H p o) us :=
  ⟨fun c hc => ⟨by rw [upd_ne (ne_of_none (g.at_ c hc).1 h)]; exact (g.at_ c hc).1, (g.at_ c hc).2⟩, g.ok, g.nd⟩
theorem Good.new {p : Addr} {xs : List AT} (g : Good K mg F H (xs ++ us)) (s : Same F H) (h : H p = none) : Good K mg F (upd H p (.lst (vals xs))) (.ol p xs :: us) := by
  have g2 := g.grow (o := .lst (vals xs)) h
  have hp : ∀ c ∈ cellsL (xs ++ us), c.1 ≠ p := fun c hc => ne_of_none (g.at_ c hc).1 h
  have ok := Oks.append.mp g.ok
  refine ⟨fun c hc => ?_, ⟨ok.1, ok.2⟩, ?_⟩
  · have hc' : c ∈ (p, HO.lst (vals xs)) :: (cellsL xs ++ cellsL us) := hc
    rcases List.mem_cons.mp hc' with e | hc'
    · subst e; exact ⟨upd_same, s.free h⟩
    · exact g2.at_ c (by rw [cellsL_append]; exact hc')
  · show (((p, HO.lst (vals xs)) :: (cellsL xs ++ cellsL us)).map (·.1)).Nodup
    rw [List.map_cons, List.nodup_cons, ← cellsL_append]
    refine ⟨fun q => ?_, g.nd⟩
    obtain ⟨c, hc, ec⟩ := List.mem_map.mp q
    exact hp c hc ec
theorem Good.newF {p : Addr} {o : HO} (g : Good K mg F H us) (s : Same F H) (h : H p = none) : Good K mg (upd F p o) (upd H p o) us := by
  have sb := same_both (o := o) s h
  refine ⟨fun c hc => ?_, Oks.same sb.1 g.ok, g.nd⟩
  have ne := ne_of_none (g.at_ c hc).1 h
  rw [upd_ne ne, upd_ne ne]
  exact g.at_ c hc
theorem Good.relist {p : Addr} {xs ys zs junk : List AT} (g : Good K mg F H (.ol p xs :: us)) (pm : (xs ++ us).Perm (junk ++ (ys ++ zs))) : Good K mg F (upd H p (.lst (vals ys))) (.ol p ys :: zs) := by
  have nd : (((p, HO.lst (vals xs)) :: (cellsL xs ++ cellsL us)).map (·.1)).Nodup := g.nd
  rw [List.map_cons, List.nodup_cons, ← cellsL_append] at nd
  have g1 : Good K mg F H (xs ++ us) := ⟨fun c hc => g.at_ c (List.mem_cons_of_mem _ (by rw [cellsL_append] at hc; exact hc)), Oks.append.mpr g.ok, nd.2⟩
  have g2 : Good K mg F H (ys ++ zs) := (g1.perm pm).sub
  have mem : ∀ c ∈ cellsL (ys ++ zs), c ∈ cellsL (xs ++ us) := fun c hc => (cellsL_perm pm).mem_iff.mpr (by rw [cellsL_append]; exact List.mem_append_right _ hc)
  have hp : ∀ c ∈ cellsL (ys ++ zs), c.1 ≠ p := fun c hc q => nd.1 (List.mem_map.mpr ⟨c, mem c hc, q⟩)
  have ok := Oks.append.mp g2.ok
  have hF : F p = none := (g.at_ (p, .lst (vals xs)) List.mem_cons_self).2
  refine ⟨fun c hc => ?_, ⟨ok.1, ok.2⟩, ?_⟩
  · have hc' : c ∈ (p, HO.lst (vals ys)) :: (cellsL ys ++ cellsL zs) := hc
    rcases List.mem_cons.mp hc' with e | hc'
    · subst e; exact ⟨upd_same, hF⟩
    · rw [← cellsL_append] at hc'
      rw [upd_ne (hp c hc')]
      exact g2.at_ c hc'
  · show (((p, HO.lst (vals ys)) :: (cellsL ys ++ cellsL zs)).map (·.1)).Nodup
    rw [List.map_cons, List.nodup_cons, ← cellsL_append]
    exact ⟨fun q => by obtain ⟨c, hc, ec⟩ := List.mem_map.mp q; exact hp c hc ec, g2.nd⟩
theorem Good.cell {p : Addr} {xs : List AT} (g : Good K mg F H (.ol p xs :: us)) : H p = some (.lst (vals xs)) ∧ F p = none := g.at_ (p, .lst (vals xs)) List.mem_cons_self
def Env.setS (e : Env) (i : Nat) (s : SV) : Env := ⟨e.sl.set i (some s), e.pn⟩
theorem Cf.take {i : Nat} {t : AT} (c : Cf K mg pv F H σ e as held) (h : as[i]? = some (some t)) : Good K mg F H (t :: (opts (as.set i none) ++ held)) :=
  c.g.perm ((opts_take h).append_right held)
theorem SR.put {i : Nat} {t t' : AT} (r : SR pv σ e as) (h : as[i]? = some (some t)) (hv : t'.val = t.val) : SR pv σ (e.setS i (er t')) (as.set i (some t')) where
  sl := by show e.sl.set i (some (er t')) = _; rw [List.map_set, r.sl]; rfl
  len := by rw [List.length_set]; exact r.len
  at_ := fun j u hj => by
    by_cases q : j = i
    · subst q
      have hlt : j < as.length := (List.getElem?_eq_some_iff.mp h).1
      rw [List.getElem?_set_self hlt] at hj
      cases hj
      rw [hv]
      exact r.at_ j t h
    · rw [List.getElem?_set_ne (Ne.symm q)] at hj
      exact r.at_ j u hj
  pin := r.pin
theorem Cf.put {i : Nat} {t t' : AT} (r : SR pv σ e as) (h : as[i]? = some (some t)) (s : Same F' H') (g : Good K mg F' H' (t' :: (opts (as.set i none) ++ held))) (hv : t'.val = t.val) :
    Cf K mg pv F' H' σ (e.setS i (er t')) (as.set i (some t')) held := by
  refine ⟨s, r.put h hv, ?_⟩
  have hlt : i < as.length := (List.getElem?_eq_some_iff.mp h).1
  have := opts_put (as := as.set i none) (i := i) t' (by simp [hlt])
  rw [List.set_set] at this
  exact g.perm (this.append_right held)
theorem Cf.frzS {i : Nat} {t : AT} (c : Cf K mg pv F H σ e as held) (h : as[i]? = some (some t)) :
    ∃ F', Same F F' ∧ Cf K mg pv F' H σ (e.setS i (.fz (er t).toD)) (as.set i (some (.fz t.val (er t).toD))) held ∧ Rep K mg F' t.val (er t).toD := by
  obtain ⟨s1, s2, g⟩ := (c.take h).freeze c.s
  exact ⟨_, s1, Cf.put c.r h s2 g rfl, g.unfz.2⟩
def frzR (r : RV) (e : Env) : Option (D × Env) := match r with
  | .fz d => some (d, e)
  | .own s => some (s.toD, e)
  | .var i => match e.sl[i]? with
    | some (some s) => some (s.toD, e.setS i (.fz s.toD))
    | _ => none
theorem Cf.frzR {v : V} {r : RV} {d : D} {e' : Env} (c : Cf K mg pv F H σ e as (tr ++ held)) (h : RR σ v r tr) (q : frzR r e = some (d, e')) :
    ∃ F' as', Same F F' ∧ Cf K mg pv F' H σ e' as' held ∧ Rep K mg F' v d := by
  cases r with
  | fz y =>
    have q' : some (y, e) = some (d, e') := q
    cases q'
    have e1 : tr = [.fz v d] := h
    subst e1
    have ok := Oks.mem.mp c.g.ok (.fz v d) (List.mem_append_right _ (List.mem_append_left _ List.mem_cons_self))
    exact ⟨F, as, Same.refl _, c.drop, ok⟩
  | own s =>
    have q' : some (s.toD, e) = some (d, e') := q
    cases q'
    obtain ⟨t, e1, e2, e3⟩ := h
    subst e1 e2 e3
    have g : Good K mg F H (t :: (opts as ++ held)) := c.g.perm (List.perm_middle (l₁ := opts as) (l₂ := held) (a := t))
    obtain ⟨s1, s2, g'⟩ := g.freeze c.s
    exact ⟨_, as, s1, ⟨s2, c.r, g'.unfz.1⟩, g'.unfz.2⟩
  | var i =>
    obtain ⟨e1, hv⟩ := h
    subst e1
    have q' : (match e.sl[i]? with | some (some s) => some (s.toD, e.setS i (.fz s.toD)) | _ => none) = some (d, e') := q
    cases z : e.sl[i]? with
    | none => rw [z] at q'; cases q'
    | some o =>
      cases o with
      | none => rw [z] at q'; cases q'
      | some s =>
        rw [z] at q'
        cases q'
        obtain ⟨t, ht, et⟩ := c.r.slotOf z
        subst et
        obtain ⟨F', s1, c', rp⟩ := c.frzS ht
        have hv2 := c.r.at_ i t ht
        rw [hv] at hv2
        have ev : v = t.val := by simpa using hv2
        subst ev
        exact ⟨F', _, s1, c', rp⟩
def frzRs : List RV → Env → Option (List D × Env)
  | [], e => some ([], e)
  | r :: rs, e => match frzR r e with
    | some (d, e1) => (match frzRs rs e1 with
      | some (ds, e2) => some (d :: ds, e2)
      | none => none)
    | none => none
theorem Cf.frzRs : ∀ {rs : List RV} {vs : List V} {ds : List D} {F : Hp} {e e' : Env} {as : List (Option AT)} {tr : List AT}, Cf K mg pv F H σ e as (tr ++ held) → RRs σ vs rs tr → frzRs rs e = some (ds, e') →
    ∃ F' as', Same F F' ∧ Cf K mg pv F' H σ e' as' held ∧ Reps K mg F' vs ds
  | [], [], ds, F, e, e', as, tr, c, h, q => by
    have e1 : tr = [] := h
    subst e1
    have q' : some (([] : List D), e) = some (ds, e') := q
    cases q'
    exact ⟨F, as, Same.refl _, c, trivial⟩
  | r :: rs, v :: vs, ds, F, e, e', as, tr, c, ⟨t1, t2, e1, h1, h2⟩, q => by
    subst e1
    have q' : (match VF.frzR r e with
      | some (d, e1) => (match VF.frzRs rs e1 with
        | some (ds, e2) => some (d :: ds, e2)
        | none => none)
      | none => none) = some (ds, e') := q
    cases q1 : VF.frzR r e with
    | none => rw [q1] at q'; cases q'
    | some p =>
      obtain ⟨d, e1⟩ := p
      rw [q1] at q'
      cases q2 : VF.frzRs rs e1 with
      | none => simp only [q2] at q'; cases q'
      | some p2 =>
        obtain ⟨ds2, e2⟩ := p2
        simp only [q2] at q'
        cases q'
        have c1 : Cf K mg pv F H σ e as (t1 ++ (t2 ++ held)) := ⟨c.s, c.r, c.g.perm (by
          refine List.Perm.append_left _ ?_
          rw [List.append_assoc]
          rw [← List.append_assoc, ← List.append_assoc]
          exact List.perm_append_comm.append_right held)⟩
        obtain ⟨F1, as1, s1, c2, rp⟩ := c1.frzR h1 q1
        obtain ⟨F2, as2, s2, c3, rps⟩ := Cf.frzRs c2 h2 q2
        exact ⟨F2, as2, s1.trans s2, c3, Rep.same s2 rp, rps⟩
  | [], _ :: _, _, _, _, _, _, _, _, h, _ => h.elim
  | _ :: _, [], _, _, _, _, _, _, _, h, _ => h.elim
def putR (i : Nat) (r : RV) (e : Env) : Option Env := if i ∈ e.pn then none else match r with
  | .fz d => some (e.setS i (.fz d))
  | .own s => some (e.setS i s)
  | .var j => match e.sl[j]? with
    | some (some s) => some ((e.setS j (.fz s.toD)).setS i (.fz s.toD))
    | _ => none
theorem SR.store {i : Nat} {t : AT} (r : SR pv σ e as) (hi : i ∉ e.pn) : SR pv (σ.set i (some t.val)) (e.setS i (er t)) (as.set i (some t)) where
  sl := by show e.sl.set i (some (er t)) = _; rw [List.map_set, r.sl]; rfl
  len := by rw [List.length_set, List.length_set]; exact r.len
  at_ := fun j u hj => by
    by_cases q : j = i
    · subst q
      have hlt : j < as.length := by
        have := (List.getElem?_eq_some_iff.mp hj).1
        simpa using this
      rw [List.getElem?_set_self hlt] at hj
      cases hj
      rw [List.getElem?_set_self (by rw [r.len]; exact hlt)]
    · rw [List.getElem?_set_ne (Ne.symm q)] at hj ⊢
      exact r.at_ j u hj
  pin := fun p hp => by
    obtain ⟨h1, h2⟩ := r.pin p hp
    refine ⟨h1, ?_⟩
    have ne : i ≠ p.1 := fun q => hi (by rw [q]; exact h1)
    rw [List.getElem?_set_ne ne]
    exact h2
theorem Cf.store {i : Nat} {t : AT} (c : Cf K mg pv F H σ e as ([t] ++ held)) (hi : i ∉ e.pn) : Cf K mg pv F H (σ.set i (some t.val)) (e.setS i (er t)) (as.set i (some t)) held := by
  refine ⟨c.s, c.r.store hi, ?_⟩
  obtain ⟨L, p⟩ := opts_set (as := as) (i := i) t
  have p2 : (opts as ++ ([t] ++ held)).Perm (L ++ (opts (as.set i (some t)) ++ held)) := by
    refine (List.perm_middle (l₁ := opts as) (l₂ := held) (a := t)).trans ?_
    have := p.append_right held
    rw [List.append_assoc] at this
    exact this
  exact (c.g.perm p2).sub
theorem Cf.putR {i : Nat} {v : V} {r : RV} (c : Cf K mg pv F H σ e as (tr ++ held)) (h : RR σ v r tr) (q : putR i r e = some e') :
    ∃ F' as', Same F F' ∧ Cf K mg pv F' H (σ.set i (some v)) e' as' held := by
  unfold VF.putR at q
  by_cases hi : i ∈ e.pn
  · rw [if_pos hi] at q; cases q
  rw [if_neg hi] at q
  cases r with
  | fz d =>
    cases q
    have e1 : tr = [.fz v d] := h
    subst e1
    exact ⟨F, _, Same.refl _, c.store hi⟩
  | own s =>
    cases q
    obtain ⟨t, e1, e2, e3⟩ := h
    subst e1 e2 e3
    exact ⟨F, _, Same.refl _, c.store hi⟩
  | var j =>
    obtain ⟨e1, hv⟩ := h
    subst e1
    cases z : e.sl[j]? with
    | none => simp only [z] at q; cases q
    | some o =>
      cases o with
      | none => simp only [z] at q; cases q
      | some s =>
        simp only [z] at q
        cases q
        obtain ⟨t, ht, et⟩ := c.r.slotOf z
        subst et
        obtain ⟨F', s1, c', rp⟩ := c.frzS ht
        have hv2 := c.r.at_ j t ht
        rw [hv] at hv2
        have ev : v = t.val := by simpa using hv2
        subst ev
        exact ⟨F', _, s1, Cf.store (t := .fz t.val (er t).toD) (c'.fz rp) hi⟩
def dSet (i : Nat) (a : M RV) : M Fl := a.bind fun r e => match putR i r e with
  | some e' => .ok .nx e'
  | none => .st
theorem ss_set {i : Nat} {ta : TE} {ma : M RV} (ha : SE K mg E ta ma) : SS K mg E (tAsg ta (gName i)) (dSet i ma) := by
  intro pv F H σ e as held D c w
  refine ha pv F H σ e as held _ c (WE.bindE (W := WS K mg pv F held E D) (fun z => z) w (fun _ _ z => z) fun r1 e1 v1 F1 H1 as1 tr1 s1 c1 rr1 w1 => ?_)
  have w2 : WS K mg pv F held E D (match putR i r1 e1 with
    | some e' => .ok .nx e'
    | none => .st) := w1
  cases q : putR i r1 e1 with
  | none => rw [q] at w2; exact w2.elim
  | some e' =>
    rw [q] at w2
    obtain ⟨F', as', s', c'⟩ := c1.putR rr1 q
    exact w2 _ F' H1 as' (s1.trans s') c'
def dLst (a : M (List RV)) : M RV := a.bind fun rs e => match frzRs rs e with
  | some (ds, e') => if ds.length ≤ sizeLine then .ok (.own (.ol (ds.map .fz))) e' else .st
  | none => .st
def atoms (vs : List V) (ds : List D) : List AT := (vs.zip ds).map fun p => .fz p.1 p.2
theorem vals_atoms : ∀ {vs : List V} {ds : List D}, Reps K mg F vs ds → vals (atoms vs ds) = vs
  | [], [], _ => rfl
  | v :: vs, d :: ds, ⟨_, h⟩ => congrArg (v :: ·) (vals_atoms h)
  | [], _ :: _, h => h.elim
  | _ :: _, [], h => h.elim
theorem ers_atoms : ∀ {vs : List V} {ds : List D}, Reps K mg F vs ds → ers (atoms vs ds) = ds.map .fz
  | [], [], _ => rfl
  | v :: vs, d :: ds, ⟨_, h⟩ => congrArg (SV.fz d :: ·) (ers_atoms h)
  | [], _ :: _, h => h.elim
  | _ :: _, [], h => h.elim
theorem cells_atoms : ∀ (vs : List V) (ds : List D), cellsL (atoms vs ds) = []
  | [], _ => rfl
  | _ :: _, [] => rfl
  | v :: vs, d :: ds => cells_atoms vs ds
theorem oks_atoms : ∀ {vs : List V} {ds : List D}, Reps K mg F vs ds → Oks K mg F (atoms vs ds)
  | [], [], _ => trivial
  | v :: vs, d :: ds, ⟨h1, h⟩ => ⟨h1, oks_atoms h⟩
  | [], _ :: _, h => h.elim
  | _ :: _, [], h => h.elim
theorem Good.atoms {vs : List V} {ds : List D} (g : Good K mg F H us) (h : Reps K mg F vs ds) : Good K mg F H (atoms vs ds ++ us) :=
  ⟨fun c hc => g.at_ c (by rw [cellsL_append, cells_atoms] at hc; exact hc), Oks.append.mpr ⟨oks_atoms h, g.ok⟩, by rw [cellsL_append, cells_atoms]; exact g.nd⟩
theorem Cf.newL {p : Addr} {vs : List V} {ds : List D} (c : Cf K mg pv F H σ e as held) (h : Reps K mg F vs ds) (hp : H p = none) :
    ∃ t, t.val = .ref p ∧ er t = .ol (ds.map .fz) ∧ Cf K mg pv F (upd H p (.lst vs)) σ e as ([t] ++ held) := by
  refine ⟨.ol p (VF.atoms vs ds), rfl, ?_, same_own c.s (c.s.free hp), c.r, ?_⟩
  · show SV.ol (ers (VF.atoms vs ds)) = _
    rw [ers_atoms h]
  · have g := (c.g.atoms h).new c.s hp
    rw [vals_atoms h] at g
    exact g.perm (List.perm_middle (l₁ := opts as) (l₂ := held)).symm
theorem se_lst {ta : TA} {ma : M (List RV)} (ha : SA K mg E ta ma) : SE K mg E (tLst ta) (dLst ma) := by
  intro pv F H σ e as held Q c w
  refine ha pv F H σ e as held _ c (WA.bindA (W := WE K mg pv F held σ Q E) (fun z => z) w (fun _ _ z => z) fun rs e1 vs F1 H1 as1 tr1 s1 c1 rr1 w1 => ?_)
  have w2 : WE K mg pv F held σ Q E (match frzRs rs e1 with
    | some (ds, e') => if ds.length ≤ sizeLine then .ok (.own (.ol (ds.map .fz))) e' else .st
    | none => .st) := w1
  cases q : frzRs rs e1 with
  | none => rw [q] at w2; exact w2.elim
  | some pr =>
    obtain ⟨ds, e2⟩ := pr
    rw [q] at w2
    obtain ⟨F2, as2, s2, c2, rps⟩ := c1.frzRs rr1 q
    by_cases hz : ds.length ≤ sizeLine
    · simp only [if_pos hz] at w2
      refine ⟨by rw [rps.length]; exact hz, fun p hp => ?_⟩
      obtain ⟨t, e1, e2', c3⟩ := c2.newL rps hp
      exact w2 (.ref p) F2 _ as2 [t] (s1.trans s2) c3 ⟨t, rfl, e1, e2'⟩
    · simp only [if_neg hz] at w2; exact w2.elim
def dTup (a : M (List RV)) : M RV := a.bind fun rs e => match frzRs rs e with
  | some (ds, e') => if ds.length ≤ sizeLine then .ok (.fz (.tup ds)) e' else .st
  | none => .st
theorem Cf.newT {p : Addr} {vs : List V} {ds : List D} (c : Cf K mg pv F H σ e as held) (h : Reps K mg F vs ds) (hp : H p = none) :
    ∃ F', Same F F' ∧ Cf K mg pv F' (upd H p (.tup vs)) σ e as ([.fz (.ref p) (.tup ds)] ++ held) := by
  have sb := same_both (o := .tup vs) c.s hp
  refine ⟨upd F p (.tup vs), sb.1, Cf.fz ⟨sb.2, c.r, c.g.newF c.s hp⟩ ⟨p, vs, rfl, SqT.of upd_same, Reps.same sb.1 h⟩⟩
theorem se_tup {ta : TA} {ma : M (List RV)} (ha : SA K mg E ta ma) : SE K mg E (tTup ta) (dTup ma) := by
  intro pv F H σ e as held Q c w
  refine ha pv F H σ e as held _ c (WA.bindA (W := WE K mg pv F held σ Q E) (fun z => z) w (fun _ _ z => z) fun rs e1 vs F1 H1 as1 tr1 s1 c1 rr1 w1 => ?_)
  have w2 : WE K mg pv F held σ Q E (match frzRs rs e1 with
    | some (ds, e') => if ds.length ≤ sizeLine then .ok (.fz (.tup ds)) e' else .st
    | none => .st) := w1
  cases q : frzRs rs e1 with
  | none => rw [q] at w2; exact w2.elim
  | some pr =>
    obtain ⟨ds, e2⟩ := pr
    rw [q] at w2
    obtain ⟨F2, as2, s2, c2, rps⟩ := c1.frzRs rr1 q
    by_cases hz : ds.length ≤ sizeLine
    · simp only [if_pos hz] at w2
      refine ⟨by rw [rps.length]; exact hz, fun p hp => ?_⟩
      obtain ⟨F3, s3, c3⟩ := c2.newT rps hp
      exact w2 (.ref p) F3 _ as2 _ ((s1.trans s2).trans s3) c3 rfl
    · simp only [if_neg hz] at w2; exact w2.elim
def kid (xs : List SV) (i : Int) : Option D := match atI xs i with
  | some (.fz d) => some d
  | _ => none
def itemD (d : D) (i : Int) : Option D := match d with
  | .lst ds => atI ds i
  | .tup ds => atI ds i
  | .scr ns => (atI ns i).map .int
  | .str z => if z.length ≤ sizeLine then (atI z.cps.toList i).map fun c => .str ⟨#[c]⟩ else none
  | _ => none
def itemS (s : SV) (i : Int) : Option D := match s with
  | .fz d => itemD d i
  | .ol xs => kid xs i
  | _ => none
def itemR (e : Env) (r : RV) (i : Int) : Option D := match r with
  | .fz d => itemD d i
  | .own s => itemS s i
  | .var j => match e.sl[j]? with
    | some (some s) => itemS s i
    | _ => none
def dIx (a b : M RV) : M RV := a.bind fun r => b.bind fun q e => match view e q with
  | some (.int i) => (match itemR e r i with
    | some d => .ok (.fz d) e
    | none => .st)
  | _ => .st
theorem atI_map {α β : Type} (f : α → β) (xs : List α) (i : Int) : atI (xs.map f) i = (atI xs i).map f := by
  unfold atI
  rw [List.length_map]
  cases ixN xs.length i with
  | none => rfl
  | some j => show (xs.map f)[j]? = _; rw [List.getElem?_map]; rfl
theorem Reps.at {vs : List V} {ds : List D} {i : Int} {d : D} (h : Reps K mg F vs ds) (q : atI ds i = some d) : ∃ v, atI vs i = some v ∧ Rep K mg F v d := by
  unfold atI at q ⊢
  rw [h.length]
  cases z : ixN ds.length i with
  | none => rw [z] at q; cases q
  | some j => rw [z] at q; exact h.get q
theorem item_data {v : V} {d x : D} {i : Int} (s : Same F H) (h : Rep K mg F v d) (q : itemD d i = some x) : ∃ y, Rep K mg F y x ∧ ∀ Q : VK, Q y H → rIx K v (.int i) H Q := by
  cases d with
  | lst ds =>
    obtain ⟨p, vs, e, h1, h2⟩ := h
    subst e
    obtain ⟨y, hy, ry⟩ := h2.at q
    exact ⟨y, ry, fun Q k => .inl ⟨p, vs, i, y, rfl, rfl, SqL.of (s _ _ h1), hy, k⟩⟩
  | tup ds =>
    obtain ⟨p, vs, e, h1, h2⟩ := h
    subst e
    obtain ⟨y, hy, ry⟩ := h2.at q
    exact ⟨y, ry, fun Q k => .inr (.inl ⟨p, vs, i, y, rfl, rfl, SqT_same s h1, hy, k⟩)⟩
  | scr ns =>
    obtain ⟨p, e, h1⟩ := h
    subst e
    have q' : (atI ns i).map D.int = some x := q
    cases z : atI ns i with
    | none => rw [z] at q'; cases q'
    | some n =>
      rw [z] at q'
      cases q'
      exact ⟨.int n, rfl, fun Q k => .inl ⟨p, _, i, .int n, rfl, rfl, s.seq h1, by rw [atI_map, z]; rfl, k⟩⟩
  | str z =>
    have e : v = .str z := h
    subst e
    have q' : (if z.length ≤ sizeLine then (atI z.cps.toList i).map (fun c => D.str ⟨#[c]⟩) else none) = some x := q
    by_cases hz : z.length ≤ sizeLine
    · rw [if_pos hz] at q'
      cases w : atI z.cps.toList i with
      | none => rw [w] at q'; cases q'
      | some c =>
        rw [w] at q'
        cases q'
        exact ⟨.str ⟨#[c]⟩, rfl, fun Q k => .inr (.inr ⟨z, i, c, rfl, rfl, hz, w, k⟩)⟩
    · rw [if_neg hz] at q'; cases q'
  | _ => cases q
theorem item_tree {t : AT} {x : D} {i : Int} (g : Good K mg F H us) (hm : t ∈ us) (s : Same F H) (q : itemS (er t) i = some x) : ∃ y, Rep K mg F y x ∧ ∀ Q : VK, Q y H → rIx K t.val (.int i) H Q := by
  have ok := Oks.mem.mp g.ok t hm
  cases t with
  | fz v d => exact item_data s ok q
  | ol p xs =>
    have hc : H p = some (.lst (vals xs)) := (g.at_ (p, .lst (vals xs)) (by rw [cellsL_eq]; exact List.mem_flatMap.mpr ⟨_, hm, List.mem_cons_self⟩)).1
    have q' : kid (ers xs) i = some x := q
    unfold kid at q'
    rw [ers_eq, atI_map] at q'
    cases z : atI xs i with
    | none => rw [z] at q'; cases q'
    | some u =>
      rw [z] at q'
      cases u with
      | fz v d =>
        have ed : d = x := Option.some.inj q'
        subst ed
        have hu : AT.fz v d ∈ xs := by
          unfold atI at z
          cases w : ixN xs.length i with
          | none => rw [w] at z; cases z
          | some j => rw [w] at z; exact List.mem_of_getElem? z
        have oku : Rep K mg F v d := Oks.mem.mp (show Oks K mg F xs from ok) _ hu
        refine ⟨v, oku, fun Q k => .inl ⟨p, vals xs, i, v, rfl, rfl, SqL.of hc, ?_, k⟩⟩
        show atI (xs.map AT.val) i = some v
        rw [atI_map, z]
        rfl
      | ol _ _ => cases q'
      | oo _ _ _ _ _ _ => cases q'
      | od _ _ _ => cases q'
  | oo _ _ _ _ _ _ => cases q
  | od _ _ _ => cases q
theorem Cf.item {v : V} {r : RV} {x : D} {i : Int} (c : Cf K mg pv F H σ e as held) (h : RR σ v r tr) (hm : ∀ t ∈ tr, t ∈ held) (q : itemR e r i = some x) : ∃ y, Rep K mg F y x ∧ ∀ Q : VK, Q y H → rIx K v (.int i) H Q := by
  cases r with
  | fz d =>
    have e1 : tr = [.fz v d] := h
    subst e1
    exact item_tree (t := .fz v d) c.g (List.mem_append_right _ (hm _ List.mem_cons_self)) c.s q
  | own s =>
    obtain ⟨t, e1, e2, e3⟩ := h
    subst e1 e2 e3
    exact item_tree c.g (List.mem_append_right _ (hm _ List.mem_cons_self)) c.s q
  | var j =>
    obtain ⟨_, hv⟩ := h
    have q' : (match e.sl[j]? with | some (some s) => itemS s i | _ => none) = some x := q
    cases z : e.sl[j]? with
    | none => rw [z] at q'; cases q'
    | some o =>
      cases o with
      | none => rw [z] at q'; cases q'
      | some s =>
        rw [z] at q'
        obtain ⟨t, ht, et⟩ := c.r.slotOf z
        subst et
        have hv2 := c.r.at_ j t ht
        rw [hv] at hv2
        have ev : v = t.val := by simpa using hv2
        subst ev
        exact item_tree c.g (List.mem_append_left _ (mem_opts ht)) c.s q'
theorem se_ix {ta tb : TE} {ma mb : M RV} (ha : SE K mg E ta ma) (hb : SE K mg E tb mb) : SE K mg E (tOp (rIx K) ta tb) (dIx ma mb) := by
  intro pv F H σ e as held Q c w
  refine ha pv F H σ e as held _ c (WE.bindE (W := WE K mg pv F held σ Q E) (fun z => z) w (fun _ _ z => z) fun r1 e1 v1 F1 H1 as1 tr1 s1 c1 rr1 w1 => ?_)
  refine hb pv F1 H1 σ e1 as1 (tr1 ++ held) _ c1 (WE.bindE (W := WE K mg pv F held σ Q E) (fun z => z) w1 (fun _ _ z => (WX.mono s1 z).drop) fun r2 e2 v2 F2 H2 as2 tr2 s2 c2 rr2 w2 => ?_)
  have w3 : WE K mg pv F held σ Q E (match view e2 r2 with
    | some (.int i) => (match itemR e2 r1 i with
      | some d => .ok (.fz d) e2
      | none => .st)
    | _ => .st) := w2
  cases q2 : view e2 r2 with
  | none => rw [q2] at w3; exact w3.elim
  | some y =>
    have p2 := c2.seen rr2 (fun t ht => List.mem_append_left _ ht) q2
    rw [q2] at w3
    cases y with
    | int i =>
      have ev : v2 = .int i := p2
      subst ev
      simp only at w3
      cases q3 : itemR e2 r1 i with
      | none => rw [q3] at w3; exact w3.elim
      | some d =>
        rw [q3] at w3
        obtain ⟨y, ry, k⟩ := c2.item rr1 (fun t ht => List.mem_append_right _ (List.mem_append_left _ ht)) q3
        exact k Q (w3 y F2 H2 as2 _ (s1.trans s2) (c2.drop.drop.fz ry) rfl)
    | _ => exact w3.elim
end
end VF
set_option maxRecDepth 100000
set_option maxHeartbeats 4000000
namespace VF
set_option autoImplicit false
open PySem PySem.Spec PyProof.Rows L2
open AT (cells cellsL er ers)
section
variable {K : PySem.W.Frag} {mg : Str → Option Value} {pv : List (Nat × V)} {F F' H H' : Hp} {σ : L2.St} {e e' : Env} {as as' : List (Option AT)} {held tr ts us : List AT} {E : XS}
theorem pswap {α : Type} (a b c : List α) : (a ++ (b ++ c)).Perm (b ++ (a ++ c)) := by
  rw [← List.append_assoc, ← List.append_assoc]
  exact List.perm_append_comm.append_right c
theorem er_ol {t : AT} {xs : List SV} (h : er t = .ol xs) : ∃ p ys, t = .ol p ys ∧ ers ys = xs := by
  cases t with
  | ol p ys => exact ⟨p, ys, rfl, by simpa [er] using h⟩
  | fz _ _ => simp [er] at h
  | oo _ _ _ _ _ _ => simp [er] at h
  | od _ _ _ => simp [er] at h
theorem Cf.ownL {i : Nat} {xs : List SV} (c : Cf K mg pv F H σ e as held) (z : e.sl[i]? = some (some (.ol xs))) :
    ∃ p ys, as[i]? = some (some (.ol p ys)) ∧ ers ys = xs ∧ σ[i]? = some (some (.ref p)) ∧ H p = some (.lst (vals ys)) := by
  obtain ⟨t, ht, et⟩ := c.r.slotOf z
  obtain ⟨p, ys, rfl, ey⟩ := er_ol et
  exact ⟨p, ys, ht, ey, c.r.at_ i _ ht, (c.take ht).cell.1⟩
theorem Cf.relist {i : Nat} {p : Addr} {xs ys zs junk : List AT} (c : Cf K mg pv F H σ e as us) (h : as[i]? = some (some (.ol p xs))) (pm : (xs ++ us).Perm (junk ++ (ys ++ zs))) :
    Cf K mg pv F (upd H p (.lst (vals ys))) σ (e.setS i (.ol (ers ys))) (as.set i (some (.ol p ys))) zs := by
  have g := c.take h
  have g2 : Good K mg F (upd H p (.lst (vals ys))) (.ol p ys :: (opts (as.set i none) ++ zs)) := by
    refine g.relist (junk := junk) ?_
    exact (pswap _ _ _).trans ((pm.append_left _).trans ((pswap _ _ _).trans (List.Perm.append_left _ (pswap _ _ _))))
  exact Cf.put (t' := .ol p ys) c.r h (same_own c.s g.cell.2) g2 rfl
theorem Cf.fzs {v : V} {d : D} (c : Cf K mg pv F H σ e as held) (r : Rep K mg F v d) : Cf K mg pv F H σ e as (.fz v d :: held) := c.fz r
def dApp (i : Nat) (a : M RV) : M RV := fun e0 => match e0.sl[i]? with
  | some (some (.ol _)) => (a e0).bind fun r e => match frzR r e with
    | some (d, e1) => (match e1.sl[i]? with
      | some (some (.ol xs)) => if xs.length < sizeLine then .ok (.fz .non) (e1.setS i (.ol (xs ++ [.fz d]))) else .st
      | _ => .st)
    | none => .st
  | _ => .st
theorem vals_snoc (ys : List AT) (v : V) (d : D) : vals (ys ++ [.fz v d]) = vals ys ++ [v] := by
  unfold vals; rw [List.map_append]; rfl
theorem ers_snoc (ys : List AT) (v : V) (d : D) : ers (ys ++ [.fz v d]) = ers ys ++ [.fz d] := by
  rw [ers_eq, ers_eq, List.map_append]; rfl
theorem se_app {i : Nat} {ta : TE} {ma : M RV} (ha : SE K mg E ta ma) : SE K mg E (tBM K "list" rAppend (tVar i) (tCons ta tNil)) (dApp i ma) := by
  intro pv F H σ e as held Q c w
  unfold dApp at w
  cases z : e.sl[i]? with
  | none => simp only [z] at w; exact w.elim
  | some o =>
    cases o with
    | none => simp only [z] at w; exact w.elim
    | some s =>
      cases s with
      | ol xs0 =>
        simp only [z] at w
        obtain ⟨p, ys0, h0, _, hv, hp⟩ := c.ownL z
        refine ⟨_, hv, .inl ⟨rfl, _, SqL.of hp⟩, ?_⟩
        refine ha pv F H σ e as held _ c (WE.bindE (W := WE K mg pv F held σ Q E) (fun z => z) w (fun _ _ z => z) fun r1 e1 v1 F1 H1 as1 tr1 s1 c1 rr1 w1 => ?_)
        cases q : frzR r1 e1 with
        | none => simp only [q] at w1; exact w1.elim
        | some pr =>
          obtain ⟨d, e2⟩ := pr
          simp only [q] at w1
          obtain ⟨F2, as2, s2, c2, rp⟩ := c1.frzR rr1 q
          cases z2 : e2.sl[i]? with
          | none => simp only [z2] at w1; exact w1.elim
          | some o =>
            cases o with
            | none => simp only [z2] at w1; exact w1.elim
            | some s =>
              cases s with
              | ol xs =>
                simp only [z2] at w1
                by_cases hz : xs.length < sizeLine
                · rw [if_pos hz] at w1
                  obtain ⟨p2, ys, h2, ey, hv2, hp2⟩ := c2.ownL z2
                  have ep : p2 = p := by rw [hv] at hv2; simpa using hv2.symm
                  subst ep
                  have ly : (vals ys).length = xs.length := by rw [← ey, ers_length]; exact List.length_map _
                  refine ⟨p2, vals ys, v1, rfl, rfl, hp2, by rw [ly]; exact hz, ?_⟩
                  have c3 := (c2.fzs rp).relist (ys := ys ++ [.fz v1 d]) (zs := held) (junk := []) h2 (by simp)
                  rw [vals_snoc, ers_snoc, ey] at c3
                  exact w1 .non F2 _ _ _ (s1.trans s2) (c3.fz (show Rep K mg F2 .non .non from rfl)) rfl
                · rw [if_neg hz] at w1; exact w1.elim
              | _ => simp only [z2] at w1; exact w1.elim
      | _ => simp only [z] at w; exact w.elim
def svR : SV → RV
  | .fz d => .fz d
  | .ol xs => .own (.ol xs)
  | .oo c ns xs => .own (.oo c ns xs)
  | .od ks xs => .own (.od ks xs)
theorem rr_svR (t : AT) : RR σ t.val (svR (er t)) [t] := by
  cases t with
  | fz v d => exact rfl
  | ol p xs => exact ⟨_, rfl, rfl, rfl⟩
  | oo p C dx c ns xs => exact ⟨_, rfl, rfl, rfl⟩
  | od p ks xs => exact ⟨_, rfl, rfl, rfl⟩
theorem map_erase {α β : Type} (f : α → β) : ∀ (xs : List α) (k : Nat), (xs.eraseIdx k).map f = (xs.map f).eraseIdx k
  | [], _ => rfl
  | _ :: _, 0 => rfl
  | x :: xs, k + 1 => congrArg (f x :: ·) (map_erase f xs k)
def dSetIx (j : Nat) (b a : M RV) : M Fl := a.bind fun r e0 => match e0.sl[j]? with
  | some (some (.ol _)) => (b e0).bind fun q e => match view e q with
    | some (.int k) => (match frzR r e with
      | some (d, e1) => (match e1.sl[j]? with
        | some (some (.ol xs)) => (match ixN xs.length k with
          | some n => .ok .nx (e1.setS j (.ol (xs.set n (.fz d))))
          | none => .st)
        | _ => .st)
      | none => .st)
    | _ => .st
  | _ => .st
theorem perm_set {α : Type} {y : α} : ∀ {xs : List α} {k : Nat} {x : α}, xs[k]? = some x → (y :: xs).Perm (x :: xs.set k y)
  | a :: xs, 0, x, h => by
    have e : a = x := by simpa using h
    subst e
    exact List.Perm.swap _ _ _
  | a :: xs, k + 1, x, h => by
    have ih := perm_set (y := y) (xs := xs) (k := k) (x := x) (by simpa using h)
    exact ((List.Perm.swap _ _ _).trans (ih.cons a)).trans (List.Perm.swap _ _ _)
theorem Cf.setL {j k : Nat} {p : Addr} {ys : List AT} {v : V} {d : D} (c : Cf K mg pv F H σ e as held) (h : as[j]? = some (some (.ol p ys))) (rp : Rep K mg F v d) (hk : k < ys.length) :
    Cf K mg pv F (upd H p (.lst ((vals ys).set k v))) σ (e.setS j (.ol ((ers ys).set k (.fz d)))) (as.set j (some (.ol p (ys.set k (.fz v d))))) held := by
  have gk : ys[k]? = some ys[k] := List.getElem?_eq_getElem hk
  have c3 := (c.fzs rp).relist (ys := ys.set k (.fz v d)) (zs := held) (junk := [ys[k]]) h (by
    refine (List.perm_middle (l₁ := ys) (l₂ := held) (a := AT.fz v d)).trans ?_
    exact (perm_set (y := AT.fz v d) gk).append_right held)
  have e1 : vals (ys.set k (.fz v d)) = (vals ys).set k v := by unfold vals; rw [List.map_set]; rfl
  have e2 : ers (ys.set k (.fz v d)) = (ers ys).set k (.fz d) := by rw [ers_eq, ers_eq, List.map_set]; rfl
  rw [e1, e2] at c3
  exact c3
theorem ixN_lt {n : Nat} {i : Int} {j : Nat} (h : ixN n i = some j) : j < n := (ixN_seq h).2.1
theorem ss_setIx {j : Nat} {ta tb : TE} {ma mb : M RV} (hb : SE K mg E tb mb) (ha : SE K mg E ta ma) : SS K mg E (tAsg ta (gSub (tVar j) tb rSetL)) (dSetIx j mb ma) := by
  intro pv F H σ e as held D c w
  refine ha pv F H σ e as held _ c (WE.bindE (W := WS K mg pv F held E D) (fun z => z) w (fun _ _ z => z) fun r1 e1 v1 F1 H1 as1 tr1 s1 c1 rr1 w1 => ?_)
  cases z : e1.sl[j]? with
  | none => simp only [z] at w1; exact w1.elim
  | some o =>
    cases o with
    | none => simp only [z] at w1; exact w1.elim
    | some s =>
      cases s with
      | ol xs0 =>
        simp only [z] at w1
        obtain ⟨p, ys0, h0, _, hv, hp⟩ := c1.ownL z
        refine ⟨_, hv, ?_⟩
        refine hb pv F1 H1 σ e1 as1 (tr1 ++ held) _ c1 (WE.bindE (W := WS K mg pv F held E D) (fun z => z) w1 (fun _ _ z => (WX.mono s1 z).drop) fun r2 e2 v2 F2 H2 as2 tr2 s2 c2 rr2 w2 => ?_)
        cases q : view e2 r2 with
        | none => simp only [q] at w2; exact w2.elim
        | some x =>
          have p1 := c2.seen rr2 (fun t ht => List.mem_append_left _ ht) q
          cases x with
          | int k =>
            have ev : v2 = .int k := p1
            subst ev
            simp only [q] at w2
            cases q2 : frzR r1 e2 with
            | none => simp only [q2] at w2; exact w2.elim
            | some pr =>
              obtain ⟨d, e3⟩ := pr
              simp only [q2] at w2
              obtain ⟨F3, as3, s3, c3, rp⟩ := (c2.drop).frzR rr1 q2
              cases z2 : e3.sl[j]? with
              | none => simp only [z2] at w2; exact w2.elim
              | some o =>
                cases o with
                | none => simp only [z2] at w2; exact w2.elim
                | some s =>
                  cases s with
                  | ol xs =>
                    simp only [z2] at w2
                    obtain ⟨p2, ys, h2, ey, hv2, hp2⟩ := c3.ownL z2
                    have ep : p2 = p := by rw [hv] at hv2; simpa using hv2.symm
                    subst ep
                    have ly : (vals ys).length = xs.length := by rw [← ey, ers_length]; exact List.length_map _
                    cases q3 : ixN xs.length k with
                    | none => simp only [q3] at w2; exact w2.elim
                    | some n =>
                      simp only [q3] at w2
                      refine ⟨p2, vals ys, k, n, rfl, rfl, hp2, by rw [ly]; exact q3, ?_⟩
                      have hn := ixN_lt q3
                      have c4 := c3.setL h2 rp (show n < ys.length by rw [← ey, ers_length] at hn; exact hn)
                      rw [ey] at c4
                      exact w2 σ F3 _ _ ((s1.trans s2).trans s3) c4
                  | _ => simp only [z2] at w2; exact w2.elim
          | _ => simp only [q] at w2; exact w2.elim
      | _ => simp only [z] at w1; exact w1.elim
end
end VF
set_option maxRecDepth 100000
set_option maxHeartbeats 4000000
namespace VF
set_option autoImplicit false
open PySem PySem.Spec PyProof.Rows L2
open AT (cells cellsL er ers)
section
variable {K : PySem.W.Frag} {mg : Str → Option Value} {pv : List (Nat × V)} {F F' H H' : Hp} {σ : L2.St} {e e' : Env} {as as' : List (Option AT)} {held tr ts us : List AT} {E : XS}
def kidI (e : Env) (j : Nat) (k : Int) : Option Int := match e.sl[j]? with
  | some (some (.ol xs)) => (match kid xs k with
    | some (.int x) => some x
    | _ => none)
  | _ => none
def dAugIx (j : Nat) (b : M RV) (f : Int → Int → Int) (a : M RV) : M Fl := fun e0 => match e0.sl[j]? with
  | some (some (.ol _)) => (b e0).bind fun q e => match view e q with
    | some (.int k) => if 0 ≤ k then (match kidI e j k with
      | some x => (a e).bind fun r e1 => (match view e1 r with
        | some (.int y) => (match e1.sl[j]? with
          | some (some (.ol xs)) => (match ixN xs.length k with
            | some n => .ok .nx (e1.setS j (.ol (xs.set n (.fz (.int (f x y))))))
            | none => .st)
          | _ => .st)
        | _ => .st)
      | _ => .st) else .st
    | _ => .st
  | _ => .st
inductive FR where
  | st | ok (r : SV) (as : List SV) | ex (x : Exc) (as : List SV)
abbrev Fn := List SV → FR
def spF (K : PySem.W.Frag) (mg : Str → Option Value) (n : Nat) (φ : Fn) : Sp := fun vs H Q E => ∃ (F : Hp) (ts held : List AT), vs = vals ts ∧ ts.length = n ∧ Same F H ∧ Good K mg F H (ts ++ held) ∧ match φ (ers ts) with
  | .st => False
  | .ok r as' => ∀ v F' H' t ts', Same F F' → Same F' H' → t.val = v → er t = r → vals ts' = vs → ers ts' = as' → Good K mg F' H' (t :: (ts' ++ held)) → Q v H'
  | .ex x as' => ∀ cls d F' H' ts', Same F F' → Same F' H' → RX mg H' x cls d → (∀ dd, d = some dd → F dd = none) → vals ts' = vs → ers ts' = as' → Good K mg F' H' (ts' ++ held) → E cls d H'
def Env.clr (e : Env) (i : Nat) : Env := ⟨e.sl.set i none, e.pn⟩
def loadOne (md : Bool) (r : RV) (e : Env) : Option (SV × Env) := match md with
  | false => (match frzR r e with
    | some (d, e1) => some (.fz d, e1)
    | none => none)
  | true => (match r with
    | .var i => (match e.sl[i]? with
      | some (some s) => some (s, e.clr i)
      | _ => none)
    | _ => none)
def load : List Bool → List RV → Env → Option (List SV × Env)
  | [], [], e => some ([], e)
  | md :: mds, r :: rs, e => (match loadOne md r e with
    | some (s, e1) => (match load mds rs e1 with
      | some (ss, e2) => some (s :: ss, e2)
      | none => none)
    | none => none)
  | _, _, _ => none
def isClr (e : Env) (i : Nat) : Bool := match e.sl[i]? with
  | some none => true
  | _ => false
theorem isClr_ok {i : Nat} (h : isClr e i = true) : e.sl[i]? = some none := by
  unfold isClr at h
  cases z : e.sl[i]? with
  | none => rw [z] at h; cases h
  | some o => cases o with
    | none => rfl
    | some s => rw [z] at h; cases h
def unload : List Bool → List RV → List SV → Env → Option Env
  | [], [], [], e => some e
  | false :: mds, _ :: rs, _ :: ss, e => unload mds rs ss e
  | true :: mds, .var i :: rs, s :: ss, e => if isClr e i = true then unload mds rs ss (e.setS i s) else none
  | _, _, _, _ => none
theorem Cf.clr {i : Nat} {t : AT} (c : Cf K mg pv F H σ e as held) (h : as[i]? = some (some t)) : Cf K mg pv F H σ (e.clr i) (as.set i none) ([t] ++ held) := by
  refine ⟨c.s, ⟨?_, by rw [List.length_set]; exact c.r.len, fun j u hj => ?_, c.r.pin⟩, ?_⟩
  · show e.sl.set i none = _
    rw [List.map_set, c.r.sl]; rfl
  · by_cases q : j = i
    · subst q
      have hlt : j < as.length := (List.getElem?_eq_some_iff.mp h).1
      rw [List.getElem?_set_self hlt] at hj
      cases hj
    · rw [List.getElem?_set_ne (Ne.symm q)] at hj
      exact c.r.at_ j u hj
  · exact (c.take h).perm (List.perm_middle (l₁ := opts (as.set i none)) (l₂ := held)).symm
theorem Cf.perm {us' : List AT} (c : Cf K mg pv F H σ e as us) (p : us.Perm us') : Cf K mg pv F H σ e as us' := ⟨c.s, c.r, c.g.perm (p.append_left _)⟩
theorem Cf.loadOne {md : Bool} {v : V} {r : RV} {s : SV} {e' : Env} (c : Cf K mg pv F H σ e as (tr ++ held)) (h : RR σ v r tr) (q : loadOne md r e = some (s, e')) :
    ∃ F' as' t, Same F F' ∧ Cf K mg pv F' H σ e' as' ([t] ++ held) ∧ t.val = v ∧ er t = s := by
  cases md with
  | false =>
    unfold VF.loadOne at q
    cases q1 : VF.frzR r e with
    | none => rw [q1] at q; cases q
    | some p =>
      obtain ⟨d, e1⟩ := p
      rw [q1] at q
      cases q
      obtain ⟨F', as', s1, c1, rp⟩ := c.frzR h q1
      exact ⟨F', as', .fz v d, s1, c1.fz rp, rfl, rfl⟩
  | true =>
    unfold VF.loadOne at q
    cases r with
    | var i =>
      obtain ⟨e1, hv⟩ := h
      subst e1
      cases z : e.sl[i]? with
      | none => simp only [z] at q; cases q
      | some o =>
        cases o with
        | none => simp only [z] at q; cases q
        | some s0 =>
          simp only [z] at q
          cases q
          obtain ⟨t, ht, et⟩ := c.r.slotOf z
          have hv2 := c.r.at_ i t ht
          rw [hv] at hv2
          have ev : v = t.val := by simpa using hv2
          exact ⟨F, _, t, Same.refl _, c.clr ht, ev.symm, et⟩
    | fz _ => cases q
    | own _ => cases q
theorem Cf.load : ∀ {md : List Bool} {rs : List RV} {vs : List V} {ss : List SV} {F : Hp} {e e' : Env} {as : List (Option AT)} {tr held : List AT}, Cf K mg pv F H σ e as (tr ++ held) → RRs σ vs rs tr → load md rs e = some (ss, e') →
    ∃ F' as' ts, Same F F' ∧ Cf K mg pv F' H σ e' as' (ts ++ held) ∧ vals ts = vs ∧ ers ts = ss
  | [], [], [], ss, F, e, e', as, tr, held, c, h, q => by
    have e1 : tr = [] := h
    subst e1
    have q' : some (([] : List SV), e) = some (ss, e') := q
    cases q'
    exact ⟨F, as, [], Same.refl _, c, rfl, rfl⟩
  | md :: mds, r :: rs, v :: vs, ss, F, e, e', as, tr, held, c, ⟨t1, t2, e1, h1, h2⟩, q => by
    subst e1
    have q' : (match VF.loadOne md r e with
      | some (s, e1) => (match VF.load mds rs e1 with
        | some (ss, e2) => some (s :: ss, e2)
        | none => none)
      | none => none) = some (ss, e') := q
    cases q1 : VF.loadOne md r e with
    | none => rw [q1] at q'; cases q'
    | some p =>
      obtain ⟨s, e1⟩ := p
      rw [q1] at q'
      cases q2 : VF.load mds rs e1 with
      | none => simp only [q2] at q'; cases q'
      | some p2 =>
        obtain ⟨ss2, e2⟩ := p2
        simp only [q2] at q'
        cases q'
        have c1 : Cf K mg pv F H σ e as (t1 ++ (t2 ++ held)) := c.perm (by rw [List.append_assoc]; exact pswap _ _ _)
        obtain ⟨F1, as1, t, s1, c2, ev, et⟩ := c1.loadOne h1 q1
        obtain ⟨F2, as2, ts, s2, c3, evs, ets⟩ := Cf.load (held := [t] ++ held) (c2.perm (pswap _ _ _)) h2 q2
        refine ⟨F2, as2, t :: ts, s1.trans s2, c3.perm (pswap ts [t] held), ?_, ?_⟩
        · show t.val :: vals ts = _
          rw [ev, evs]
        · show er t :: ers ts = _
          rw [et, ets]
  | [], _ :: _, _, _, _, _, _, _, _, _, _, _, q => by cases q
  | _ :: _, [], _, _, _, _, _, _, _, _, _, _, q => by cases q
  | _, [], _ :: _, _, _, _, _, _, _, _, _, h, _ => h.elim
  | _, _ :: _, [], _, _, _, _, _, _, _, _, h, _ => h.elim
theorem Cf.unload : ∀ {md : List Bool} {rs : List RV} {vs : List V} {ss : List SV} {e e' : Env} {as : List (Option AT)} {ts tr : List AT}, Cf K mg pv F H σ e as (ts ++ held) → RRs σ vs rs tr → vals ts = vs → ers ts = ss → unload md rs ss e = some e' →
    ∃ as', Cf K mg pv F H σ e' as' held
  | [], [], [], ss, e, e', as, ts, tr, c, h, ev, es, q => by
    cases ts with
    | nil =>
      have : ss = [] := es.symm
      subst this
      have q' : some e = some e' := q
      cases q'
      exact ⟨as, c⟩
    | cons t ts => cases ev
  | false :: mds, r :: rs, v :: vs, ss, e, e', as, ts, tr, c, ⟨t1, t2, e1, h1, h2⟩, ev, es, q => by
    cases ts with
    | nil => cases ev
    | cons t ts =>
      cases ss with
      | nil => cases es
      | cons s ss =>
        injection ev with ev1 ev2
        injection es with es1 es2
        exact Cf.unload (md := mds) (ts := ts) (Cf.drop (tr := [t]) c) h2 ev2 es2 q
  | true :: mds, r :: rs, v :: vs, ss, e, e', as, ts, tr, c, ⟨t1, t2, e1, h1, h2⟩, ev, es, q => by
    cases ts with
    | nil => cases ev
    | cons t ts =>
      cases ss with
      | nil => cases es
      | cons s ss =>
        injection ev with ev1 ev2
        injection es with es1 es2
        cases r with
        | fz _ => cases q
        | own _ => cases q
        | var i =>
          have q' : (if isClr e i = true then VF.unload mds rs ss (e.setS i s) else none) = some e' := q
          by_cases hi' : isClr e i = true
          · rw [if_pos hi'] at q'
            have hi := isClr_ok hi'
            have hv : σ[i]? = some (some v) := h1.2
            have hai : as[i]? = some none := by
              rw [c.r.sl, List.getElem?_map] at hi
              cases z : as[i]? with
              | none => rw [z] at hi; cases hi
              | some o => cases o with
                | none => rfl
                | some u => rw [z] at hi; cases hi
            have hlt : i < as.length := (List.getElem?_eq_some_iff.mp hai).1
            have c1 : Cf K mg pv F H σ (e.setS i s) (as.set i (some t)) (ts ++ held) := by
              refine ⟨c.s, ⟨?_, by rw [List.length_set]; exact c.r.len, fun j u hj => ?_, c.r.pin⟩, ?_⟩
              · show e.sl.set i (some s) = _
                rw [List.map_set, c.r.sl, ← es1]; rfl
              · by_cases z : j = i
                · subst z
                  rw [List.getElem?_set_self hlt] at hj
                  cases hj
                  rw [hv, ev1]
                · rw [List.getElem?_set_ne (Ne.symm z)] at hj
                  exact c.r.at_ j u hj
              · have g : Good K mg F H (t :: (opts as ++ (ts ++ held))) := c.g.perm (List.perm_middle (l₁ := opts as) (l₂ := ts ++ held) (a := t))
                exact g.perm ((opts_put t hai).append_right (ts ++ held))
            exact Cf.unload (md := mds) (ts := ts) c1 h2 ev2 es2 q'
          · rw [if_neg hi'] at q'; cases q'
  | [], _ :: _, _, _, _, _, _, _, _, _, _, _, _, q => by cases q
  | true :: _, [], _, _, _, _, _, _, _, _, _, _, _, q => by cases q
  | false :: _, [], _, _, _, _, _, _, _, _, _, _, _, q => by cases q
  | _, [], _ :: _, _, _, _, _, _, _, _, h, _, _, _ => h.elim
  | _, _ :: _, [], _, _, _, _, _, _, _, h, _, _, _ => h.elim
def dCall (md : List Bool) (φ : Fn) (a : M (List RV)) : M RV := a.bind fun rs e => match load md rs e with
  | some (ss, e1) => (match φ ss with
    | .st => .st
    | .ok r ss' => (match unload md rs ss' e1 with
      | some e2 => .ok (svR r) e2
      | none => .st)
    | .ex x ss' => (match unload md rs ss' e1 with
      | some e2 => .ex x e2
      | none => .st))
  | none => .st
theorem load_len : ∀ {md : List Bool} {rs : List RV} {e : Env} {p : List SV × Env}, load md rs e = some p → rs.length = md.length
  | [], [], _, _, _ => rfl
  | md :: mds, r :: rs, e, p, q => by
    have q' : (match VF.loadOne md r e with
      | some (s, e1) => (match VF.load mds rs e1 with
        | some (ss, e2) => some (s :: ss, e2)
        | none => none)
      | none => none) = some p := q
    cases q1 : VF.loadOne md r e with
    | none => rw [q1] at q'; cases q'
    | some p1 =>
      rw [q1] at q'
      cases q2 : VF.load mds rs p1.2 with
      | none => simp only [q2] at q'; cases q'
      | some p2 => exact congrArg Nat.succ (load_len q2)
  | [], _ :: _, _, _, q => by cases q
  | _ :: _, [], _, _, q => by cases q
theorem RRs.length : ∀ {vs : List V} {rs : List RV} {tr : List AT}, RRs σ vs rs tr → vs.length = rs.length
  | [], [], _, _ => rfl
  | _ :: _, _ :: _, _, ⟨_, _, _, _, h⟩ => congrArg Nat.succ (RRs.length h)
  | [], _ :: _, _, h => h.elim
  | _ :: _, [], _, h => h.elim
theorem se_call {md : List Bool} {φ : Fn} {ta : TA} {ma : M (List RV)} (ha : SA K mg E ta ma) : SE K mg E (tCallS (spF K mg md.length φ) (fun σ cls d H => E cls d σ H) ta) (dCall md φ ma) := by
  intro pv F H σ e as held Q c w
  refine ha pv F H σ e as held _ c (WA.bindA (W := WE K mg pv F held σ Q E) (fun z => z) w (fun _ _ z => z) fun rs e1 vs F1 H1 as1 tr1 s1 c1 rr1 w1 => ?_)
  cases q : load md rs e1 with
  | none => simp only [q] at w1; exact w1.elim
  | some p =>
    obtain ⟨ss, e2⟩ := p
    simp only [q] at w1
    obtain ⟨F2, as2, ts, s2, c2, ev, es⟩ := c1.load rr1 q
    have lt : ts.length = md.length := by
      rw [← load_len q, ← rr1.length, ← ev]; exact (List.length_map _).symm
    refine ⟨F2, ts, opts as2 ++ held, ev.symm, lt, c2.s, c2.g.perm (pswap _ _ _), ?_⟩
    rw [es]
    cases q2 : φ ss with
    | st => simp only [q2] at w1; exact w1.elim
    | ok r ss' =>
      simp only [q2] at w1
      intro v F3 H3 t ts' s3 s4 et er' evs ess g
      cases q3 : unload md rs ss' e2 with
      | none => simp only [q3] at w1; exact w1.elim
      | some e3 =>
        simp only [q3] at w1
        have c3 : Cf K mg pv F3 H3 σ e2 as2 (ts' ++ ([t] ++ held)) := ⟨s4, c2.r, g.perm (by
          have h1 : (t :: (ts' ++ (opts as2 ++ held))).Perm (ts' ++ (opts as2 ++ ([t] ++ held))) := by
            refine (List.perm_middle (l₁ := ts') (l₂ := opts as2 ++ held) (a := t)).symm.trans ?_
            exact List.Perm.append_left _ (List.perm_middle (l₁ := opts as2) (l₂ := held) (a := t)).symm
          exact h1.trans (pswap _ _ _))⟩
        obtain ⟨as3, c4⟩ := c3.unload rr1 evs ess q3
        subst et er'
        exact w1 t.val F3 H3 as3 [t] ((s1.trans s2).trans s3) c4 (rr_svR t)
    | ex x ss' =>
      simp only [q2] at w1
      intro cls d F3 H3 ts' s3 s4 rx hn evs ess g
      cases q3 : unload md rs ss' e2 with
      | none => simp only [q3] at w1; exact w1.elim
      | some e3 =>
        simp only [q3] at w1
        have c3 : Cf K mg pv F3 H3 σ e2 as2 (ts' ++ held) := ⟨s4, c2.r, g.perm (pswap _ _ _)⟩
        obtain ⟨as3, c4⟩ := c3.unload rr1 evs ess q3
        exact w1 cls d F3 H3 σ as3 ((s1.trans s2).trans s3) c4 rx fun dd q => none_le (s1.trans s2) (hn dd q)
end
end VF
set_option maxRecDepth 100000
set_option maxHeartbeats 4000000
namespace VF
set_option autoImplicit false
open PySem PySem.Spec PyProof.Rows L2
open AT (cells cellsL er ers)
section
variable {K : PySem.W.Frag} {mg : Str → Option Value} {pv : List (Nat × V)} {F F' H H' : Hp} {σ : L2.St} {e e' : Env} {as as' : List (Option AT)} {held tr ts us : List AT} {E : XS}
def immS : SV → Option D
  | .fz d => (match imm d with
    | some _ => some d
    | none => none)
  | _ => none
def dCallB (n : Nat) (φ : Fn) (a : M (List RV)) : M RV := a.bind fun rs e => match rs.mapM (view e) with
  | some ds => if ds.length = n then (match φ (ds.map .fz) with
    | .ok r _ => (match immS r with
      | some d => .ok (.fz d) e
      | none => .st)
    | .ex x _ => .ex x e
    | .st => .st) else .st
  | none => .st
theorem Good.same {ts : List AT} (g : Good K mg F H ts) (s : Same H H') : Good K mg F H' ts := ⟨fun c hc => ⟨s _ _ (g.at_ c hc).1, (g.at_ c hc).2⟩, g.ok, g.nd⟩
theorem Cf.same (c : Cf K mg pv F H σ e as held) (s : Same H H') : Cf K mg pv F H' σ e as held := ⟨c.s.trans s, c.r, c.g.same s⟩
theorem se_callB {n : Nat} {φ : Fn} {ta : TA} {ma : M (List RV)} (ha : SA K mg E ta ma) : SE K mg E (tCallS (spF K mg n φ) (fun σ cls d H => E cls d σ H) ta) (dCallB n φ ma) := by
  intro pv F H σ e as held Q c w
  refine ha pv F H σ e as held _ c (WA.bindA (W := WE K mg pv F held σ Q E) (fun z => z) w (fun _ _ z => z) fun rs e1 vs F1 H1 as1 tr1 s1 c1 rr1 w1 => ?_)
  cases q : rs.mapM (view e1) with
  | none => simp only [q] at w1; exact w1.elim
  | some ds =>
    simp only [q] at w1
    have rp := RRs.seen (rs := rs) c1 rr1 (fun t ht => List.mem_append_left _ ht) q
    by_cases hn : ds.length = n
    · rw [if_pos hn] at w1
      have g0 : Good K mg H1 H1 ([] : List AT) := ⟨fun c hc => absurd (show c ∈ ([] : List (Addr × HO)) from hc) List.not_mem_nil, trivial, List.nodup_nil⟩
      have lz : (atoms vs ds).length = n := by
        unfold atoms
        rw [List.length_map, List.length_zip, rp.length, Nat.min_self]; exact hn
      refine ⟨H1, atoms vs ds, [], by rw [vals_atoms rp], lz, Same.refl _, g0.atoms rp, ?_⟩
      rw [ers_atoms rp]
      have c1' := c1.drop
      cases q2 : φ (ds.map .fz) with
      | st => simp only [q2] at w1; exact w1.elim
      | ok r ss' =>
        simp only [q2] at w1
        intro v F3 H3 t ts' s3 s4 et er' _ _ g
        cases q3 : immS r with
        | none => simp only [q3] at w1; exact w1.elim
        | some d =>
          simp only [q3] at w1
          subst et
          have sh : Same H1 H3 := s3.trans s4
          cases r with
          | fz d' =>
            have q3' : (match imm d' with | some _ => some d' | none => none) = some d := q3
            cases q4 : imm d' with
            | none => rw [q4] at q3'; cases q3'
            | some u =>
              rw [q4] at q3'
              have ed : d' = d := Option.some.inj q3'
              subst ed
              cases t with
              | fz v0 d0 =>
                have e0 : d0 = d' := by simpa [er] using er'
                subst e0
                have rv : Rep K mg F3 v0 d0 := g.unfz.2
                have ev : v0 = u := by
                  cases d0 <;> first | (cases q4; exact rv) | cases q4
                subst ev
                exact w1 v0 F1 H3 as1 _ s1 ((c1'.same sh).fz (rep_imm q4)) rfl
              | ol _ _ => simp [er] at er'
              | oo _ _ _ _ _ _ => simp [er] at er'
              | od _ _ _ => simp [er] at er'
          | ol _ => cases q3
          | oo _ _ _ => cases q3
          | od _ _ => cases q3
      | ex x ss' =>
        simp only [q2] at w1
        intro cls d F3 H3 ts' s3 s4 rx hn _ _ g
        have sh : Same H1 H3 := s3.trans s4
        have n0 : ∀ dd, d = some dd → F dd = none := fun dd q => none_le (s1.trans c1.s) (hn dd q)
        exact w1 cls d F1 H3 σ as1 s1 (c1'.same sh) rx n0
    · rw [if_neg hn] at w1; exact w1.elim
def pinIx (i : Nat) : List Bool → List Nat
  | [] => []
  | true :: l => i :: pinIx (i + 1) l
  | false :: l => pinIx (i + 1) l
def okArgs : List Bool → List SV → Bool
  | [], [] => true
  | true :: l, _ :: ss => okArgs l ss
  | false :: l, .fz _ :: ss => okArgs l ss
  | _, _ => false
def outs (i : Nat) : List Bool → List SV → Env → Option (List SV)
  | [], [], _ => some []
  | false :: l, s :: ss, e => (match outs (i + 1) l ss e with
    | some r => some (s :: r)
    | none => none)
  | true :: l, _ :: ss, e => (match e.sl[i]? with
    | some (some s) => (match outs (i + 1) l ss (e.clr i) with
      | some r => some (s :: r)
      | none => none)
    | _ => none)
  | _, _, _ => none
def resOf (f : Fl) (e : Env) : Option (SV × Env) := match f with
  | .nx => some (.fz .non, e)
  | .rt (.fz d) => some (.fz d, e)
  | .rt (.own s) => some (s, e)
  | .rt (.var i) => (match e.sl[i]? with
    | some (some s) => if i ∈ e.pn then some (.fz s.toD, e.setS i (.fz s.toD)) else some (s, e.clr i)
    | _ => none)
  | _ => none
def env0 (md : List Bool) (n : Nat) (ss : List SV) : Env := ⟨ss.map some ++ List.replicate (n - ss.length) none, pinIx 0 md⟩
def mkFn (md : List Bool) (n : Nat) (m : M Fl) : Fn := fun ss => if okArgs md ss = true then (match m (env0 md n ss) with
  | .st => .st
  | .ok f e => (match resOf f e with
    | some (r, e1) => (match outs 0 md ss e1 with
      | some ss' => .ok r ss'
      | none => .st)
    | none => .st)
  | .ex x e => (match outs 0 md ss e with
    | some ss' => .ex x ss'
    | none => .st)) else .st
theorem outs_ok {md : List Bool} : ∀ {i : Nat} {ss ss' : List SV} {vs : List V} {ts0 us : List AT} {e : Env} {as : List (Option AT)}, Cf K mg pv F' H' σ e as us → Oks K mg F' (ts0.filter fun t => match t with | .fz _ _ => true | _ => false) → okArgs md ss = true → vals ts0 = vs → ers ts0 = ss →
    (∀ (j : Nat) (v : V), vs[j]? = some v → md[j]? = some true → σ[i + j]? = some (some v)) → outs i md ss e = some ss' → ∃ ts', Good K mg F' H' (ts' ++ us) ∧ vals ts' = vs ∧ ers ts' = ss' := by
  induction md with
  | nil =>
    intro i ss ss' vs ts0 us e as c hok ho hv he hs q
    cases ss with
    | nil =>
      cases ts0 with
      | nil =>
        have : ss' = [] := by simpa [outs] using q.symm
        subst this
        exact ⟨[], c.g.sub, by rw [← hv], rfl⟩
      | cons _ _ => cases he
    | cons _ _ => cases ho
  | cons b md ih =>
    intro i ss ss' vs ts0 us e as c hok ho hv he hs q
    cases ss with
    | nil => cases b <;> cases ho
    | cons s ss =>
      cases ts0 with
      | nil => cases he
      | cons t ts0 =>
        cases vs with
        | nil => cases hv
        | cons v vs =>
          injection hv with hv1 hv2
          injection he with he1 he2
          have hs' : ∀ (j : Nat) (w : V), vs[j]? = some w → md[j]? = some true → σ[i + 1 + j]? = some (some w) := fun j w h1 h2 => by
            have := hs (j + 1) w (by simpa using h1) (by simpa using h2)
            rw [show i + 1 + j = i + (j + 1) by omega]
            exact this
          cases b with
          | false =>
            cases s with
            | fz d =>
              have q' : (match outs (i + 1) md ss e with | some r => some (SV.fz d :: r) | none => none) = some ss' := q
              cases q1 : outs (i + 1) md ss e with
              | none => rw [q1] at q'; cases q'
              | some r =>
                rw [q1] at q'
                cases q'
                cases t with
                | fz v0 d0 =>
                  have hok' : Ok K mg F' (.fz v0 d0) ∧ Oks K mg F' (ts0.filter fun t => match t with | .fz _ _ => true | _ => false) := by
                    simpa [List.filter_cons, Oks] using hok
                  obtain ⟨ts', g, e1, e2⟩ := ih c hok'.2 (by simpa [okArgs] using ho) hv2 he2 hs' q1
                  refine ⟨.fz v0 d0 :: ts', g.fz hok'.1, ?_, ?_⟩
                  · show v0 :: vals ts' = _
                    rw [e1]
                    rw [show v0 = v from hv1]
                  · show SV.fz d0 :: ers ts' = _
                    rw [e2]
                    rw [show SV.fz d0 = .fz d from he1]
                | ol _ _ => cases he1
                | oo _ _ _ _ _ _ => cases he1
                | od _ _ _ => cases he1
            | ol _ => cases ho
            | oo _ _ _ => cases ho
            | od _ _ => cases ho
          | true =>
            have q' : (match e.sl[i]? with
              | some (some s) => (match outs (i + 1) md ss (e.clr i) with
                | some r => some (s :: r)
                | none => none)
              | _ => none) = some ss' := q
            cases z : e.sl[i]? with
            | none => rw [z] at q'; cases q'
            | some o =>
              cases o with
              | none => rw [z] at q'; cases q'
              | some s' =>
                rw [z] at q'
                simp only at q'
                cases q1 : outs (i + 1) md ss (e.clr i) with
                | none => rw [q1] at q'; cases q'
                | some r =>
                  rw [q1] at q'
                  cases q'
                  obtain ⟨u, hu, eu⟩ := c.r.slotOf z
                  have hv3 := c.r.at_ i u hu
                  have hv4 := hs 0 v rfl rfl
                  rw [Nat.add_zero, hv3] at hv4
                  have euv : u.val = v := by simpa using hv4
                  have hok' : Oks K mg F' (ts0.filter fun t => match t with | .fz _ _ => true | _ => false) := by
                    cases t with
                    | fz v0 d0 => exact (by simpa [List.filter_cons, Oks] using hok : Ok K mg F' (.fz v0 d0) ∧ _).2
                    | ol _ _ => simpa [List.filter_cons] using hok
                    | oo _ _ _ _ _ _ => simpa [List.filter_cons] using hok
                    | od _ _ _ => simpa [List.filter_cons] using hok
                  obtain ⟨ts', g, e1, e2⟩ := ih (c.clr hu) hok' (by simpa [okArgs] using ho) hv2 he2 hs' q1
                  refine ⟨u :: ts', g.perm ?_, ?_, ?_⟩
                  · exact List.perm_middle (l₁ := ts') (l₂ := us) (a := u)
                  · show u.val :: vals ts' = _
                    rw [e1, euv]
                  · show er u :: ers ts' = _
                    rw [e2, eu]
end
end VF
set_option maxRecDepth 100000
set_option maxHeartbeats 4000000
namespace VF
set_option autoImplicit false
open PySem PySem.Spec PyProof.Rows L2
open AT (cells cellsL er ers)
section
variable {K : PySem.W.Frag} {mg : Str → Option Value} {pv : List (Nat × V)} {F F' H H' : Hp} {σ : L2.St} {e e' : Env} {as as' : List (Option AT)} {held tr ts us : List AT} {E : XS}
def pins (i : Nat) : List Bool → List V → List (Nat × V)
  | true :: l, v :: vs => (i, v) :: pins (i + 1) l vs
  | false :: l, _ :: vs => pins (i + 1) l vs
  | _, _ => []
theorem pins_at : ∀ {md : List Bool} {vs : List V} {i j : Nat} {v : V}, md[j]? = some true → vs[j]? = some v → (i + j, v) ∈ pins i md vs
  | true :: _, v :: _, i, 0, _, _, h => by cases h; exact List.mem_cons_self
  | false :: _, _ :: _, _, 0, _, h, _ => by cases h
  | true :: md, v :: vs, i, j + 1, _, h, h' => by
    have := pins_at (md := md) (vs := vs) (i := i + 1) (j := j) (by simpa using h) (by simpa using h')
    rw [show i + (j + 1) = i + 1 + j by omega]
    exact List.mem_cons_of_mem _ this
  | false :: md, v :: vs, i, j + 1, _, h, h' => by
    have := pins_at (md := md) (vs := vs) (i := i + 1) (j := j) (by simpa using h) (by simpa using h')
    rw [show i + (j + 1) = i + 1 + j by omega]
    exact this
  | [], _, _, _, _, h, _ => by cases h
  | _ :: _, [], _, _, _, _, h => by cases h
theorem pins_mem : ∀ {md : List Bool} {vs : List V} {i : Nat} {p : Nat × V}, p ∈ pins i md vs → ∃ j, p.1 = i + j ∧ vs[j]? = some p.2 ∧ p.1 ∈ pinIx i md
  | true :: md, v :: vs, i, p, h => by
    rcases List.mem_cons.mp (show p ∈ (i, v) :: pins (i + 1) md vs from h) with q | q
    · subst q; exact ⟨0, rfl, rfl, List.mem_cons_self⟩
    · obtain ⟨j, h1, h2, h3⟩ := pins_mem q
      exact ⟨j + 1, by omega, by simpa using h2, List.mem_cons_of_mem _ h3⟩
  | false :: md, v :: vs, i, p, h => by
    obtain ⟨j, h1, h2, h3⟩ := pins_mem (show p ∈ pins (i + 1) md vs from h)
    exact ⟨j + 1, by omega, by simpa using h2, h3⟩
  | [], _, _, _, h => absurd (show _ ∈ ([] : List (Nat × V)) from h) List.not_mem_nil
  | true :: _, [], _, _, h => absurd (show _ ∈ ([] : List (Nat × V)) from h) List.not_mem_nil
  | false :: _, [], _, _, h => absurd (show _ ∈ ([] : List (Nat × V)) from h) List.not_mem_nil
theorem opts_start (ts : List AT) (k : Nat) : opts (ts.map some ++ List.replicate k none) = ts := by
  unfold opts
  rw [List.filterMap_append]
  have h1 : ∀ l : List AT, (l.map some).filterMap id = l := fun l => by
    induction l with
    | nil => rfl
    | cons a l ih => rw [List.map_cons, List.filterMap_cons]; simp [ih]
  have h2 : (List.replicate k (none : Option AT)).filterMap id = [] := by
    induction k with
    | zero => rfl
    | succ k ih => rw [List.replicate_succ, List.filterMap_cons]; simpa using ih
  rw [h1, h2, List.append_nil]
theorem start_ok {md : List Bool} {N : List Str} (s : Same F H) (g : Good K mg F H (ts ++ held)) :
    Cf K mg (pins 0 md (vals ts)) F H (L2.start N (vals ts)) (env0 md N.length (ers ts)) (ts.map some ++ List.replicate (N.length - ts.length) none) held := by
  have lv : (vals ts).length = ts.length := List.length_map _
  refine ⟨s, ⟨?_, ?_, fun j u hj => ?_, fun p hp => ?_⟩, by rw [opts_start]; exact g⟩
  · show (ers ts).map some ++ List.replicate (N.length - (ers ts).length) none = _
    rw [List.map_append, List.map_replicate, ers_length, ers_eq, List.map_map, List.map_map]
    rfl
  · unfold L2.start
    rw [List.length_append, List.length_append, List.length_map, List.length_map, List.length_replicate, List.length_replicate, lv]
  · have hlt : j < ts.length := by
      by_cases q : j < ts.length
      · exact q
      · rw [List.getElem?_append_right (by simpa using q), List.getElem?_replicate] at hj
        split at hj <;> cases hj
    rw [List.getElem?_append_left (by simpa using hlt), List.getElem?_map] at hj
    unfold L2.start
    rw [List.getElem?_append_left (by rw [List.length_map, lv]; exact hlt), List.getElem?_map]
    unfold vals
    rw [List.getElem?_map]
    cases z : ts[j]? with
    | none => rw [z] at hj; cases hj
    | some t => rw [z] at hj; cases hj; rfl
  · obtain ⟨j, h1, h2, h3⟩ := pins_mem hp
    refine ⟨h3, ?_⟩
    rw [Nat.zero_add] at h1
    rw [h1]
    have hlt : j < (vals ts).length := (List.getElem?_eq_some_iff.mp h2).1
    unfold L2.start
    rw [List.getElem?_append_left (by rw [List.length_map]; exact hlt), List.getElem?_map, h2]
    rfl
theorem body_ok {Ef : XK} {md : List Bool} {N : List Str} {m : M Fl} {t : TS} {vs : List V} {Q : VK} (ht : SS K mg (fun cls d _ H => Ef cls d H) t m) (w : spF K mg md.length (mkFn md N.length m) vs H Q Ef) :
    t { nx := fun _ H' => Q .non H', rt := Q } (L2.start N vs) H := by
  obtain ⟨F, ts, held, rfl, lt, s, g, w⟩ := w
  have okf : ∀ {F'}, Same F F' → Oks K mg F' (ts.filter fun t => match t with | .fz _ _ => true | _ => false) := fun s' => by
    refine Oks.mem.mpr fun t ht => ?_
    exact Ok.same s' (Oks.mem.mp g.ok t (List.mem_append_left _ (List.mem_filter.mp ht).1))
  unfold mkFn at w
  by_cases ha : okArgs md (ers ts) = true
  · rw [if_pos ha] at w
    have fin : ∀ {F' H' σ' e2 as2 us ss'}, Same F F' → Cf K mg (pins 0 md (vals ts)) F' H' σ' e2 as2 us → outs 0 md (ers ts) e2 = some ss' → ∃ ts', Good K mg F' H' (ts' ++ us) ∧ vals ts' = vals ts ∧ ers ts' = ss' := fun s' c' q =>
      outs_ok c' (okf s') ha rfl rfl (fun j v h1 h2 => (c'.r.pin (0 + j, v) (pins_at h2 h1)).2) q
    refine ht _ F H _ _ _ held _ (start_ok (md := md) (N := N) s g) ?_
    cases q : m (env0 md N.length (ers ts)) with
    | st => simp only [q] at w
    | ex x e1 =>
      simp only [q] at w
      intro cls d F' H' σ' as' s' c' rx hn
      cases q2 : outs 0 md (ers ts) e1 with
      | none => simp only [q2] at w
      | some ss' =>
        simp only [q2] at w
        obtain ⟨ts', g', h1, h2⟩ := fin s' c' q2
        exact w cls d F' H' ts' s' c'.s rx hn h1 h2 g'
    | ok f e1 =>
      simp only [q] at w
      cases f with
      | bk => simp only [resOf] at w
      | ct => simp only [resOf] at w
      | nx =>
        simp only [resOf] at w
        intro σ' F' H' as' s' c'
        cases q2 : outs 0 md (ers ts) e1 with
        | none => simp only [q2] at w
        | some ss' =>
          simp only [q2] at w
          obtain ⟨ts', g', h1, h2⟩ := fin s' (c'.fz (show Rep K mg F' .non .non from rfl)) q2
          exact w .non F' H' (.fz .non .non) ts' s' c'.s rfl rfl h1 h2 (g'.perm (pswap ts' [.fz .non .non] held))
      | rt r =>
        intro v σ' F' H' as' tr s' c' rr
        cases r with
        | fz d =>
          simp only [resOf] at w
          have e1 : tr = [.fz v d] := rr
          subst e1
          cases q2 : outs 0 md (ers ts) e1 with
          | none => simp only [q2] at w
          | some ss' =>
            simp only [q2] at w
            obtain ⟨ts', g', h1, h2⟩ := fin s' c' q2
            exact w v F' H' (.fz v d) ts' s' c'.s rfl rfl h1 h2 (g'.perm (pswap ts' [.fz v d] held))
        | own s =>
          simp only [resOf] at w
          obtain ⟨t0, e1, e2, e3⟩ := rr
          subst e1
          cases q2 : outs 0 md (ers ts) e1 with
          | none => simp only [q2] at w
          | some ss' =>
            simp only [q2] at w
            obtain ⟨ts', g', h1, h2⟩ := fin s' c' q2
            exact w v F' H' t0 ts' s' c'.s e2 e3 h1 h2 (g'.perm (pswap ts' [t0] held))
        | var i =>
          obtain ⟨e2, hv⟩ := rr
          subst e2
          simp only [resOf] at w
          cases z : e1.sl[i]? with
          | none => simp only [z] at w
          | some o =>
            cases o with
            | none => simp only [z] at w
            | some s0 =>
              simp only [z] at w
              obtain ⟨t0, h0, e0⟩ := c'.r.slotOf z
              have hv2 := c'.r.at_ i t0 h0
              rw [hv] at hv2
              have ev : v = t0.val := by simpa using hv2
              subst e0
              by_cases hp : i ∈ e1.pn
              · simp only [if_pos hp] at w
                obtain ⟨F2, s2, c2, rp⟩ := Cf.frzS (held := held) c' h0
                cases q2 : outs 0 md (ers ts) (e1.setS i (.fz (er t0).toD)) with
                | none => simp only [q2] at w
                | some ss' =>
                  simp only [q2] at w
                  obtain ⟨ts', g', h1, h2⟩ := fin (s'.trans s2) (c2.fz rp) q2
                  exact w v F2 H' (.fz t0.val (er t0).toD) ts' (s'.trans s2) c2.s ev.symm rfl h1 h2 (g'.perm (pswap ts' [.fz t0.val (er t0).toD] held))
              · simp only [if_neg hp] at w
                cases q2 : outs 0 md (ers ts) (e1.clr i) with
                | none => simp only [q2] at w
                | some ss' =>
                  simp only [q2] at w
                  obtain ⟨ts', g', h1, h2⟩ := fin s' (Cf.clr (held := held) c' h0) q2
                  exact w v F' H' t0 ts' s' c'.s ev.symm rfl h1 h2 (g'.perm (pswap ts' [t0] held))
  · rw [if_neg ha] at w; exact w.elim
end
def wE (K : PySem.W.Frag) (mg : Str → Option Value) (E : XS) (m : M RV) : TE := fun σ H Q => ∃ pv F e as held, Cf K mg pv F H σ e as held ∧ WE K mg pv F held σ Q E (m e)
def wT (K : PySem.W.Frag) (mg : Str → Option Value) (E : XS) (m : M Bool) : TT := fun σ H Q => ∃ pv F e as held, Cf K mg pv F H σ e as held ∧ WT K mg pv F held σ Q E (m e)
def wA (K : PySem.W.Frag) (mg : Str → Option Value) (E : XS) (m : M (List RV)) : TA := fun σ H Q => ∃ pv F e as held, Cf K mg pv F H σ e as held ∧ WA K mg pv F held σ Q E (m e)
def wS (K : PySem.W.Frag) (mg : Str → Option Value) (E : XS) (m : M Fl) : TS := fun D σ H => ∃ pv F e as held, Cf K mg pv F H σ e as held ∧ WS K mg pv F held E D (m e)
section
variable {K : PySem.W.Frag} {mg : Str → Option Value} {E : XS}
theorem se_w {m : M RV} : SE K mg E (wE K mg E m) m := fun pv F H σ e as held Q c w => ⟨pv, F, e, as, held, c, w⟩
theorem st_w {m : M Bool} : ST K mg E (wT K mg E m) m := fun pv F H σ e as held Q c w => ⟨pv, F, e, as, held, c, w⟩
theorem sa_w {m : M (List RV)} : SA K mg E (wA K mg E m) m := fun pv F H σ e as held Q c w => ⟨pv, F, e, as, held, c, w⟩
theorem ss_w {m : M Fl} : SS K mg E (wS K mg E m) m := fun pv F H σ e as held D c w => ⟨pv, F, e, as, held, c, w⟩
end
def VE (X : Cx) (E : XS) (e : Expr) (m : M RV) : Prop := PE X e (wE X.K X.mg E m)
def VT (X : Cx) (E : XS) (e : Expr) (m : M Bool) : Prop := PT X e (wT X.K X.mg E m)
def VA (X : Cx) (E : XS) (es : List Expr) (m : M (List RV)) : Prop := PA X es (wA X.K X.mg E m)
def VS (X : Cx) (E : XS) (s : Stmt) (m : M Fl) : Prop := PS X s (wS X.K X.mg E m)
def VB (X : Cx) (E : XS) (ss : List Stmt) (m : M Fl) : Prop := PSs X ss (wS X.K X.mg E m)
section
variable {X : Cx} {E : XS}
theorem VE.mk {e : Expr} {t : TE} {m : M RV} (h : PE X e t) (s : SE X.K X.mg E t m) : VE X E e m := ⟨fun pins s0 σ H Q I ⟨pv, F, e0, as, held, c, w⟩ => h.run pins s0 σ H Q I (s pv F H σ e0 as held Q c w)⟩
theorem VT.mk {e : Expr} {t : TT} {m : M Bool} (h : PT X e t) (s : ST X.K X.mg E t m) : VT X E e m := ⟨fun pins s0 σ H Q I ⟨pv, F, e0, as, held, c, w⟩ => h.run pins s0 σ H Q I (s pv F H σ e0 as held Q c w)⟩
theorem VA.mk {e : List Expr} {t : TA} {m : M (List RV)} (h : PA X e t) (s : SA X.K X.mg E t m) : VA X E e m := ⟨fun pos pins s0 σ H Q I ⟨pv, F, e0, as, held, c, w⟩ => h.run pos pins s0 σ H Q I (s pv F H σ e0 as held Q c w)⟩
theorem VS.mk {e : Stmt} {t : TS} {m : M Fl} (h : PS X e t) (s : SS X.K X.mg E t m) : VS X E e m := ⟨fun pins s0 σ H D I ⟨pv, F, e0, as, held, c, w⟩ => h.run pins s0 σ H D I (s pv F H σ e0 as held D c w)⟩
theorem VB.mk {e : List Stmt} {t : TS} {m : M Fl} (h : PSs X e t) (s : SS X.K X.mg E t m) : VB X E e m := ⟨fun pins s0 σ H D I ⟨pv, F, e0, as, held, c, w⟩ => h.run pins s0 σ H D I (s pv F H σ e0 as held D c w)⟩
end
def mkFn0 (md : List Bool) (n : Nat) (m : M Fl) : Fn := fun ss => match mkFn md n m ss with
  | .ok r as => .ok r as
  | _ => .st
theorem fn_ok {P : Program} {w : World} {K : PySem.W.Frag} {mg : Str → Option Value} {base : Heap} {x qual : Str} {params : Arguments} {body : List Stmt} {scope : Scope} {dvs : List V} {kws : List (Str × V)} {f : Addr} {fd : FuncData} {N ps : List Str} {k : Nat}
    (F : FunD K x qual params body scope dvs kws f fd) (S : FnScope N ps scope) (md : List Bool) (hl : md.length = ps.length) {m : M Fl} {n : Nat} (hN : N.length = n)
    (hb : ∀ (cdv : Value) (A : Around) (outer : List PySem.Env) (s : Shared) (H : Hp) (E : XK), Room k (A.deeper (envOfC qual scope s.heap.objs.size f cdv)) → VB (cxOf CX0 P w K mg base N qual scope f cdv A outer s H E).nox E0 body m) :
    FnOk P w K mg base CX0 (k + 1) f fd ps (spF K mg md.length (mkFn0 md n m)) := by
  subst hN
  refine F.ok S (fun vs H Q E h => ?_) (fun cdv A outer s H vs Q E hr h => ⟨_, (hb cdv A outer s H E hr).nox, ?_⟩)
  · obtain ⟨F, ts, held, rfl, lt, _⟩ := h
    rw [← hl, ← lt]; exact List.length_map _
  · have h' : spF K mg md.length (mkFn md N.length m) vs H Q L2.E0 := by
      obtain ⟨F, ts, held, e1, lt, s, g, w⟩ := h
      refine ⟨F, ts, held, e1, lt, s, g, ?_⟩
      unfold mkFn0 at w
      cases q : mkFn md N.length m (ers ts) with
      | st => rw [q] at w; exact w
      | ok r as => rw [q] at w; exact w
      | ex x as => rw [q] at w; exact w.elim
    exact body_ok (Ef := L2.E0) ss_w h'
end VF
set_option maxRecDepth 100000
set_option maxHeartbeats 4000000
namespace VF
set_option autoImplicit false
open PySem PySem.Spec PyProof.Rows L2
open AT (cells cellsL er ers)
structure ItOk (K : PySem.W.Frag) (mg : Str → Option Value) (F0 : Hp) (J : It) (ds : List D) : Prop where
  go : ∀ (i : Nat) F H, Same F0 F → Same F H → i < ds.length → J.go i H
  yld : ∀ (i : Nat) F H x H', Same F0 F → Same F H → i < ds.length → J.yld i H x H' → ∃ F' d, Same F F' ∧ Same F' H' ∧ (∀ us, Good K mg F H us → Good K mg F' H' us) ∧ ds[i]? = some d ∧ Rep K mg F' x d
  stop : ∀ (i : Nat) F H, Same F0 F → Same F H → ds.length ≤ i → J.stop i H
section
variable {K : PySem.W.Frag} {mg : Str → Option Value} {pv : List (Nat × V)} {F F' H H' : Hp} {σ : L2.St} {e e' : Env} {as as' : List (Option AT)} {held tr ts us : List AT} {E : XS}
def WI (K : PySem.W.Frag) (mg : Str → Option Value) (pv : List (Nat × V)) (F : Hp) (held : List AT) (σ : L2.St) (Q : It → Hp → Prop) (E : XS) : R (List D) → Prop
  | .st => False
  | .ok ds e' => ∀ J F' H' as', Same F F' → Cf K mg pv F' H' σ e' as' held → ItOk K mg F' J ds → Q J H'
  | .ex x e' => WX K mg pv F held E x e'
def SI (K : PySem.W.Frag) (mg : Str → Option Value) (E : XS) (t : TI) (m : M (List D)) : Prop := ∀ pv F H σ e as held Q, Cf K mg pv F H σ e as held → WI K mg pv F held σ Q E (m e) → t σ H Q
theorem it_list {a : Addr} {vs : List V} {ds : List D} (h : F a = some (.lst vs)) (r : Reps K mg F vs ds) : ItOk K mg F (Itl K a) ds where
  go := fun i F1 H1 s s' hi => by
    have hv : i < vs.length := by rw [r.length]; exact hi
    exact ⟨vs, vs[i], SqL.of (s' _ _ (s _ _ h)), List.getElem?_eq_getElem hv⟩
  yld := fun i F1 H1 x H' s s' hi y => by
    obtain ⟨e1, y⟩ := y
    subst e1
    obtain ⟨d, hd, rd⟩ := r.getV (y vs (SqL.of (s' _ _ (s _ _ h))))
    exact ⟨F1, d, Same.refl _, s', fun us g => g, hd, Rep.same s rd⟩
  stop := fun i F1 H1 s s' hi => ⟨vs, SqL.of (s' _ _ (s _ _ h)), by rw [r.length]; exact hi⟩
theorem it_tup {a : Addr} {vs : List V} {ds : List D} (h : SqT K F a vs) (r : Reps K mg F vs ds) : ItOk K mg F (Itt K a) ds where
  go := fun i F1 H1 s s' hi => by
    have hv : i < vs.length := by rw [r.length]; exact hi
    exact ⟨vs, vs[i], SqT_same s' (SqT_same s h), List.getElem?_eq_getElem hv⟩
  yld := fun i F1 H1 x H' s s' hi y => by
    obtain ⟨e1, y⟩ := y
    subst e1
    obtain ⟨d, hd, rd⟩ := r.getV (y vs (SqT_same s' (SqT_same s h)))
    exact ⟨F1, d, Same.refl _, s', fun us g => g, hd, Rep.same s rd⟩
  stop := fun i F1 H1 s s' hi => ⟨vs, SqT_same s' (SqT_same s h), by rw [r.length]; exact hi⟩
def signs (z : Str) : List D := z.cps.toList.map fun c => .str ⟨#[c]⟩
theorem it_str {z : Str} : ItOk K mg F (Its z) (signs z) where
  go := fun i F1 H1 s s' hi => by
    have : i < z.cps.size := by simpa [signs] using hi
    exact this
  yld := fun i F1 H1 x H' s s' hi y => by
    obtain ⟨e1, c, hc, ex⟩ := y
    subst e1 ex
    refine ⟨F1, .str ⟨#[c]⟩, Same.refl _, s', fun us g => g, ?_, rfl⟩
    unfold signs
    rw [List.getElem?_map, Array.getElem?_toList, hc]
    rfl
  stop := fun i F1 H1 s s' hi => by
    have : z.cps.size ≤ i := by simpa [signs] using hi
    exact this
def rngD (lo : Int) (n : Nat) : List D := (List.range n).map fun i => .int (lo + (i : Nat))
theorem it_rng {lo : Int} {n : Nat} : ItOk K mg F (Itr lo n) (rngD lo n) where
  go := fun i F1 H1 s s' hi => by
    have : i < n := by simpa [rngD] using hi
    exact this
  yld := fun i F1 H1 x H' s s' hi y => by
    obtain ⟨e1, ex⟩ := y
    subst e1 ex
    have hi' : i < n := by simpa [rngD] using hi
    refine ⟨F1, .int (lo + (i : Nat)), Same.refl _, s', fun us g => g, ?_, rfl⟩
    unfold rngD
    rw [List.getElem?_map, List.getElem?_range hi']
    rfl
  stop := fun i F1 H1 s s' hi => by
    have : n ≤ i := by simpa [rngD] using hi
    exact this
theorem WE.bindI {f : RV → M (List D)} {m : M RV} {R0 : It → Hp → Prop} (h : WI K mg pv F held σ R0 E ((m e).bind f)) {P : V → Hp → Prop}
    (k : ∀ r e' v F' H' as' tr, Same F F' → Cf K mg pv F' H' σ e' as' (tr ++ held) → RR σ v r tr → WI K mg pv F held σ R0 E (f r e') → P v H') : WE K mg pv F held σ P E (m e) :=
  WE.bindE (W := WI K mg pv F held σ R0 E) (fun z => z) h (fun _ _ z => z) k
def walk (d : D) : Option (List D) := match d with
  | .lst ds => some ds
  | .tup ds => some ds
  | .str z => some (signs z)
  | _ => none
def dIt (a : M RV) : M (List D) := a.bind fun r e => match frzR r e with
  | some (d, e1) => (match walk d with
    | some ds => .ok ds e1
    | none => .st)
  | none => .st
def iAny (K : PySem.W.Frag) (tl : TE) : TI := fun σ H R => iList K tl σ H R ∨ iTup K tl σ H R ∨ iStr tl σ H R
theorem pi_any {X : Cx} {tg l : Expr} {tl : TE} (hl : PE X l tl) : PI X tg l (iAny X.K tl) := ⟨fun pins s σ H R I h => by
  rcases h with h | h | h
  · exact (pi_list hl).run pins s σ H R I h
  · exact (pi_tup hl).run pins s σ H R I h
  · exact (pi_str hl).run pins s σ H R I h⟩
theorem si_any {ta : TE} {ma : M RV} (ha : SE K mg E ta ma) : SI K mg E (iAny K ta) (dIt ma) := by
  intro pv F H σ e as held R0 c w
  have key : ∀ (P : V → Hp → Prop), (∀ r e' v F' H' as' tr, ma e = .ok r e' → Same F F' → Cf K mg pv F' H' σ e' as' (tr ++ held) → RR σ v r tr → P v H') → ta σ H P := fun P k => by
    refine ha pv F H σ e as held P c ?_
    have w' : WI K mg pv F held σ R0 E ((ma e).bind fun r e => match frzR r e with
      | some (d, e1) => (match walk d with
        | some ds => .ok ds e1
        | none => .st)
      | none => .st) := w
    cases q : ma e with
    | st => rw [q] at w'; exact w'.elim
    | ok r e' => exact fun v F' H' as' tr s c' rr => k r e' v F' H' as' tr q s c' rr
    | ex x e' => rw [q] at w'; exact w'
  have w' : WI K mg pv F held σ R0 E ((ma e).bind fun r e => match frzR r e with
    | some (d, e1) => (match walk d with
      | some ds => .ok ds e1
      | none => .st)
    | none => .st) := w
  cases q : ma e with
  | st => rw [q] at w'; exact w'.elim
  | ex x e1 =>
    refine .inl (ha pv F H σ e as held _ c ?_)
    rw [q] at w' ⊢
    exact w'
  | ok r e1 =>
    rw [q] at w'
    have w2 : WI K mg pv F held σ R0 E (match frzR r e1 with
      | some (d, e1) => (match walk d with
        | some ds => .ok ds e1
        | none => .st)
      | none => .st) := w'
    cases q1 : frzR r e1 with
    | none => rw [q1] at w2; exact w2.elim
    | some p =>
      obtain ⟨d, e2⟩ := p
      rw [q1] at w2
      cases d with
      | lst ds =>
        refine .inl (key _ fun r' e' v F' H' as' tr q' s c' rr => ?_)
        rw [q] at q'
        cases q'
        obtain ⟨F2, as2, s2, c2, rp⟩ := c'.frzR rr q1
        obtain ⟨p, vs, ev, h1, h2⟩ := rp
        exact ⟨p, ev, ⟨vs, SqL.of (c2.s _ _ h1)⟩, w2 _ F2 H' as2 (s.trans s2) c2 (it_list h1 h2)⟩
      | tup ds =>
        refine .inr (.inl (key _ fun r' e' v F' H' as' tr q' s c' rr => ?_))
        rw [q] at q'
        cases q'
        obtain ⟨F2, as2, s2, c2, rp⟩ := c'.frzR rr q1
        obtain ⟨p, vs, ev, h1, h2⟩ := rp
        exact ⟨p, ev, ⟨vs, SqT_same c2.s h1⟩, w2 _ F2 H' as2 (s.trans s2) c2 (it_tup h1 h2)⟩
      | str z =>
        refine .inr (.inr (key _ fun r' e' v F' H' as' tr q' s c' rr => ?_))
        rw [q] at q'
        cases q'
        obtain ⟨F2, as2, s2, c2, rp⟩ := c'.frzR rr q1
        have ev : v = .str z := rp
        exact ⟨z, ev, w2 _ F2 H' as2 (s.trans s2) c2 it_str⟩
      | _ => exact w2.elim
theorem WA.bindI {f : List RV → M (List D)} {m : M (List RV)} {R0 : It → Hp → Prop} (h : WI K mg pv F held σ R0 E ((m e).bind f)) {P : List V → Hp → Prop}
    (k : ∀ r e' v F' H' as' tr, Same F F' → Cf K mg pv F' H' σ e' as' (tr ++ held) → RRs σ v r tr → WI K mg pv F held σ R0 E (f r e') → P v H') : WA K mg pv F held σ P E (m e) :=
  WA.bindA (W := WI K mg pv F held σ R0 E) (fun z => z) h (fun _ _ z => z) k
def small62 (i : Int) : Bool := decide (-(2 ^ 62) ≤ i ∧ i < 2 ^ 62)
def oneI : List D → Option Int
  | [.int i] => some i
  | _ => none
def twoI : List D → Option (Int × Int)
  | [.int i, .int j] => some (i, j)
  | _ => none
theorem oneI_some {ds : List D} {p : Int} (h : oneI ds = some p) : ds = [.int p] := by
  unfold oneI at h
  split at h
  · cases h; rfl
  · cases h
theorem twoI_some {ds : List D} {p : Int × Int} (h : twoI ds = some p) : ds = [.int p.1, .int p.2] := by
  unfold twoI at h
  split at h
  · cases h; rfl
  · cases h
def dRng1 (a : M (List RV)) : M (List D) := a.bind fun rs e => match rs.mapM (view e) with
  | some ds => (match oneI ds with
    | some j => if small62 j = true then .ok (rngD 0 j.toNat) e else .st
    | none => .st)
  | none => .st
def dRng2 (a : M (List RV)) : M (List D) := a.bind fun rs e => match rs.mapM (view e) with
  | some ds => (match twoI ds with
    | some (i, j) => if (small62 i && small62 j) = true then .ok (rngD i (j - i).toNat) e else .st
    | none => .st)
  | none => .st
theorem reps1 {vs : List V} {d : D} (h : Reps K mg F vs [d]) : ∃ v, vs = [v] ∧ Rep K mg F v d := by
  match vs, h with
  | [v], ⟨h1, _⟩ => exact ⟨v, rfl, h1⟩
theorem reps2 {vs : List V} {d d' : D} (h : Reps K mg F vs [d, d']) : ∃ v v', vs = [v, v'] ∧ Rep K mg F v d ∧ Rep K mg F v' d' := by
  match vs, h with
  | [v, v'], ⟨h1, h2, _⟩ => exact ⟨v, v', rfl, h1, h2⟩
theorem si_rng1 {ta : TA} {ma : M (List RV)} (ha : SA K mg E ta ma) : SI K mg E (iRng1 ta) (dRng1 ma) := by
  intro pv F H σ e as held R0 c w
  refine ha pv F H σ e as held _ c (WA.bindI w fun r1 e1 v1 F1 H1 as1 tr1 s1 c1 rr1 w1 => ?_)
  cases q : r1.mapM (view e1) with
  | none => simp only [q] at w1; exact w1.elim
  | some ds =>
    have rp := RRs.seen (rs := r1) c1 rr1 (fun t ht => List.mem_append_left _ ht) q
    simp only [q] at w1
    cases q2 : oneI ds with
    | none => simp only [q2] at w1; exact w1.elim
    | some j =>
      simp only [q2] at w1
      rw [oneI_some q2] at rp
      obtain ⟨v, e2, rv⟩ := reps1 rp
      by_cases hj : small62 j = true
      · rw [if_pos hj] at w1
        have hj2 := of_decide_eq_true hj
        have ev : v = .int j := rv
        subst ev
        exact ⟨j, e2, hj2.1, hj2.2, w1 _ F1 H1 as1 s1 c1.drop it_rng⟩
      · rw [if_neg hj] at w1; exact w1.elim
theorem si_rng2 {ta : TA} {ma : M (List RV)} (ha : SA K mg E ta ma) : SI K mg E (iRng2 ta) (dRng2 ma) := by
  intro pv F H σ e as held R0 c w
  refine ha pv F H σ e as held _ c (WA.bindI w fun r1 e1 v1 F1 H1 as1 tr1 s1 c1 rr1 w1 => ?_)
  cases q : r1.mapM (view e1) with
  | none => simp only [q] at w1; exact w1.elim
  | some ds =>
    have rp := RRs.seen (rs := r1) c1 rr1 (fun t ht => List.mem_append_left _ ht) q
    simp only [q] at w1
    cases q2 : twoI ds with
    | none => simp only [q2] at w1; exact w1.elim
    | some p =>
      obtain ⟨i, j⟩ := p
      simp only [q2] at w1
      rw [twoI_some q2] at rp
      obtain ⟨v, v', e2, rv, rv'⟩ := reps2 rp
      by_cases hj : (small62 i && small62 j) = true
      · rw [if_pos hj] at w1
        have hj2 := Bool.and_eq_true_iff.mp hj
        have h1 := of_decide_eq_true hj2.1
        have h2 := of_decide_eq_true hj2.2
        have ev : v = .int i := rv
        have ev' : v' = .int j := rv'
        subst ev ev'
        exact ⟨i, j, e2, ⟨h1.1, h1.2, h2.1, h2.2⟩, w1 _ F1 H1 as1 s1 c1.drop it_rng⟩
      · rw [if_neg hj] at w1; exact w1.elim
abbrev Tg := D → Env → Option Env
def SG (K : PySem.W.Frag) (mg : Str → Option Value) (L : List Nat) (tg : TG) (g : Tg) : Prop := ∀ pv F H σ e as held v d e' Q, Cf K mg pv F H σ e as held → Rep K mg F v d → g d e = some e' → (∀ σ' as', (∀ vs, (∀ i ∈ L, i ∈ vs) → wipe σ' vs = wipe σ vs) → Cf K mg pv F H σ' e' as' held → Q σ' H) → tg v σ H Q
def gN (i : Nat) : Tg := fun d e => putR i (.fz d) e
theorem wipe_set {σ : L2.St} {i : Nat} {x : Option V} : ∀ {vs : List Nat}, i ∈ vs → wipe (σ.set i x) vs = wipe σ vs
  | v :: vs, h => by
    by_cases hv : i ∈ vs
    · show (wipe (σ.set i x) vs).set v none = (wipe σ vs).set v none
      rw [wipe_set hv]
    · have e : i = v := by
        rcases List.mem_cons.mp h with q | q
        · exact q
        · exact absurd q hv
      subst e
      have key : ∀ (us : List Nat), i ∉ us → wipe (σ.set i x) us = (wipe σ us).set i x := fun us => by
        induction us with
        | nil => intro _; rfl
        | cons u us ih =>
          intro hu
          have h1 : i ≠ u := fun z => hu (by rw [z]; exact List.mem_cons_self)
          show (wipe (σ.set i x) us).set u none = ((wipe σ us).set u none).set i x
          rw [ih fun z => hu (List.mem_cons_of_mem _ z), List.set_comm _ _ h1]
      show (wipe (σ.set i x) vs).set i none = (wipe σ vs).set i none
      rw [key vs hv, List.set_set]
theorem sg_name {i : Nat} : SG K mg [i] (gName i) (gN i) := by
  intro pv F H σ e as held v d e' Q c r q k
  unfold gN VF.putR at q
  by_cases hi : i ∈ e.pn
  · rw [if_pos hi] at q; cases q
  · rw [if_neg hi] at q
    cases q
    exact k _ _ (fun vs h => wipe_set (h i List.mem_cons_self)) ((c.fz r).store (t := .fz v d) hi)
def loopF (g : Tg) (body : M Fl) : List D → M Fl
  | [] => fun e => .ok .nx e
  | d :: ds => fun e => match g d e with
    | none => .st
    | some e1 => (match body e1 with
      | .ok .nx e2 => loopF g body ds e2
      | .ok .ct e2 => loopF g body ds e2
      | .ok .bk e2 => .ok .nx e2
      | .ok (.rt r) e2 => .ok (.rt r) e2
      | .ex x e2 => .ex x e2
      | .st => .st)
def dFor (it : M (List D)) (g : Tg) (body : M Fl) : M Fl := it.bind fun ds => loopF g body ds
theorem WI.bindS {f : List D → M Fl} {m : M (List D)} {D' : Ends} (h : WS K mg pv F held E D' ((m e).bind f)) {P : It → Hp → Prop}
    (k : ∀ ds e' J F' H' as', Same F F' → Cf K mg pv F' H' σ e' as' held → ItOk K mg F' J ds → WS K mg pv F held E D' (f ds e') → P J H') : WI K mg pv F held σ P E (m e) := by
  cases q : m e with
  | st => rw [q] at h; exact h.elim
  | ok r e' => rw [q] at h; exact fun J F' H' as' s c it => k r e' J F' H' as' s c it h
  | ex x e' => rw [q] at h; exact h
theorem ss_for {L : List Nat} {wi : TI} {tg : TG} {tb : TS} {mi : M (List D)} {g : Tg} {mb : M Fl} (hi : SI K mg E wi mi) (hg : SG K mg L tg g) (hb : SS K mg E tb mb) : SS K mg E (tFor wi tg tb) (dFor mi g mb) := by
  intro pv F H σ e as held D' c w
  refine hi pv F H σ e as held _ c (WI.bindS w fun ds e1 J F1 H1 as1 s1 c1 it w1 => ?_)
  refine ⟨fun i m σ H => m = ds.length - i ∧ ∃ F e as, Same F1 F ∧ Cf K mg pv F H σ e as held ∧ WS K mg pv F held E D' (loopF g mb (ds.drop i) e), ⟨_, rfl, F1, e1, as1, Same.refl _, c1, WS.mono s1 w1⟩, ?_⟩
  rintro i m σ2 H2 ⟨rfl, F2, e2, as2, s2, c2, w2⟩
  by_cases hlt : i < ds.length
  · refine .inr ⟨it.go i F2 H2 s2 c2.s hlt, fun σ' H' => ∃ F e as, Same F1 F ∧ Cf K mg pv F H' σ' e as held ∧ WS K mg pv F held E D' (loopF g mb (ds.drop (i + 1)) e), fun σ' H' ⟨F3, e3, as3, s3, c3, w3⟩ => ⟨ds.length - (i + 1), by omega, rfl, F3, e3, as3, s3, c3, w3⟩, fun x H' y => ?_⟩
    obtain ⟨F3, d, s3, s3', gg, hd, rd⟩ := it.yld i F2 H2 x H' s2 c2.s hlt y
    have c3 : Cf K mg pv F3 H' σ2 e2 as2 held := ⟨s3', c2.r, gg _ c2.g⟩
    have e4 : ds.drop i = d :: ds.drop (i + 1) := by
      have hdd : ds[i] = d := by rw [List.getElem?_eq_getElem hlt] at hd; exact Option.some.inj hd
      rw [List.drop_eq_getElem_cons hlt, hdd]
    rw [e4] at w2
    have w2' : WS K mg pv F2 held E D' (match g d e2 with
      | none => .st
      | some e1 => (match mb e1 with
        | .ok .nx e2 => loopF g mb (ds.drop (i + 1)) e2
        | .ok .ct e2 => loopF g mb (ds.drop (i + 1)) e2
        | .ok .bk e2 => .ok .nx e2
        | .ok (.rt r) e2 => .ok (.rt r) e2
        | .ex x e2 => .ex x e2
        | .st => .st)) := w2
    cases q1 : g d e2 with
    | none => rw [q1] at w2'; exact w2'.elim
    | some e3 =>
      rw [q1] at w2'
      refine hg pv F3 H' σ2 e2 as2 held x d e3 _ c3 rd q1 fun σ4 as4 _ c4 => ?_
      refine hb pv F3 H' σ4 e3 as4 held _ c4 ?_
      simp only at w2'
      cases q2 : mb e3 with
      | st => rw [q2] at w2'; exact w2'.elim
      | ex x e5 => rw [q2] at w2'; exact WX.mono s3 w2'
      | ok f e5 =>
        rw [q2] at w2'
        cases f with
        | nx => exact fun σ5 F5 H5 as5 s5 c5 => ⟨F5, e5, as5, (s2.trans s3).trans s5, c5, WS.mono (s3.trans s5) w2'⟩
        | ct => exact fun σ5 F5 H5 as5 s5 c5 => ⟨F5, e5, as5, (s2.trans s3).trans s5, c5, WS.mono (s3.trans s5) w2'⟩
        | bk => exact fun σ5 F5 H5 as5 s5 c5 => w2' σ5 F5 H5 as5 (s3.trans s5) c5
        | rt r => exact fun v σ5 F5 H5 as5 tr5 s5 c5 rr => w2' v σ5 F5 H5 as5 tr5 (s3.trans s5) c5 rr
  · refine .inl ⟨it.stop i F2 H2 s2 c2.s (by omega), ?_⟩
    rw [List.drop_eq_nil_of_le (by omega)] at w2
    exact w2 σ2 F2 H2 as2 (Same.refl _) c2
end
end VF
set_option maxRecDepth 100000
set_option maxHeartbeats 4000000
namespace VF
set_option autoImplicit false
open PySem PySem.Spec PyProof.Rows L2
open AT (cells cellsL er ers)
section
variable {K : PySem.W.Frag} {mg : Str → Option Value} {pv : List (Nat × V)} {F F' H H' : Hp} {σ : L2.St} {e e' : Env} {as as' : List (Option AT)} {held tr ts us : List AT} {E : XS}
def wipeE : List Nat → Env → Env
  | [], e => e
  | v :: vs, e => (wipeE vs e).clr v
theorem wipeE_pn : ∀ (vs : List Nat) (e : Env), (wipeE vs e).pn = e.pn
  | [], _ => rfl
  | _ :: vs, e => wipeE_pn vs e
theorem Cf.wipe1 {v : Nat} (c : Cf K mg pv F H σ e as us) (hv : v ∉ e.pn) : Cf K mg pv F H (σ.set v none) (e.clr v) (as.set v none) us := by
  refine ⟨c.s, ⟨?_, by rw [List.length_set, List.length_set]; exact c.r.len, fun j u hj => ?_, fun p hp => ?_⟩, ?_⟩
  · show e.sl.set v none = _
    rw [List.map_set, c.r.sl]; rfl
  · by_cases q : j = v
    · subst q
      have hlt : j < as.length := by simpa using (List.getElem?_eq_some_iff.mp hj).1
      rw [List.getElem?_set_self hlt] at hj
      cases hj
    · rw [List.getElem?_set_ne (Ne.symm q)] at hj ⊢
      exact c.r.at_ j u hj
  · obtain ⟨h1, h2⟩ := c.r.pin p hp
    refine ⟨h1, ?_⟩
    have ne : v ≠ p.1 := fun q => hv (by rw [q]; exact h1)
    rw [List.getElem?_set_ne ne]
    exact h2
  · cases z : as[v]? with
    | none =>
      rw [List.set_eq_of_length_le (List.getElem?_eq_none_iff.mp z)]
      exact c.g
    | some o =>
      cases o with
      | none =>
        have hlt : v < as.length := (List.getElem?_eq_some_iff.mp z).1
        have e0 : as[v] = none := by rw [List.getElem?_eq_getElem hlt] at z; exact Option.some.inj z
        rw [← e0, List.set_getElem_self]
        exact c.g
      | some t => exact (c.take z).tail
def wipeA : List Nat → List (Option AT) → List (Option AT)
  | [], as => as
  | v :: vs, as => (wipeA vs as).set v none
theorem Cf.wipe : ∀ {vs : List Nat} {e : Env} {as : List (Option AT)}, Cf K mg pv F H σ e as us → (∀ v ∈ vs, v ∉ e.pn) → Cf K mg pv F H (wipe σ vs) (wipeE vs e) (wipeA vs as) us
  | [], _, _, c, _ => c
  | v :: vs, e, as, c, h => (Cf.wipe (vs := vs) c fun u hu => h u (List.mem_cons_of_mem _ hu)).wipe1 (by rw [wipeE_pn]; exact h v List.mem_cons_self)
theorem wipe_wipe : ∀ (vs : List Nat) (σ : L2.St), wipe (wipe σ vs) vs = wipe σ vs := by
  intro vs σ
  have key : ∀ (us ws : List Nat), (∀ v ∈ ws, v ∈ us) → wipe (wipe σ ws) us = wipe σ us := fun us ws => by
    induction ws with
    | nil => intro _; rfl
    | cons w ws ih =>
      intro h
      show wipe ((wipe σ ws).set w none) us = _
      rw [wipe_set (h w List.mem_cons_self), ih fun v hv => h v (List.mem_cons_of_mem _ hv)]
  exact key vs vs fun _ h => h
def noPn (own : List Nat) (e : Env) : Bool := own.all fun v => !e.pn.contains v
theorem noPn_ok {own : List Nat} (h : noPn own e = true) : ∀ v ∈ own, v ∉ e.pn := fun v hv q => by
  have := List.all_eq_true.mp h v hv
  rw [List.contains_iff_mem.mpr q] at this
  cases this
def restE : List Nat → Env → Env → Option Env
  | [], _, e1 => some e1
  | v :: vs, e0, e1 => if vs.contains v = true then none else if isClr e1 v = true then (match e0.sl[v]? with
    | some none => restE vs e0 e1
    | some (some (.fz d)) => restE vs e0 (e1.setS v (.fz d))
    | _ => none) else none
theorem Cf.rest {e0 : Env} : ∀ {own : List Nat} {σ : L2.St} {e1 e2 : Env} {as1 : List (Option AT)}, Cf K mg pv F H (L2.wipe σ own) e1 as1 us → (∀ (v : Nat) (d : D), v ∈ own → e0.sl[v]? = some (some (.fz d)) → ∃ u, σ[v]? = some (some u) ∧ Rep K mg F u d) → restE own e0 e1 = some e2 →
    ∃ as2, Cf K mg pv F H σ e2 as2 us
  | [], σ, e1, e2, as1, c, _, q => by
    have q' : some e1 = some e2 := q
    cases q'
    exact ⟨as1, c⟩
  | v :: vs, σ, e1, e2, as1, c, h, q => by
    unfold restE at q
    by_cases h1 : vs.contains v = true
    · rw [if_pos h1] at q; cases q
    rw [if_neg h1] at q
    have hv : v ∉ vs := fun z => h1 (List.contains_iff_mem.mpr z)
    by_cases h2 : isClr e1 v = true
    · rw [if_pos h2] at q
      have hc := isClr_ok h2
      have ha : as1[v]? = some none := by
        rw [c.r.sl, List.getElem?_map] at hc
        cases z : as1[v]? with
        | none => rw [z] at hc; cases hc
        | some o => cases o with
          | none => rfl
          | some u => rw [z] at hc; cases hc
      have weak : ∀ (j : Nat) (u : V), (L2.wipe σ (v :: vs))[j]? = some (some u) → (L2.wipe σ vs)[j]? = some (some u) := fun j u hj => by
        have hj' : ((L2.wipe σ vs).set v none)[j]? = some (some u) := hj
        by_cases z : j = v
        · subst z
          have hlt : j < ((L2.wipe σ vs).set j none).length := (List.getElem?_eq_some_iff.mp hj').1
          rw [List.getElem?_set_self (by simpa using hlt)] at hj'
          cases hj'
        · rwa [List.getElem?_set_ne (Ne.symm z)] at hj'
      have ln : (L2.wipe σ vs).length = as1.length := by
        have := c.r.len
        rw [show L2.wipe σ (v :: vs) = (L2.wipe σ vs).set v none from rfl, List.length_set] at this
        exact this
      have c1 : Cf K mg pv F H (L2.wipe σ vs) e1 as1 us := ⟨c.s, ⟨c.r.sl, ln, fun j u hj => weak j _ (c.r.at_ j u hj), fun p hp => ⟨(c.r.pin p hp).1, weak _ _ (c.r.pin p hp).2⟩⟩, c.g⟩
      cases z : e0.sl[v]? with
      | none => rw [z] at q; cases q
      | some o =>
        cases o with
        | none =>
          rw [z] at q
          exact Cf.rest c1 (fun u d hu => h u d (List.mem_cons_of_mem _ hu)) q
        | some s =>
          cases s with
          | fz d =>
            rw [z] at q
            obtain ⟨u, hu, ru⟩ := h v d List.mem_cons_self z
            have hlt : v < as1.length := (List.getElem?_eq_some_iff.mp ha).1
            have hsv : (L2.wipe σ vs)[v]? = some (some u) := by rw [wipe_out hv]; exact hu
            have c2 : Cf K mg pv F H (L2.wipe σ vs) (e1.setS v (.fz d)) (as1.set v (some (.fz u d))) us := by
              refine ⟨c1.s, ⟨?_, by rw [List.length_set]; exact ln, fun j w hj => ?_, c1.r.pin⟩, ?_⟩
              · show e1.sl.set v (some (.fz d)) = _
                rw [List.map_set, c1.r.sl]; rfl
              · by_cases zz : j = v
                · subst zz
                  rw [List.getElem?_set_self hlt] at hj
                  cases hj
                  exact hsv
                · rw [List.getElem?_set_ne (Ne.symm zz)] at hj
                  exact c1.r.at_ j w hj
              · exact (c1.g.fz ru).perm ((opts_put (.fz u d) ha).append_right us)
            exact Cf.rest c2 (fun u d hu => h u d (List.mem_cons_of_mem _ hu)) q
          | _ => rw [z] at q; cases q
    · rw [if_neg h2] at q; cases q
theorem Cf.relistH {p : Addr} {xs ys zs junk : List AT} (c : Cf K mg pv F H σ e as (.ol p xs :: us)) (pm : (xs ++ us).Perm (junk ++ (ys ++ zs))) : Cf K mg pv F (upd H p (.lst (vals ys))) σ e as (.ol p ys :: zs) := by
  have g : Good K mg F H (.ol p xs :: (opts as ++ us)) := c.g.perm (List.perm_middle (l₁ := opts as) (l₂ := us) (a := AT.ol p xs))
  have g2 : Good K mg F (upd H p (.lst (vals ys))) (.ol p ys :: (opts as ++ zs)) := g.relist (junk := junk) ((pswap _ _ _).trans ((pm.append_left _).trans ((pswap _ _ _).trans (List.Perm.append_left _ (pswap _ _ _)))))
  exact ⟨same_own c.s g.cell.2, c.r, g2.perm (List.perm_middle (l₁ := opts as) (l₂ := zs) (a := AT.ol p ys)).symm⟩
theorem atoms_snoc : ∀ {vs : List V} {ds : List D} {v : V} {d : D}, vs.length = ds.length → atoms (vs ++ [v]) (ds ++ [d]) = atoms vs ds ++ [.fz v d]
  | [], [], _, _, _ => rfl
  | v :: vs, d :: ds, _, _, h => by
    show AT.fz v d :: atoms (vs ++ _) (ds ++ _) = AT.fz v d :: (atoms vs ds ++ _)
    rw [atoms_snoc (by simpa using h)]
  | [], _ :: _, _, _, h => by cases h
  | _ :: _, [], _, _, h => by cases h
def loopC (own : List Nat) (g : Tg) (tt : M Bool) (te : M RV) : List D → List D → M (List D)
  | [], acc => fun e => .ok acc e
  | d :: ds, acc => fun e => match g d e with
    | none => .st
    | some e1 => (match tt e1 with
      | .ok true e2 => (match te e2 with
        | .ok r e3 => (match frzR r e3 with
          | some (y, e4) => if (decide (acc.length < sizeLine) && noPn own e4) = true then loopC own g tt te ds (acc ++ [y]) (wipeE own e4) else .st
          | none => .st)
        | _ => .st)
      | .ok false e2 => if noPn own e2 = true then loopC own g tt te ds acc (wipeE own e2) else .st
      | _ => .st)
def dComp (own : List Nat) (it : M (List D)) (g : Tg) (tt : M Bool) (te : M RV) : M RV := it.bind fun ds e0 => if noPn own e0 = true then (match loopC own g tt te ds [] (wipeE own e0) with
  | .ok acc e1 => (match restE own e0 e1 with
    | some e2 => .ok (.own (.ol (acc.map .fz))) e2
    | none => .st)
  | _ => .st) else .st
theorem WI.bindE {f : List D → M RV} {m : M (List D)} {Q : VK} (h : WE K mg pv F held σ Q E ((m e).bind f)) {P : It → Hp → Prop}
    (k : ∀ ds e' J F' H' as', Same F F' → Cf K mg pv F' H' σ e' as' held → ItOk K mg F' J ds → WE K mg pv F held σ Q E (f ds e') → P J H') : WI K mg pv F held σ P E (m e) := by
  cases q : m e with
  | st => rw [q] at h; exact h.elim
  | ok r e' => rw [q] at h; exact fun J F' H' as' s c it => k r e' J F' H' as' s c it h
  | ex x e' => rw [q] at h; exact h
def dYes : M Bool := fun e => .ok true e
theorem st_yes : ST K mg E tYes dYes := fun pv F H σ e as held Q c w => w F H as (Same.refl _) c
theorem se_comp {L own : List Nat} {wi : TI} {tg : TG} {tt : TT} {te : TE} {mi : M (List D)} {g : Tg} {mt : M Bool} {me : M RV} (hi : SI K mg E wi mi) (hg : SG K mg L tg g) (hL : ∀ i ∈ L, i ∈ own) (ht : ST K mg E0 tt mt) (he : SE K mg E0 te me) :
    SE K mg E (tLc wi tg tt te own) (dComp own mi g mt me) := by
  intro pv F H σ e as held Q c w
  refine hi pv F H σ e as held _ c (WI.bindE w fun ds e1 J F1 H1 as1 s1 c1 it w1 => ?_)
  intro D hD
  by_cases hp : noPn own e1 = true
  · rw [if_pos hp] at w1
    cases q : loopC own g mt me ds [] (wipeE own e1) with
    | st => rw [q] at w1; exact w1.elim
    | ex _ _ => rw [q] at w1; exact w1.elim
    | ok accF eF =>
      rw [q] at w1
      cases q2 : restE own e1 eF with
      | none => simp only [q2] at w1; exact w1.elim
      | some e2 =>
        simp only [q2] at w1
        have c0 : Cf K mg pv F1 (upd H1 D (.lst [])) σ e1 as1 (.ol D (atoms [] []) :: held) := by
          refine ⟨same_own c1.s (c1.s.free hD), c1.r, ?_⟩
          exact (Good.new (xs := []) c1.g c1.s hD).perm (List.perm_middle (l₁ := opts as1) (l₂ := held)).symm
        have cw := c0.wipe (vs := own) (noPn_ok hp)
        refine ⟨fun i m H => m = ds.length - i ∧ ∃ F e as va acc, Same F1 F ∧ Cf K mg pv F H (wipe σ own) e as (.ol D (atoms va acc) :: held) ∧ Reps K mg F va acc ∧ loopC own g mt me (ds.drop i) acc e = .ok accF eF,
          ⟨_, rfl, F1, _, _, [], [], Same.refl _, cw, trivial, q⟩, ?_⟩
        rintro i m H2 ⟨rfl, F2, e3, as3, va, acc, s2, c2, ra, q3⟩
        by_cases hlt : i < ds.length
        · refine .inr ⟨it.go i F2 H2 s2 c2.s hlt, fun H' => ∃ F e as va acc, Same F1 F ∧ Cf K mg pv F H' (wipe σ own) e as (.ol D (atoms va acc) :: held) ∧ Reps K mg F va acc ∧ loopC own g mt me (ds.drop (i + 1)) acc e = .ok accF eF,
            fun H' ⟨F, e, as, va, acc, z1, z2, z3, z4⟩ => ⟨ds.length - (i + 1), by omega, rfl, F, e, as, va, acc, z1, z2, z3, z4⟩, fun x H' y => ?_⟩
          obtain ⟨F3, d, s3, s3', gg, hd, rd⟩ := it.yld i F2 H2 x H' s2 c2.s hlt y
          have c3 : Cf K mg pv F3 H' (wipe σ own) e3 as3 (.ol D (atoms va acc) :: held) := ⟨s3', c2.r, gg _ c2.g⟩
          have e4 : ds.drop i = d :: ds.drop (i + 1) := by
            have hdd : ds[i] = d := by rw [List.getElem?_eq_getElem hlt] at hd; exact Option.some.inj hd
            rw [List.drop_eq_getElem_cons hlt, hdd]
          rw [e4] at q3
          unfold loopC at q3
          cases q4 : g d e3 with
          | none => simp only [q4] at q3; cases q3
          | some e5 =>
            simp only [q4] at q3
            refine hg pv F3 H' _ e3 as3 _ x d e5 _ c3 rd q4 fun σ4 as4 hw c4 => ?_
            refine ⟨(hw own hL).trans (wipe_wipe own σ), ?_⟩
            refine ht pv F3 H' σ4 e5 as4 _ _ c4 ?_
            cases q5 : mt e5 with
            | st => simp only [q5] at q3; cases q3
            | ex _ _ => simp only [q5] at q3; cases q3
            | ok b e6 =>
              simp only [q5] at q3
              intro F5 H5 as5 s5 c5
              have hwσ : wipe σ4 own = wipe σ own := (hw own hL).trans (wipe_wipe own σ)
              cases b with
              | false =>
                simp only at q3
                rw [if_neg (by decide)]
                by_cases hp2 : noPn own e6 = true
                · rw [if_pos hp2] at q3
                  have c6 := c5.wipe (vs := own) (noPn_ok hp2)
                  rw [hwσ] at c6
                  exact ⟨F5, _, _, va, acc, (s2.trans s3).trans s5, c6, Reps.same (s3.trans s5) ra, q3⟩
                · rw [if_neg hp2] at q3; cases q3
              | true =>
                simp only at q3
                rw [if_pos rfl]
                refine he pv F5 H5 σ4 e6 as5 _ _ c5 ?_
                cases q6 : me e6 with
                | st => simp only [q6] at q3; cases q3
                | ex _ _ => simp only [q6] at q3; cases q3
                | ok r e7 =>
                  simp only [q6] at q3
                  intro y6 F6 H6 as6 tr6 s6 c6 rr6
                  cases q7 : frzR r e7 with
                  | none => simp only [q7] at q3; cases q3
                  | some pr =>
                    obtain ⟨dy, e8⟩ := pr
                    simp only [q7] at q3
                    obtain ⟨F7, as7, s7, c7, ry⟩ := c6.frzR rr6 q7
                    have rva : Reps K mg F7 va acc := Reps.same (((s3.trans s5).trans s6).trans s7) ra
                    by_cases hp2 : (decide (acc.length < sizeLine) && noPn own e8) = true
                    · rw [if_pos hp2] at q3
                      obtain ⟨hp3, hp4⟩ := Bool.and_eq_true_iff.mp hp2
                      have hcell : H6 D = some (.lst va) := by
                        have gg : Good K mg F7 H6 (.ol D (atoms va acc) :: (opts as7 ++ held)) := c7.g.perm (List.perm_middle (l₁ := opts as7) (l₂ := held) (a := AT.ol D (atoms va acc)))
                        have := gg.cell.1
                        rwa [vals_atoms rva] at this
                      refine ⟨va, hcell, by rw [rva.length]; exact of_decide_eq_true hp3, ?_⟩
                      have rsn : Reps K mg F7 (va ++ [y6]) (acc ++ [dy]) := rva.append ⟨ry, trivial⟩
                      have c8 : Cf K mg pv F7 (upd H6 D (.lst (va ++ [y6]))) σ4 e8 as7 (.ol D (atoms (va ++ [y6]) (acc ++ [dy])) :: held) := by
                        have c8 := (c7.fzs ry).perm (List.Perm.swap (AT.ol D (atoms va acc)) (AT.fz y6 dy) held)
                        have c9 := c8.relistH (ys := atoms va acc ++ [.fz y6 dy]) (zs := held) (junk := []) (by simp)
                        rw [← atoms_snoc rva.length, vals_atoms rsn] at c9
                        exact c9
                      have c10 := c8.wipe (vs := own) (noPn_ok hp4)
                      rw [hwσ] at c10
                      exact ⟨F7, _, _, va ++ [y6], acc ++ [dy], ((((s2.trans s3).trans s5).trans s6).trans s7), c10, rsn, q3⟩
                    · rw [if_neg hp2] at q3; cases q3
        · refine .inl ⟨it.stop i F2 H2 s2 c2.s (by omega), ?_⟩
          rw [List.drop_eq_nil_of_le (by omega)] at q3
          unfold loopC at q3
          have q3' : R.ok acc e3 = R.ok accF eF := q3
          cases q3'
          obtain ⟨as4, c4⟩ := c2.rest (e0 := e1) (fun v d hv hz => by
            obtain ⟨t, ht, et⟩ := c1.r.slotOf hz
            have hσ := c1.r.at_ v t ht
            cases t with
            | fz u d' =>
              have ed : d' = d := by simpa [er] using et
              subst ed
              have ok : Rep K mg F1 u d' := Oks.mem.mp c1.g.ok _ (List.mem_append_left _ (mem_opts ht))
              exact ⟨u, hσ, Rep.same s2 ok⟩
            | ol _ _ => simp [er] at et
            | oo _ _ _ _ _ _ => simp [er] at et
            | od _ _ _ => simp [er] at et) q2
          refine w1 (.ref D) F2 H2 as4 [.ol D (atoms va accF)] (s1.trans s2) c4 ⟨_, rfl, rfl, ?_⟩
          show SV.ol (ers (atoms va accF)) = _
          rw [ers_atoms ra]
  · rw [if_neg hp] at w1; exact w1.elim
end
end VF
set_option maxRecDepth 100000
set_option maxHeartbeats 4000000
namespace VF
set_option autoImplicit false
open PySem PySem.Spec PyProof.Rows L2
open AT (cells cellsL er ers)
def fI (g : Int → Int → Int) : D → D → Option D := fun a b => match a, b with
  | .int i, .int j => some (.int (g i j))
  | _, _ => none
def fB (g : Int → Int → Bool) : D → D → Option D := fun a b => match a, b with
  | .int i, .int j => some (.bl (g i j))
  | _, _ => none
def inB (i : Int) (k : Nat) : Bool := decide (-(2 ^ k) < i ∧ i < 2 ^ k)
def fMul : D → D → Option D := fun a b => match a, b with
  | .int i, .int j => if (inB i 64 || inB j 64) = true then some (.int (i * j)) else none
  | _, _ => none
def fMod : D → D → Option D := fun a b => match a, b with
  | .int i, .int j => if 0 < j then some (.int (i % j)) else none
  | _, _ => none
def fDiv : D → D → Option D := fun a b => match a, b with
  | .int i, .int j => if 0 < j ∧ j < 1073741824 then some (.int (i / j)) else none
  | _, _ => none
def fPow : D → D → Option D := fun a b => match a, b with
  | .int i, .int j => if 0 ≤ j ∧ j ≤ 1000000 ∧ i.natAbs < 2 ^ 64 then some (.int (i ^ j.toNat)) else none
  | _, _ => none
section
variable {K : PySem.W.Frag} {mg : Str → Option Value}
theorem opd_I {g : Int → Int → Int} : OpD (rI0 fun i j => .int (g i j)) K mg (fI g) := by
  intro H x y a b d ra rb q
  cases a <;> first | (cases q; done) | (cases b <;> first | (cases q; done) | skip)
  rename_i i j
  cases q
  have e1 : x = .int i := ra
  have e2 : y = .int j := rb
  exact ⟨_, rfl, fun Q k => ⟨i, j, e1, e2, k⟩⟩
theorem opd_B {g : Int → Int → Bool} : OpD (rI0 fun i j => .bl (g i j)) K mg (fB g) := by
  intro H x y a b d ra rb q
  cases a <;> first | (cases q; done) | (cases b <;> first | (cases q; done) | skip)
  rename_i i j
  cases q
  have e1 : x = .int i := ra
  have e2 : y = .int j := rb
  exact ⟨_, rfl, fun Q k => ⟨i, j, e1, e2, k⟩⟩
theorem opd_C {C : Int → Int → Prop} {g : Int → Int → Int} {f : D → D → Option D} (h : ∀ a b d, f a b = some d → ∃ i j, a = .int i ∧ b = .int j ∧ C i j ∧ d = .int (g i j)) : OpD (rI C fun i j => .int (g i j)) K mg f := by
  intro H x y a b d ra rb q
  obtain ⟨i, j, rfl, rfl, c, rfl⟩ := h a b d q
  have e1 : x = .int i := ra
  have e2 : y = .int j := rb
  exact ⟨_, rfl, fun Q k => ⟨i, j, e1, e2, c, k⟩⟩
theorem opd_mul : OpD (rI CMul fun i j => .int (i * j)) K mg fMul := opd_C fun a b d q => by
  unfold fMul at q
  split at q
  · rename_i i j
    split at q
    · rename_i h
      cases q
      refine ⟨i, j, rfl, rfl, ?_, rfl⟩
      rcases Bool.or_eq_true_iff.mp h with h | h
      · exact .inl (of_decide_eq_true h)
      · exact .inr (of_decide_eq_true h)
    · cases q
  · cases q
theorem opd_mod : OpD (rI (fun _ j => 0 < j) fun i j => .int (i % j)) K mg fMod := opd_C fun a b d q => by
  unfold fMod at q
  split at q
  · rename_i i j
    split at q
    · rename_i h
      cases q
      exact ⟨i, j, rfl, rfl, h, rfl⟩
    · cases q
  · cases q
theorem opd_div : OpD (rI CDiv fun i j => .int (i / j)) K mg fDiv := opd_C fun a b d q => by
  unfold fDiv at q
  split at q
  · rename_i i j
    split at q
    · rename_i h
      cases q
      exact ⟨i, j, rfl, rfl, h, rfl⟩
    · cases q
  · cases q
theorem opd_pow : OpD (rI CPow fun i j => .int (i ^ j.toNat)) K mg fPow := opd_C fun a b d q => by
  unfold fPow at q
  split at q
  · rename_i i j
    split at q
    · rename_i h
      cases q
      exact ⟨i, j, rfl, rfl, h, rfl⟩
    · cases q
  · cases q
mutual
def toP : D → Option PyData
  | .non => some .none
  | .bl b => some (.bool b)
  | .int i => some (.int i)
  | .str s => some (.str s)
  | .lst ds => (toPs ds).map .list
  | .tup ds => (toPs ds).map .tuple
  | _ => none
def toPs : List D → Option (List PyData)
  | [] => some []
  | d :: ds => match toP d, toPs ds with
    | some p, some ps => some (p :: ps)
    | _, _ => none
end
mutual
theorem dp_of {H : Hp} : ∀ (d : D) {v : V} {p : PyData}, Rep K mg H v d → toP d = some p → Dp K H v p
  | .non, v, p, r, q => by
    have e : v = .non := r
    cases (show some PyData.none = some p from q); subst e; exact .non
  | .bl b, v, p, r, q => by
    have e : v = .bl b := r
    cases (show some (PyData.bool b) = some p from q); subst e; exact .bl b
  | .int i, v, p, r, q => by
    have e : v = .int i := r
    cases (show some (PyData.int i) = some p from q); subst e; exact .int i
  | .str s, v, p, r, q => by
    have e : v = .str s := r
    cases (show some (PyData.str s) = some p from q); subst e; exact .str s
  | .lst ds, v, p, ⟨a, vs, e, h1, h2⟩, q => by
    have q' : (toPs ds).map PyData.list = some p := q
    cases z : toPs ds with
    | none => rw [z] at q'; cases q'
    | some ps => rw [z] at q'; cases q'; subst e; exact .lst (SqL.of h1) (dps_of ds h2 z)
  | .tup ds, v, p, ⟨a, vs, e, h1, h2⟩, q => by
    have q' : (toPs ds).map PyData.tuple = some p := q
    cases z : toPs ds with
    | none => rw [z] at q'; cases q'
    | some ps => rw [z] at q'; cases q'; subst e; exact .tup h1 (dps_of ds h2 z)
  | .ty _, _, _, _, q => nomatch (show (none : Option PyData) = some _ from q)
  | .dct _ _, _, _, _, q => nomatch (show (none : Option PyData) = some _ from q)
  | .obj _ _ _, _, _, _, q => nomatch (show (none : Option PyData) = some _ from q)
  | .scr _, _, _, _, q => nomatch (show (none : Option PyData) = some _ from q)
theorem dps_of {H : Hp} : ∀ (ds : List D) {vs : List V} {ps : List PyData}, Reps K mg H vs ds → toPs ds = some ps → DpAll K H vs ps
  | [], [], ps, _, q => by cases (show some ([] : List PyData) = some ps from q); exact .nil
  | d :: ds, v :: vs, ps, ⟨h1, h2⟩, q => by
    have q' : (match toP d, toPs ds with | some p, some ps => some (p :: ps) | _, _ => none) = some ps := q
    cases z1 : toP d with
    | none => rw [z1] at q'; cases q'
    | some p => cases z2 : toPs ds with
      | none => rw [z1, z2] at q'; cases q'
      | some ps2 => rw [z1, z2] at q'; cases q'; exact .cons (dp_of d h1 z1) (dps_of ds h2 z2)
  | [], _ :: _, _, h, _ => h.elim
  | _ :: _, [], _, h, _ => h.elim
end
def shp (p : PyData) : Bool := p.plain && decide (p.depth ≤ 64)
theorem shp_ok {p : PyData} (h : shp p = true) : p.plain = true ∧ p.depth ≤ 64 := by
  obtain ⟨a, b⟩ := Bool.and_eq_true_iff.mp h
  exact ⟨a, of_decide_eq_true b⟩
def rEqP (K : PySem.W.Frag) : R2 := fun x y H Q => ∃ d e, Dp K H x d ∧ Dp K H y e ∧ shp d = true ∧ shp e = true ∧ Q (.bl (PyData.eqv d e)) H
def rNeP (K : PySem.W.Frag) : R2 := fun x y H Q => ∃ d e, Dp K H x d ∧ Dp K H y e ∧ shp d = true ∧ shp e = true ∧ Q (.bl (!PyData.eqv d e)) H
def rInP (K : PySem.W.Frag) : R2 := fun x y H Q => ∃ d ds, Dp K H x d ∧ Dp K H y (.list ds) ∧ shp d = true ∧ shp (.list ds) = true ∧ Q (.bl (ds.any fun z => PyData.eqv z d)) H
def rNotInP (K : PySem.W.Frag) : R2 := fun x y H Q => ∃ d ds, Dp K H x d ∧ Dp K H y (.list ds) ∧ shp d = true ∧ shp (.list ds) = true ∧ Q (.bl (!ds.any fun z => PyData.eqv z d)) H
section
variable {X : Cx}
theorem op_eqP (hu : X.A.units + 64 < cLine) : OpR X (compareOp .Eq) (rEqP X.K) := by
  intro pins s σ H x y v u Q I rx ry h
  obtain ⟨d, e, hd, he, sd, se, q⟩ := h
  obtain ⟨as, r1⟩ := Dp.reads I d x v hd rx
  obtain ⟨bs, r2⟩ := Dp.reads I e y u he ry
  have s1 := shp_ok sd
  have s2 := shp_ok se
  exact SeqAt.eq_plain r1 r2 s1.1 s2.1 (by omega) ⟨.bl _, H, I, rfl, q⟩
theorem op_neP (hu : X.A.units + 64 < cLine) : OpR X (compareOp .NotEq) (rNeP X.K) := by
  intro pins s σ H x y v u Q I rx ry h
  obtain ⟨d, e, hd, he, sd, se, q⟩ := h
  obtain ⟨as, r1⟩ := Dp.reads I d x v hd rx
  obtain ⟨bs, r2⟩ := Dp.reads I e y u he ry
  have s1 := shp_ok sd
  have s2 := shp_ok se
  exact SeqAt.ne_plain r1 r2 s1.1 s2.1 (by omega) ⟨.bl _, H, I, rfl, q⟩
theorem op_inP (hu : X.A.units + 65 < cLine) : OpR X (compareOp .In) (rInP X.K) := by
  intro pins s σ H x y v u Q I rx ry h
  obtain ⟨d, ds, hd, he, sd, se, q⟩ := h
  obtain ⟨as, r1⟩ := Dp.reads I d x v hd rx
  obtain ⟨bs, r2⟩ := Dp.reads I (.list ds) y u he ry
  have s1 := shp_ok sd
  have s2 := shp_ok se
  exact SeqAt.in_list_data r2 r1 (by simpa only [PyData.plain] using s2.1) s1.1 (by omega) ⟨.bl _, H, I, rfl, q⟩
theorem op_notInP (hu : X.A.units + 65 < cLine) : OpR X (compareOp .NotIn) (rNotInP X.K) := by
  intro pins s σ H x y v u Q I rx ry h
  obtain ⟨d, ds, hd, he, sd, se, q⟩ := h
  obtain ⟨as, r1⟩ := Dp.reads I d x v hd rx
  obtain ⟨bs, r2⟩ := Dp.reads I (.list ds) y u he ry
  have s1 := shp_ok sd
  have s2 := shp_ok se
  exact SeqAt.notIn_list_data r2 r1 (by simpa only [PyData.plain] using s2.1) s1.1 (by omega) ⟨.bl _, H, I, rfl, q⟩
end
def eqD (a b : D) : Option Bool := match toP a, toP b with
  | some p, some q => if (shp p && shp q) = true then some (PyData.eqv p q) else none
  | _, _ => none
def fEq : D → D → Option D := fun a b => (eqD a b).map .bl
def fNe : D → D → Option D := fun a b => (eqD a b).map fun k => .bl (!k)
theorem eqD_some {a b : D} {k : Bool} (h : eqD a b = some k) : ∃ p q, toP a = some p ∧ toP b = some q ∧ shp p = true ∧ shp q = true ∧ PyData.eqv p q = k := by
  unfold eqD at h
  cases z1 : toP a with
  | none => rw [z1] at h; cases h
  | some p => cases z2 : toP b with
    | none => rw [z1, z2] at h; cases h
    | some q =>
      rw [z1, z2] at h
      simp only at h
      split at h
      · rename_i hh
        obtain ⟨h1, h2⟩ := Bool.and_eq_true_iff.mp hh
        exact ⟨p, q, rfl, rfl, h1, h2, Option.some.inj h⟩
      · cases h
theorem opd_eq : OpD (rEqP K) K mg fEq := by
  intro H x y a b d ra rb q
  unfold fEq at q
  cases z : eqD a b with
  | none => rw [z] at q; cases q
  | some k =>
    rw [z] at q; cases q
    obtain ⟨p, q, h1, h2, h3, h4, h5⟩ := eqD_some z
    exact ⟨.bl k, rfl, fun Q hk => ⟨p, q, dp_of a ra h1, dp_of b rb h2, h3, h4, by rw [h5]; exact hk⟩⟩
theorem opd_ne : OpD (rNeP K) K mg fNe := by
  intro H x y a b d ra rb q
  unfold fNe at q
  cases z : eqD a b with
  | none => rw [z] at q; cases q
  | some k =>
    rw [z] at q; cases q
    obtain ⟨p, q, h1, h2, h3, h4, h5⟩ := eqD_some z
    exact ⟨.bl (!k), rfl, fun Q hk => ⟨p, q, dp_of a ra h1, dp_of b rb h2, h3, h4, by rw [h5]; exact hk⟩⟩
def fIsN : D → D → Option D := fun a b => match b with
  | .non => (match a with
    | .non => some (.bl true)
    | _ => some (.bl false))
  | _ => none
def fNotN : D → D → Option D := fun a b => match b with
  | .non => (match a with
    | .non => some (.bl false)
    | _ => some (.bl true))
  | _ => none
theorem rep_ne_non {H : Hp} {v : V} {a : D} (h : Rep K mg H v a) (n : a ≠ .non) : v ≠ .non := by
  intro e
  subst e
  cases a with
  | non => exact n rfl
  | bl b => cases (show V.non = .bl b from h)
  | int b => cases (show V.non = .int b from h)
  | str b => cases (show V.non = .str b from h)
  | ty b => cases (show V.non = .ty b from h)
  | lst ds => obtain ⟨_, _, e, _⟩ := h; cases e
  | tup ds => obtain ⟨_, _, e, _⟩ := h; cases e
  | dct ks ds => obtain ⟨_, _, e, _⟩ := h; cases e
  | obj c ns ds => obtain ⟨_, _, _, _, e, _⟩ := h; cases e
  | scr ns => obtain ⟨_, e, _⟩ := h; cases e
  | hl => obtain ⟨_, e⟩ := h; cases e
theorem opd_isN : OpD (fun x y H Q => y = .non ∧ Q (.bl (decide (x = .non))) H) K mg fIsN := by
  intro H x y a b d ra rb q
  cases b <;> first | (cases q; done) | skip
  have e2 : y = .non := rb
  by_cases n : a = .non
  · subst n
    have e1 : x = .non := ra
    cases q
    exact ⟨.bl true, rfl, fun Q k => ⟨e2, by rw [e1]; exact k⟩⟩
  · have hx := rep_ne_non ra n
    have q' : d = .bl false := by
      cases a <;> first | exact absurd rfl n | (cases q; rfl)
    subst q'
    exact ⟨.bl false, rfl, fun Q k => ⟨e2, by rw [decide_eq_false hx]; exact k⟩⟩
theorem opd_notN : OpD (fun x y H Q => y = .non ∧ Q (.bl (!decide (x = .non))) H) K mg fNotN := by
  intro H x y a b d ra rb q
  cases b <;> first | (cases q; done) | skip
  have e2 : y = .non := rb
  by_cases n : a = .non
  · subst n
    have e1 : x = .non := ra
    cases q
    exact ⟨.bl false, rfl, fun Q k => ⟨e2, by rw [e1]; exact k⟩⟩
  · have hx := rep_ne_non ra n
    have q' : d = .bl true := by
      cases a <;> first | exact absurd rfl n | (cases q; rfl)
    subst q'
    exact ⟨.bl true, rfl, fun Q k => ⟨e2, by rw [decide_eq_false hx]; exact k⟩⟩
def flatD : D → Bool
  | .non => true
  | .bl _ => true
  | .int _ => true
  | .str _ => true
  | _ => false
def eqF : D → D → Bool
  | .non, .non => true
  | .bl a, .bl b => a == b
  | .bl a, .int b => (if a then 1 else 0) == b
  | .int a, .bl b => a == (if b then 1 else 0)
  | .int a, .int b => a == b
  | .str a, .str b => a == b
  | _, _ => false
def inD (a b : D) : Option Bool := match b with
  | .lst ds => if (flatD a && ds.all flatD) = true then some (ds.any fun y => eqF y a) else (match toP a, toPs ds with
    | some p, some ps => if (shp p && shp (.list ps)) = true then some (ps.any fun z => PyData.eqv z p) else none
    | _, _ => none)
  | .tup ds => if (flatD a && ds.all flatD) = true then some (ds.any fun y => eqF y a) else none
  | .str z => (match a with
    | .str y => some (!(Builtin.Str.occurrences z y 0 z.length 1).isEmpty)
    | _ => none)
  | _ => none
def fIn : D → D → Option D := fun a b => (inD a b).map .bl
def fNotIn : D → D → Option D := fun a b => (inD a b).map fun k => .bl (!k)
theorem flat_rep {H : Hp} {v : V} {a : D} (h : Rep K mg H v a) (f : flatD a = true) : flatV v = true := by
  cases a <;> first | (cases f; done) | (cases (show v = _ from h); rfl)
theorem eqF_rep {H : Hp} {v w : V} {a b : D} (h : Rep K mg H v a) (h' : Rep K mg H w b) (f : flatD a = true) (f' : flatD b = true) : eqV v w = eqF a b := by
  cases a <;> first | (cases f; done) | skip
  all_goals (cases b <;> first | (cases f'; done) | skip)
  all_goals (cases (show v = _ from h); cases (show w = _ from h'); rfl)
theorem flats_rep {H : Hp} : ∀ {vs : List V} {ds : List D}, Reps K mg H vs ds → ds.all flatD = true → vs.all flatV = true
  | [], [], _, _ => rfl
  | v :: vs, d :: ds, ⟨h1, h2⟩, f => by
    obtain ⟨f1, f2⟩ := Bool.and_eq_true_iff.mp (show (flatD d && ds.all flatD) = true from f)
    show (flatV v && vs.all flatV) = true
    rw [flat_rep h1 f1, flats_rep h2 f2]; rfl
  | [], _ :: _, h, _ => h.elim
  | _ :: _, [], h, _ => h.elim
theorem inV_rep {H : Hp} {x : V} {a : D} (hx : Rep K mg H x a) (fx : flatD a = true) : ∀ {vs : List V} {ds : List D}, Reps K mg H vs ds → ds.all flatD = true → inV x vs = ds.any fun y => eqF y a
  | [], [], _, _ => rfl
  | v :: vs, d :: ds, ⟨h1, h2⟩, f => by
    obtain ⟨f1, f2⟩ := Bool.and_eq_true_iff.mp (show (flatD d && ds.all flatD) = true from f)
    show (eqV v x || inV x vs) = (eqF d a || _)
    rw [eqF_rep h1 hx f1 fx, inV_rep hx fx h2 f2]
  | [], _ :: _, h, _ => h.elim
  | _ :: _, [], h, _ => h.elim
def rInA (K : PySem.W.Frag) : R2 := fun x y H Q => rIn K false x y H Q ∨ rInP K x y H Q ∨ (∃ i j, x = .str i ∧ y = .str j ∧ Q (.bl (!(Builtin.Str.occurrences j i 0 j.length 1).isEmpty)) H)
def rNotInA (K : PySem.W.Frag) : R2 := fun x y H Q => rIn K true x y H Q ∨ rNotInP K x y H Q ∨ (∃ i j, x = .str i ∧ y = .str j ∧ Q (.bl (!(!(Builtin.Str.occurrences j i 0 j.length 1).isEmpty))) H)
theorem op_inA {X : Cx} (hu : X.A.units + 65 < cLine) : OpR X (compareOp .In) (rInA X.K) := op_in_seq.or ((op_inP hu).or op_in_str)
theorem op_notInA {X : Cx} (hu : X.A.units + 65 < cLine) : OpR X (compareOp .NotIn) (rNotInA X.K) := op_notIn_seq.or ((op_notInP hu).or op_notin_str)
theorem inD_ok {H : Hp} {x y : V} {a b : D} {k : Bool} (ra : Rep K mg H x a) (rb : Rep K mg H y b) (q : inD a b = some k) : ∀ Q : VK, (Q (.bl k) H → rInA K x y H Q) ∧ (Q (.bl (!k)) H → rNotInA K x y H Q) := by
  intro Q
  cases b with
  | lst ds =>
    obtain ⟨p, vs, e, h1, h2⟩ := rb
    unfold inD at q
    simp only at q
    split at q
    · rename_i h
      obtain ⟨f1, f2⟩ := Bool.and_eq_true_iff.mp h
      have ek : (ds.any fun y => eqF y a) = k := Option.some.inj q
      have ei := inV_rep ra f1 h2 f2
      rw [ek] at ei
      exact ⟨fun hk => .inl ⟨p, vs, e, .inl (SqL.of h1), flat_rep ra f1, flats_rep h2 f2, by rw [ei]; exact hk⟩, fun hk => .inl ⟨p, vs, e, .inl (SqL.of h1), flat_rep ra f1, flats_rep h2 f2, by rw [ei]; exact hk⟩⟩
    · cases z1 : toP a with
      | none => rw [z1] at q; cases q
      | some pa =>
        cases z2 : toPs ds with
        | none => rw [z1, z2] at q; cases q
        | some ps =>
          rw [z1, z2] at q
          simp only at q
          split at q
          · rename_i h
            obtain ⟨f1, f2⟩ := Bool.and_eq_true_iff.mp h
            have ek : (ps.any fun z => PyData.eqv z pa) = k := Option.some.inj q
            subst e
            have d1 := dp_of a ra z1
            have d2 : Dp K H (.ref p) (.list ps) := .lst (SqL.of h1) (dps_of ds h2 z2)
            exact ⟨fun hk => .inr (.inl ⟨pa, ps, d1, d2, f1, f2, by rw [ek]; exact hk⟩), fun hk => .inr (.inl ⟨pa, ps, d1, d2, f1, f2, by rw [ek]; exact hk⟩)⟩
          · cases q
  | tup ds =>
    obtain ⟨p, vs, e, h1, h2⟩ := rb
    unfold inD at q
    simp only at q
    split at q
    · rename_i h
      obtain ⟨f1, f2⟩ := Bool.and_eq_true_iff.mp h
      have ek : (ds.any fun y => eqF y a) = k := Option.some.inj q
      have ei := inV_rep ra f1 h2 f2
      rw [ek] at ei
      exact ⟨fun hk => .inl ⟨p, vs, e, .inr h1, flat_rep ra f1, flats_rep h2 f2, by rw [ei]; exact hk⟩, fun hk => .inl ⟨p, vs, e, .inr h1, flat_rep ra f1, flats_rep h2 f2, by rw [ei]; exact hk⟩⟩
    · cases q
  | str z =>
    cases a with
    | str w =>
      have e1 : x = .str w := ra
      have e2 : y = .str z := rb
      have ek : (!(Builtin.Str.occurrences z w 0 z.length 1).isEmpty) = k := Option.some.inj q
      exact ⟨fun hk => .inr (.inr ⟨w, z, e1, e2, by rw [ek]; exact hk⟩), fun hk => .inr (.inr ⟨w, z, e1, e2, by rw [ek]; exact hk⟩)⟩
    | _ => cases q
  | _ => cases q
theorem opd_in : OpD (rInA K) K mg fIn := by
  intro H x y a b d ra rb q
  unfold fIn at q
  cases z : inD a b with
  | none => rw [z] at q; cases q
  | some k => rw [z] at q; cases q; exact ⟨.bl k, rfl, fun Q hk => (inD_ok ra rb z Q).1 hk⟩
theorem opd_notIn : OpD (rNotInA K) K mg fNotIn := by
  intro H x y a b d ra rb q
  unfold fNotIn at q
  cases z : inD a b with
  | none => rw [z] at q; cases q
  | some k => rw [z] at q; cases q; exact ⟨.bl (!k), rfl, fun Q hk => (inD_ok ra rb z Q).2 hk⟩
def lenD : List D → Option D
  | [.lst ds] => some (.int (ds.length : Nat))
  | [.tup ds] => some (.int (ds.length : Nat))
  | [.scr ns] => some (.int (ns.length : Nat))
  | [.str z] => if z.length ≤ sizeLine then some (.int (z.length : Nat)) else none
  | _ => none
theorem cbd_len : CbD (fun xs H Q => ∃ x n, xs = [x] ∧ LenV K x H n ∧ Q (.int n) H) K mg lenD := by
  intro H xs as d r q
  match as, r with
  | [a], r =>
    obtain ⟨v, e, rv⟩ := reps1 r
    subst e
    cases a with
    | lst ds =>
      obtain ⟨p, vs, e, h1, h2⟩ := rv
      subst e
      cases q
      exact ⟨_, rfl, fun Q k => ⟨_, ds.length, rfl, .inl ⟨vs, SqL.of h1, h2.length.symm⟩, k⟩⟩
    | tup ds =>
      obtain ⟨p, vs, e, h1, h2⟩ := rv
      subst e
      cases q
      exact ⟨_, rfl, fun Q k => ⟨_, ds.length, rfl, .inr ⟨vs, h1, h2.length.symm⟩, k⟩⟩
    | scr ns =>
      obtain ⟨p, e, h1⟩ := rv
      subst e
      cases q
      exact ⟨_, rfl, fun Q k => ⟨_, ns.length, rfl, .inl ⟨_, h1, (List.length_map _).symm⟩, k⟩⟩
    | str z =>
      have e : v = .str z := rv
      subst e
      have q' : (if z.length ≤ sizeLine then some (D.int (z.length : Nat)) else none) = some d := q
      split at q'
      · rename_i h
        cases q'
        exact ⟨_, rfl, fun Q k => ⟨_, z.length, rfl, ⟨h, rfl⟩, k⟩⟩
      · cases q'
    | _ => cases q
  | [], _ => simp [lenD] at q
  | _ :: _ :: _, _ => simp [lenD] at q
def intD : List D → Option D
  | [.int i] => some (.int i)
  | [.bl b] => some (.int (if b then 1 else 0))
  | _ => none
theorem cbd_int : CbD (fun xs H Q => (∃ i, xs = [.int i] ∧ Q (.int i) H) ∨ ∃ k, xs = [.bl k] ∧ Q (.int (if k then 1 else 0)) H) K mg intD := by
  intro H xs as d r q
  match as, r with
  | [a], r =>
    obtain ⟨v, e, rv⟩ := reps1 r
    subst e
    cases a with
    | int i => cases q; exact ⟨_, rfl, fun Q k => .inl ⟨i, by rw [show v = .int i from rv], k⟩⟩
    | bl b => cases q; exact ⟨_, rfl, fun Q k => .inr ⟨b, by rw [show v = .bl b from rv], k⟩⟩
    | _ => cases q
  | [], _ => simp [intD] at q
  | _ :: _ :: _, _ => simp [intD] at q
def intsOf : List D → Option (List Int)
  | [] => some []
  | .int i :: ds => (intsOf ds).map (i :: ·)
  | _ => none
theorem intsOf_map (ns : List Int) : intsOf (ns.map .int) = some ns := by
  induction ns with
  | nil => rfl
  | cons n ns ih => show (intsOf (ns.map .int)).map (n :: ·) = _; rw [ih]; rfl
def intsL : List D → Option (List Int)
  | [.lst ds] => intsOf ds
  | _ => none
def sumD (as : List D) : Option D := (intsL as).map fun ns => .int ns.sum
def tyName : D → Option String
  | .non => some "NoneType"
  | .bl _ => some "bool"
  | .int _ => some "int"
  | .str _ => some "str"
  | .lst _ => some "list"
  | .tup _ => some "tuple"
  | .dct _ _ => some "dict"
  | _ => none
def isiD : List D → Option D
  | [x, .ty n] => (match tyName x with
    | some t => (kitB t n).map .bl
    | none => none)
  | _ => none
def truD : D → Option Bool
  | .non => some false
  | .bl b => some b
  | .int i => some (i != 0)
  | .str y => if y.length ≤ sizeLine then some ((y.length : Int) != 0) else none
  | .lst ds => some !ds.isEmpty
  | .tup ds => some !ds.isEmpty
  | .dct ks _ => some !ks.isEmpty
  | _ => none
theorem isEmpty_len {α β : Type} {xs : List α} {ys : List β} (h : xs.length = ys.length) : xs.isEmpty = ys.isEmpty := by
  cases xs <;> cases ys <;> first | rfl | cases h
theorem truD_ok {H : Hp} {v : V} {d : D} {k : Bool} (r : Rep K mg H v d) (q : truD d = some k) : TruV K v H k := by
  cases d with
  | non => cases q; rw [show v = .non from r]; exact rfl
  | bl b => cases q; rw [show v = .bl _ from r]; exact rfl
  | int b => cases q; rw [show v = .int b from r]; exact rfl
  | str b =>
    rw [show v = .str b from r]
    have q' : (if b.length ≤ sizeLine then some ((b.length : Int) != 0) else none) = some k := q
    split at q'
    · rename_i h; cases q'; exact ⟨h, rfl⟩
    · cases q'
  | lst ds => obtain ⟨p, vs, e, h1, h2⟩ := r; cases q; subst e; exact .inl ⟨vs, SqL.of h1, by rw [isEmpty_len h2.length]⟩
  | tup ds => obtain ⟨p, vs, e, h1, h2⟩ := r; cases q; subst e; exact .inr (.inl ⟨vs, h1, by rw [isEmpty_len h2.length]⟩)
  | dct ks ds =>
    obtain ⟨p, vs, e, h1, h3, h2⟩ := r; cases q; subst e
    refine .inr (.inr ⟨_, h1, ?_⟩)
    rw [isEmpty_len (xs := ks.zip vs) (ys := ks) (by rw [List.length_zip]; omega)]
  | _ => cases q
end
end VF
set_option maxRecDepth 100000
set_option maxHeartbeats 4000000
namespace VF
set_option autoImplicit false
open PySem PySem.Spec PyProof.Rows L2
open AT (cells cellsL er ers)
section
variable {K : PySem.W.Frag} {mg : Str → Option Value} {E : XS}
theorem SE.imp {t t' : TE} {m : M RV} (h : SE K mg E t m) (k : ∀ σ H Q, t σ H Q → t' σ H Q) : SE K mg E t' m := fun pv F H σ e as held Q c w => k _ _ _ (h pv F H σ e as held Q c w)
def blOf : D → Option Bool
  | .bl b => some b
  | _ => none
def dChain (f g : D → D → Option D) (a b c : M RV) : M RV := a.bind fun r => b.bind fun q => fun e => match view e r, view e q with
  | some x, some y => (match (f x y).bind blOf with
    | some true => (c e).bind fun p e => (match view e q, view e p with
      | some y, some z => (match g y z with
        | some d => .ok (.fz d) e
        | none => .st)
      | _, _ => .st)
    | some false => .ok (.fz (.bl false)) e
    | none => .st)
  | _, _ => .st
theorem blOf_some {d : Option D} {k : Bool} (h : d.bind blOf = some k) : d = some (.bl k) := by
  cases d with
  | none => cases h
  | some d => cases d with
    | bl b => cases h; rfl
    | _ => cases h
theorem se_chain {r r' : R2} {f g : D → D → Option D} {ta tb tc : TE} {ma mb mc : M RV} (hr : OpD r K mg f) (hr' : OpD r' K mg g) (ha : SE K mg E ta ma) (hb : SE K mg E tb mb) (hc : SE K mg E tc mc) : SE K mg E (tChain r r' ta tb tc) (dChain f g ma mb mc) := by
  intro pv F H σ e as held Q c w
  refine ha pv F H σ e as held _ c (WE.bindE (W := WE K mg pv F held σ Q E) (fun z => z) w (fun _ _ z => z) fun r1 e1 v1 F1 H1 as1 tr1 s1 c1 rr1 w1 => ?_)
  refine hb pv F1 H1 σ e1 as1 (tr1 ++ held) _ c1 (WE.bindE (W := WE K mg pv F held σ Q E) (fun z => z) w1 (fun _ _ z => (WX.mono s1 z).drop) fun r2 e2 v2 F2 H2 as2 tr2 s2 c2 rr2 w2 => ?_)
  cases q1 : view e2 r1 with
  | none => simp only [q1] at w2; exact w2.elim
  | some x =>
    cases q2 : view e2 r2 with
    | none => simp only [q1, q2] at w2; exact w2.elim
    | some y =>
      simp only [q1, q2] at w2
      have p1 := c2.seen rr1 (fun t ht => List.mem_append_right _ (List.mem_append_left _ ht)) q1
      have p2 := c2.seen rr2 (fun t ht => List.mem_append_left _ ht) q2
      cases q3 : (f x y).bind blOf with
      | none => simp only [q3] at w2; exact w2.elim
      | some k =>
        simp only [q3] at w2
        obtain ⟨v, hv, kk⟩ := hr H2 v1 v2 x y _ p1 p2 (blOf_some q3)
        cases hv
        refine kk _ ⟨k, rfl, ?_⟩
        cases k with
        | false =>
          rw [if_neg (by decide)]
          exact w2 (.bl false) F2 H2 as2 _ (s1.trans s2) (c2.drop.drop.fz (show Rep K mg F2 (.bl false) (.bl false) from rfl)) rfl
        | true =>
          rw [if_pos rfl]
          have c2' : Cf K mg pv F2 H2 σ e2 as2 (tr2 ++ held) := (c2.perm (pswap tr2 tr1 held)).drop
          refine hc pv F2 H2 σ e2 as2 _ _ c2' (WE.bindE (W := WE K mg pv F held σ Q E) (fun z => z) w2 (fun _ _ z => (WX.mono (s1.trans s2) z).drop) fun r3 e3 v3 F3 H3 as3 tr3 s3 c3 rr3 w3 => ?_)
          cases q4 : view e3 r2 with
          | none => simp only [q4] at w3; exact w3.elim
          | some y' =>
            cases q5 : view e3 r3 with
            | none => simp only [q4, q5] at w3; exact w3.elim
            | some z =>
              simp only [q4, q5] at w3
              have p3 := c3.seen rr2 (fun t ht => List.mem_append_right _ (List.mem_append_left _ ht)) q4
              have p4 := c3.seen rr3 (fun t ht => List.mem_append_left _ ht) q5
              cases q6 : g y' z with
              | none => simp only [q6] at w3; exact w3.elim
              | some d =>
                simp only [q6] at w3
                obtain ⟨u, hu, kk2⟩ := hr' H3 v2 v3 y' z d p3 p4 q6
                exact kk2 Q (w3 u F3 H3 as3 _ ((s1.trans s2).trans s3) (c3.drop.drop.fz (rep_imm hu)) rfl)
def dIfE (t : M Bool) (a b : M RV) : M RV := t.bind fun k => match k with
  | true => a
  | false => b
def dBl (a : M RV) (k : Bool → M RV) : M RV := a.bind fun r => fun e => match (view e r).bind blOf with
  | some b => k b e
  | none => .st
theorem se_bl {ta : TE} {ma : M RV} {k : Bool → M RV} {tk : Bool → TE} (ha : SE K mg E ta ma) (hk : ∀ b, SE K mg E (tk b) (k b)) : SE K mg E (fun σ H Q => ta σ H fun x H1 => ∃ c, x = .bl c ∧ tk c σ H1 Q) (dBl ma k) := by
  intro pv F H σ e as held Q c w
  refine ha pv F H σ e as held _ c (WE.bindE (W := WE K mg pv F held σ Q E) (fun z => z) w (fun _ _ z => z) fun r1 e1 v1 F1 H1 as1 tr1 s1 c1 rr1 w1 => ?_)
  cases q : (view e1 r1).bind blOf with
  | none => simp only [q] at w1; exact w1.elim
  | some b =>
    simp only [q] at w1
    have p1 := c1.seen rr1 (fun t ht => List.mem_append_left _ ht) (blOf_some q)
    exact ⟨b, p1, hk b pv F1 H1 σ e1 as1 held Q c1.drop (WE.mono s1 w1)⟩
def dAndV (a b : M RV) : M RV := dBl a fun c => match c with
  | true => b
  | false => dC (.bl false)
def dOrV (a b : M RV) : M RV := dBl a fun c => match c with
  | true => dC (.bl true)
  | false => b
def dNotV (a : M RV) : M RV := dBl a fun c => dC (.bl (!c))
theorem se_andV {ta tb : TE} {ma mb : M RV} (ha : SE K mg E ta ma) (hb : SE K mg E tb mb) : SE K mg E (tAndV ta tb) (dAndV ma mb) := by
  refine (se_bl (tk := fun c => if c = true then tb else tC (.bl false)) ha fun b => ?_).imp fun σ H Q h => ?_
  · cases b with
    | true => rw [if_pos rfl]; exact hb
    | false => rw [if_neg (by decide)]; exact se_c
  · revert h
    have key : (fun (x : V) H1 => ∃ c, x = .bl c ∧ (if c = true then tb else tC (.bl false)) σ H1 Q) = (fun x H1 => ∃ c, x = .bl c ∧ if c = true then tb σ H1 Q else Q (.bl false) H1) := by
      funext x H1
      refine propext ⟨fun ⟨c, h1, h2⟩ => ⟨c, h1, ?_⟩, fun ⟨c, h1, h2⟩ => ⟨c, h1, ?_⟩⟩
      · cases c with
        | true => rw [if_pos rfl] at h2 ⊢; exact h2
        | false => rw [if_neg (by decide)] at h2 ⊢; exact h2
      · cases c with
        | true => rw [if_pos rfl] at h2 ⊢; exact h2
        | false => rw [if_neg (by decide)] at h2 ⊢; exact h2
    intro h
    show ta σ H (fun x H1 => ∃ c, x = .bl c ∧ if c = true then tb σ H1 Q else Q (.bl false) H1)
    rw [← key]; exact h
theorem se_orV {ta tb : TE} {ma mb : M RV} (ha : SE K mg E ta ma) (hb : SE K mg E tb mb) : SE K mg E (tOrV ta tb) (dOrV ma mb) := by
  refine (se_bl (tk := fun c => if c = true then tC (.bl true) else tb) ha fun b => ?_).imp fun σ H Q h => ?_
  · cases b with
    | true => rw [if_pos rfl]; exact se_c
    | false => rw [if_neg (by decide)]; exact hb
  · have key : (fun (x : V) H1 => ∃ c, x = .bl c ∧ (if c = true then tC (.bl true) else tb) σ H1 Q) = (fun x H1 => ∃ c, x = .bl c ∧ if c = true then Q (.bl true) H1 else tb σ H1 Q) := by
      funext x H1
      refine propext ⟨fun ⟨c, h1, h2⟩ => ⟨c, h1, ?_⟩, fun ⟨c, h1, h2⟩ => ⟨c, h1, ?_⟩⟩
      · cases c with
        | true => rw [if_pos rfl] at h2 ⊢; exact h2
        | false => rw [if_neg (by decide)] at h2 ⊢; exact h2
      · cases c with
        | true => rw [if_pos rfl] at h2 ⊢; exact h2
        | false => rw [if_neg (by decide)] at h2 ⊢; exact h2
    show ta σ H (fun x H1 => ∃ c, x = .bl c ∧ if c = true then Q (.bl true) H1 else tb σ H1 Q)
    rw [← key]; exact h
def dTru (a : M RV) : M Bool := a.bind fun r => fun e => match (view e r).bind truD with
  | some b => .ok b e
  | none => .st
theorem st_tru {ta : TE} {ma : M RV} (ha : SE K mg E ta ma) : ST K mg E (fun σ H Q => ta σ H fun x H' => ∃ k, TruV K x H' k ∧ Q k H') (dTru ma) := by
  intro pv F H σ e as held Q c w
  refine ha pv F H σ e as held _ c (WE.bindE (W := WT K mg pv F held σ Q E) (fun z => z) w (fun _ _ z => z) fun r1 e1 v1 F1 H1 as1 tr1 s1 c1 rr1 w1 => ?_)
  cases q1 : view e1 r1 with
  | none => simp only [q1] at w1; exact w1.elim
  | some x =>
    simp only [q1] at w1
    have p1 := c1.seen rr1 (fun t ht => List.mem_append_left _ ht) q1
    cases q2 : truD x with
    | none => simp only [Option.bind, q2] at w1; exact w1.elim
    | some b =>
      simp only [Option.bind, q2] at w1
      exact ⟨b, truD_ok p1 q2, w1 F1 H1 as1 s1 c1.drop⟩
end
section
variable {X : Cx} {E : XS} {a b c : Expr} {ma mb mc : M RV} {pos : Pos}
theorem v_var {i : Nat} {x : Str} {p : Pos} (hN : X.N[i]? = some x) (hv : Vis X.env.scope x) (hd : (x == ("__debug__" : Str)) = false := by decide) (hcd : (x == ("__classdict__" : Str)) = false := by decide) : VE X E (.Name x p) (dVar i) := .mk (pe_var hN hv hd hcd) se_var
theorem v_int {i : Int} {j} : VE X E (.Constant (.int i) j pos) (dC (.int i)) := .mk pe_int se_c
theorem v_bl {k : Bool} {j} : VE X E (.Constant (.bool k) j pos) (dC (.bl k)) := .mk pe_bl se_c
theorem v_non {j} : VE X E (.Constant .none j pos) (dC .non) := .mk pe_non se_c
theorem v_str {s : Str} {j} : VE X E (.Constant (.str s) j pos) (dC (.str s)) := .mk pe_str se_c
theorem v_sub (ha : VE X E a ma) (hb : VE X E b mb) : VE X E (.BinOp a .Sub b pos) (dOp (fI (· - ·)) ma mb) := .mk (pe_op op_sub ha hb) (se_op opd_I se_w se_w)
theorem v_mul (ha : VE X E a ma) (hb : VE X E b mb) : VE X E (.BinOp a .Mult b pos) (dOp fMul ma mb) := .mk (pe_op op_mul ha hb) (se_op opd_mul se_w se_w)
theorem v_mod (ha : VE X E a ma) (hb : VE X E b mb) : VE X E (.BinOp a .Mod b pos) (dOp fMod ma mb) := .mk (pe_op op_mod ha hb) (se_op opd_mod se_w se_w)
theorem v_div (ha : VE X E a ma) (hb : VE X E b mb) : VE X E (.BinOp a .FloorDiv b pos) (dOp fDiv ma mb) := .mk (pe_op op_fdiv ha hb) (se_op opd_div se_w se_w)
theorem v_pow (ha : VE X E a ma) (hb : VE X E b mb) : VE X E (.BinOp a .Pow b pos) (dOp fPow ma mb) := .mk (pe_op op_pow ha hb) (se_op opd_pow se_w se_w)
theorem v_addI (ha : VE X E a ma) (hb : VE X E b mb) : VE X E (.BinOp a .Add b pos) (dOp (fI (· + ·)) ma mb) := .mk (pe_op op_add ha hb) (se_op opd_I se_w se_w)
theorem v_ge (ha : VE X E a ma) (hb : VE X E b mb) : VE X E (.Compare a [.GtE] [b] pos) (dOp (fB fun i j => decide (j ≤ i)) ma mb) := .mk (pe_cmpR op_ge ha hb (nomark _)) (se_op opd_B se_w se_w)
theorem v_eq (hu : X.A.units + 64 < cLine) (ha : VE X E a ma) (hb : VE X E b mb) : VE X E (.Compare a [.Eq] [b] pos) (dOp fEq ma mb) := .mk (pe_cmpR (op_eqP hu) ha hb (nomark _)) (se_op opd_eq se_w se_w)
theorem v_isN (ha : VE X E a ma) (hb : VE X E b mb) : VE X E (.Compare a [.Is] [b] pos) (dOp fIsN ma mb) := .mk (pe_cmpR op_isN ha hb (nomark _)) (se_op opd_isN se_w se_w)
theorem t_lt (ha : VE X E a ma) (hb : VE X E b mb) : VT X E (.Compare a [.Lt] [b] pos) (dT (dOp (fB fun i j => decide (i < j)) ma mb)) := .mk (pt_cmpR op_lt ha hb (nomark _)) (st_test (se_op opd_B se_w se_w))
theorem t_gt (ha : VE X E a ma) (hb : VE X E b mb) : VT X E (.Compare a [.Gt] [b] pos) (dT (dOp (fB fun i j => decide (j < i)) ma mb)) := .mk (pt_cmpR op_gt ha hb (nomark _)) (st_test (se_op opd_B se_w se_w))
theorem t_ge (ha : VE X E a ma) (hb : VE X E b mb) : VT X E (.Compare a [.GtE] [b] pos) (dT (dOp (fB fun i j => decide (j ≤ i)) ma mb)) := .mk (pt_cmpR op_ge ha hb (nomark _)) (st_test (se_op opd_B se_w se_w))
theorem t_eq (hu : X.A.units + 64 < cLine) (ha : VE X E a ma) (hb : VE X E b mb) : VT X E (.Compare a [.Eq] [b] pos) (dT (dOp fEq ma mb)) := .mk (pt_cmpR (op_eqP hu) ha hb (nomark _)) (st_test (se_op opd_eq se_w se_w))
theorem t_ne (hu : X.A.units + 64 < cLine) (ha : VE X E a ma) (hb : VE X E b mb) : VT X E (.Compare a [.NotEq] [b] pos) (dT (dOp fNe ma mb)) := .mk (pt_cmpR (op_neP hu) ha hb (nomark _)) (st_test (se_op opd_ne se_w se_w))
theorem t_notN (ha : VE X E a ma) (hb : VE X E b mb) : VT X E (.Compare a [.IsNot] [b] pos) (dT (dOp fNotN ma mb)) := .mk (pt_cmpR op_notN ha hb (nomark _)) (st_test (se_op opd_notN se_w se_w))
theorem t_in (hu : X.A.units + 65 < cLine) (ha : VE X E a ma) (hb : VE X E b mb) (hm : behindInMarks .In b = false) : VT X E (.Compare a [.In] [b] pos) (dT (dOp fIn ma mb)) := .mk (pt_cmpR (op_inA hu) ha hb hm) (st_test (se_op opd_in se_w se_w))
theorem t_notIn (hu : X.A.units + 65 < cLine) (ha : VE X E a ma) (hb : VE X E b mb) (hm : behindInMarks .NotIn b = false) : VT X E (.Compare a [.NotIn] [b] pos) (dT (dOp fNotIn ma mb)) := .mk (pt_cmpR (op_notInA hu) ha hb hm) (st_test (se_op opd_notIn se_w se_w))
theorem t_leLe (ha : VE X E a ma) (hb : VE X E b mb) (hc : VE X E c mc) (hm : lastMarks [.LtE, .LtE] [b, c] = false := by with_unfolding_all rfl) : VT X E (.Compare a [.LtE, .LtE] [b, c] pos) (dT (dChain (fB fun i j => decide (i ≤ j)) (fB fun i j => decide (i ≤ j)) ma mb mc)) := .mk (pt_chain op_le op_le ha hb hc hm) (st_test (se_chain opd_B opd_B se_w se_w se_w))
theorem t_tru (ha : VE X E a ma) (he : ∀ whole, isTrue a X.env whole = (do let v ← whole; standAt a.pos; holding [v] (truthy v)) := by intro _; rfl) : VT X E a (dTru ma) := .mk (pt_truth ha he) (st_tru se_w)
variable {es : List Expr} {ta tb : M Bool} {mr : M (List RV)} {rest : List Expr}
def VW (X : Cx) (E : XS) (e : Expr) (m : M Bool) : Prop := PW X e (wT X.K X.mg E m)
theorem VW.mk {e : Expr} {t : TT} {m : M Bool} (h : PW X e t) (s : ST X.K X.mg E t m) : VW X E e m := ⟨fun wh pins s0 σ H Q I ⟨pv, F, e0, as, held, c, w⟩ => h.run wh pins s0 σ H Q I (s pv F H σ e0 as held Q c w)⟩
theorem VW.t {e : Expr} {m : M Bool} (h : VW X E e m) : VT X E e m := PW.pt h
theorem w_and1 (ha : VT X E a ta) : VW X E (.BoolOp .And [a] pos) ta := pw_and1 ha
theorem w_or1 (ha : VT X E a ta) : VW X E (.BoolOp .Or [a] pos) ta := pw_or1 ha
theorem w_and (ha : VT X E a ta) (hb : VW X E (.BoolOp .And (b :: rest) pos) tb) : VW X E (.BoolOp .And (a :: b :: rest) pos) (dAnd ta tb) := .mk (pw_and ha hb) (st_and st_w st_w)
theorem w_or (ha : VT X E a ta) (hb : VW X E (.BoolOp .Or (b :: rest) pos) tb) : VW X E (.BoolOp .Or (a :: b :: rest) pos) (dOr ta tb) := .mk (pw_or ha hb) (st_or st_w st_w)
theorem t_not (ha : VT X E a ta) : VT X E (.UnaryOp .Not a pos) (dNot ta) := .mk (pt_not ha) (st_not st_w)
theorem v_one {op} (h : VE X E a ma) : VE X E (.BoolOp op [a] pos) ma := pe_one h
theorem v_and (ha : VE X E a ma) (hb : VE X E (.BoolOp .And (b :: rest) pos) mb) : VE X E (.BoolOp .And (a :: b :: rest) pos) (dAndV ma mb) := .mk (pe_and ha hb) (se_andV se_w se_w)
theorem v_or (ha : VE X E a ma) (hb : VE X E (.BoolOp .Or (b :: rest) pos) mb) : VE X E (.BoolOp .Or (a :: b :: rest) pos) (dOrV ma mb) := .mk (pe_or ha hb) (se_orV se_w se_w)
theorem a_nil : VA X E [] dNil := .mk pa_nil sa_nil
theorem a_cons (ha : VE X E a ma) (hr : VA X E es mr) (hs : starEach (a :: es) X.env = (false, eval a X.env) :: starEach es X.env := by rfl) : VA X E (a :: es) (dCons ma mr) := .mk (pa_cons ha hr hs) (sa_cons se_w sa_w)
theorem v_lst (ha : VA X E es mr) : VE X E (.List es pos) (dLst mr) := .mk (pe_lst ha) (se_lst sa_w)
theorem v_tup {x1} (ha : VA X E es mr) : VE X E (.Tuple es x1 pos) (dTup mr) := .mk (pe_tup ha) (se_tup sa_w)
theorem v_ix (ha : VE X E a ma) (hb : VE X E b mb) (hs : PlainIx b) : VE X E (.Subscript a b pos) (dIx ma mb) := .mk (pe_ix ix_seq ha hb hs) (se_ix se_w se_w)
theorem v_len {p : Pos} {es : List Expr} {mr : M (List RV)} (hg : Gl X "len") (hm : X.mg "len" = none) (ha : VA X E (a :: es) mr) (he : starEach (a :: es) X.env = (false, eval a X.env) :: starEach es X.env := by rfl) (hpl : (backTo pos (starEach es X.env)).any (·.1) = false := by rfl) :
    VE X E (.Call (.Name "len" p) (a :: es) [] pos) (dCB lenD mr) := .mk (pe_callB call_len hg hm (by decide +kernel) ha (by decide) (by decide) he hpl) (se_cb cbd_len sa_w)
theorem v_callInt {p : Pos} {es : List Expr} {mr : M (List RV)} (hg : Gl X "int") (hm : X.mg "int" = none) (ha : VA X E (a :: es) mr) (he : starEach (a :: es) X.env = (false, eval a X.env) :: starEach es X.env := by rfl) (hpl : (backTo pos (starEach es X.env)).any (·.1) = false := by rfl) :
    VE X E (.Call (.Name "int" p) (a :: es) [] pos) (dCB intD mr) := .mk (pe_callTy call_int1 hg hm (by decide +kernel) ha (by decide) (by decide) he hpl) (se_cb cbd_int sa_w)
theorem v_call {CX : CXT} {k : Nat} {f : Addr} {fd : FuncData} {ps : List Str} {x : Str} {p : Pos} {md : List Bool} {φ : Fn} (F : FnOk X.prog X.w X.K X.mg X.base CX k f fd ps (spF X.K X.mg md.length φ)) (hr : Room k X.A) (hg : Gl X x) (hm : X.mg x = some (.ref f)) (hk : PySem.W.keepIn X.K (.ref f) = true) (hb : Binds X.K fd ps []) (hx : ∀ σ, PassesAt CX X σ fun cls d H => E cls d σ H)
    (ha : VA X E (a :: es) mr) (hdb : (x == ("__debug__" : Str)) = false := by decide) (he : starEach (a :: es) X.env = (false, eval a X.env) :: starEach es X.env := by rfl) (hpl : (backTo pos (starEach es X.env)).any (·.1) = false := by rfl) :
    VE X E (.Call (.Name x p) (a :: es) [] pos) (dCall md φ mr) := .mk (pe_callS F hr hg hm hk hb hx ha hdb he hpl) (se_call sa_w)
theorem v_callB {CX : CXT} {k n : Nat} {f : Addr} {fd : FuncData} {ps : List Str} {x : Str} {p : Pos} {φ : Fn} (F : FnOk X.prog X.w X.K X.mg X.base CX k f fd ps (spF X.K X.mg n φ)) (hr : Room k X.A) (hg : Gl X x) (hm : X.mg x = some (.ref f)) (hk : PySem.W.keepIn X.K (.ref f) = true) (hb : Binds X.K fd ps []) (hx : ∀ σ, PassesAt CX X σ fun cls d H => E cls d σ H)
    (ha : VA X E (a :: es) mr) (hdb : (x == ("__debug__" : Str)) = false := by decide) (he : starEach (a :: es) X.env = (false, eval a X.env) :: starEach es X.env := by rfl) (hpl : (backTo pos (starEach es X.env)).any (·.1) = false := by rfl) :
    VE X E (.Call (.Name x p) (a :: es) [] pos) (dCallB n φ mr) := .mk (pe_callS F hr hg hm hk hb hx ha hdb he hpl) (se_callB sa_w)
theorem v_app {i : Nat} {x : Str} {p p1 : Pos} (hN : X.N[i]? = some x) (hv : Vis X.env.scope x) (ha : VE X E a ma) (hs : starEach [a] X.env = (false, eval a X.env) :: starEach [] X.env := by rfl) (hd : (x == ("__debug__" : Str)) = false := by decide) (hcd : (x == ("__classdict__" : Str)) = false := by decide)
    (h : ∀ {to : TE} {t : TA}, PE X (.Name x p) to → PA X [a] t → PE X (.Call (.Attribute (.Name x p) "append" p1) [a] [] pos) (tBM X.K "list" rAppend to t)) : VE X E (.Call (.Attribute (.Name x p) "append" p1) [a] [] pos) (dApp i ma) :=
  .mk (h (pe_var hN hv hd hcd) (pa_cons ha pa_nil hs)) (se_app se_w)
end
section
variable {X : Cx} {E : XS} {s : Stmt} {ss rest : List Stmt} {m m' : M Fl} {e a b c : Expr} {me ma mb : M RV} {mc : M Bool} {pos : Pos}
theorem b_nil : VB X E [] dNext := .mk pss_nil ss_next
theorem b_cons (h1 : VS X E s m) (h2 : VB X E rest m') : VB X E (s :: rest) (dSeq m m') := .mk (pss_cons h1 h2) (ss_seq ss_w ss_w)
theorem b_one (h1 : VS X E s m) : VB X E [s] m := pss_one h1
theorem s_if {x y : List Stmt} (hc : VT X E c mc) (ha : VB X E x m) (hb : VB X E y m') : VS X E (.If c x y pos) (dIf mc m m') := .mk (ps_if hc ha hb) (ss_if st_w ss_w ss_w)
theorem s_ret (he : VE X E e me) : VS X E (.Return (some e) pos) (dRet me) := .mk (ps_ret he) (ss_ret se_w)
theorem s_expr (he : VE X E e me) (hs : swapsWith e none pos.line X.env = pure false := by rfl) : VS X E (.Expr e pos) (dDrop me) := .mk (ps_expr he hs) (ss_drop se_w)
theorem s_set {i : Nat} {x : Str} {p : Pos} (hN : X.N.Nodup) (hi : X.N[i]? = some x) (hx : Loc X.env.scope x) (he : VE X E e me) (hs : swapsWith e (some (.Name x p)) pos.line X.env = pure false := by rfl) (hf : X.fn x = true ∨ X.env.scope.names.lookup x = some .local := by first | exact .inl rfl | exact .inr rfl | assumption) :
    VS X E (.Assign [.Name x p] e pos) (dSet i me) := .mk (ps_set hN hi hx he hs hf) (ss_set se_w)
theorem s_setIx {j : Nat} {x : Str} {p p1 : Pos} (hN : X.N[j]? = some x) (hv : Vis X.env.scope x) (hb : VE X E b mb) (ha : VE X E a ma)
    (hg : ∀ {to ti : TE}, PE X (.Name x p) to → PE X b ti → PG X (.Subscript (.Name x p) b p1) (gSub to ti rSetL))
    (hs : swapsWithSole [.Subscript (.Name x p) b p1] a pos.line X.env = pure false := by rfl) (hw : swappedStores [.Subscript (.Name x p) b p1] a X.env = pure none := by rfl)
    (h1 : (assignEach [.Subscript (.Name x p) b p1] X.env).map (·.2) = [assign (.Subscript (.Name x p) b p1) X.env] := by rfl) (hd : (x == ("__debug__" : Str)) = false := by decide) (hcd : (x == ("__classdict__" : Str)) = false := by decide) :
    VS X E (.Assign [.Subscript (.Name x p) b p1] a pos) (dSetIx j mb ma) := .mk (ps_asg ha (hg (pe_var hN hv hd hcd) hb) hs hw h1) (ss_setIx se_w se_w)
def VI (X : Cx) (E : XS) (tg it : Expr) (m : M (List D)) : Prop := ∃ t, PI X tg it t ∧ SI X.K X.mg E t m
def wG (K : PySem.W.Frag) (mg : Str → Option Value) (L : List Nat) (g : Tg) : TG := fun v σ H Q => ∃ pv F e as held d e', Cf K mg pv F H σ e as held ∧ Rep K mg F v d ∧ g d e = some e' ∧ ∀ σ' as', (∀ vs, (∀ i ∈ L, i ∈ vs) → wipe σ' vs = wipe σ vs) → Cf K mg pv F H σ' e' as' held → Q σ' H
theorem sg_w {K : PySem.W.Frag} {mg : Str → Option Value} {L : List Nat} {g : Tg} : SG K mg L (wG K mg L g) g := fun pv F H σ e as held v d e' Q c r q k => ⟨pv, F, e, as, held, d, e', c, r, q, k⟩
def VG (X : Cx) (L : List Nat) (tg : Expr) (g : Tg) : Prop := PG X tg (wG X.K X.mg L g)
theorem VG.mk {L : List Nat} {tg : Expr} {t : TG} {g : Tg} (h : PG X tg t) (s : SG X.K X.mg L t g) : VG X L tg g := ⟨fun pins s0 σ H v u Q I r ⟨pv, F, e, as, held, d, e', c, rp, q, k⟩ => h.run pins s0 σ H v u Q I r (s pv F H σ e as held v d e' Q c rp q k)⟩
variable {tg it : Expr} {mi : M (List D)} {g : Tg} {L : List Nat} {mr : M (List RV)} {es : List Expr}
theorem i_any (he : VE X E e me) : VI X E tg e (dIt me) := ⟨_, pi_any he, si_any se_w⟩
theorem i_rng1 {p : Pos} (hg : Gl X "range") (hm : X.mg "range" = none) (ha : VA X E [a] mr) (hs : starEach [a] X.env = [(false, eval a X.env)] := by rfl) : VI X E tg (.Call (.Name "range" p) [a] [] pos) (dRng1 mr) := ⟨_, pi_range1 hg hm ha hs, si_rng1 sa_w⟩
theorem i_rng2 {p : Pos} (hg : Gl X "range") (hm : X.mg "range" = none) (ha : VA X E [a, b] mr) (hs : starEach [a, b] X.env = [(false, eval a X.env), (false, eval b X.env)] := by rfl) (hs2 : starEach [b] X.env = [(false, eval b X.env)] := by rfl) : VI X E tg (.Call (.Name "range" p) [a, b] [] pos) (dRng2 mr) := ⟨_, pi_range2 hg hm ha hs hs2, si_rng2 sa_w⟩
theorem g_name {i : Nat} {x : Str} {p : Pos} (hN : X.N.Nodup) (hi : X.N[i]? = some x) (hx : Loc X.env.scope x) (hf : X.fn x = true ∨ X.env.scope.names.lookup x = some .local := by first | exact .inl rfl | exact .inr rfl | assumption) : VG X [i] (.Name x p) (gN i) := .mk (pg_name hN hi hx hf) sg_name
theorem s_for {body : List Stmt} (hp : PassesOwn (model X.prog X.w) X.A X.env X.xe) (hc : X.calm = true) (hi : VI X E tg it mi) (hg : VG X L tg g) (hb : VB X E body m) (hs : ∀ x, foldedSetIterable it X.env x = pure x := by intro _; rfl) : VS X E (.For tg it body [] pos) (dFor mi g m) := by
  obtain ⟨t, p, s⟩ := hi
  exact .mk (ps_for hp hc p hg hb hs) (ss_for s sg_w ss_w)
def VTs (X : Cx) (E : XS) (ifs : List Expr) (m : M Bool) : Prop := PTs X ifs (wT X.K X.mg E m)
theorem VTs.mk {ifs : List Expr} {t : TT} {m : M Bool} (h : PTs X ifs t) (s : ST X.K X.mg E t m) : VTs X E ifs m := ⟨fun pins s0 σ H Q I ⟨pv, F, e0, as, held, c, w⟩ => h.run pins s0 σ H Q I (s pv F H σ e0 as held Q c w)⟩
theorem ts_nil : VTs X E [] dYes := .mk pts_nil st_yes
theorem v_comp {elt : Expr} {ifs : List Expr} {scope sc : Scope} {own : List (Str × Nat)} {mt : M Bool} (hc : X.calm = true) (hN : X.N.Nodup) (hsc : X.env.scope = sc) (ok : BlkOk X.N sc scope own) (hL : ∀ i ∈ L, i ∈ own.map (·.2)) (hi : VI X E tg it mi)
    (hg : ∀ (s : Shared) (H : Hp) (C : Addr) (cl : List (Str × Addr)) (fp : List Addr), VG (X.blk s H scope (compEnvC scope cl C X.env) fp) L tg g) (ht : ∀ (s : Shared) (H : Hp) (C : Addr) (cl : List (Str × Addr)) (fp : List Addr), VTs (X.blk s H scope (compEnvC scope cl C X.env) fp) E0 ifs mt)
    (he : ∀ (s : Shared) (H : Hp) (C : Addr) (cl : List (Str × Addr)) (fp : List Addr), VE (X.blk s H scope (compEnvC scope cl C X.env) fp) E0 elt me) (hs : ∀ x, foldedSetIterable it X.env x = pure x := by intro _; rfl) :
    VE X E (.ListComp elt [⟨tg, it, ifs, 0⟩] scope pos) (dComp (own.map (·.2)) mi g mt me) := by
  subst hsc
  obtain ⟨t, p, s⟩ := hi
  exact .mk (pe_lc (g := wG X.K X.mg L g) (tt := wT X.K X.mg E0 mt) (te := wE X.K X.mg E0 me) hc hN p ok hg ht he hs) (se_comp s sg_w hL st_w se_w)
theorem s_setComp {i : Nat} {y : Str} {py spos : Pos} {elt : Expr} {ifs : List Expr} {scope sc : Scope} {own : List (Str × Nat)} {mt : M Bool} (hc : X.calm = true) (hN : X.N.Nodup) (hy : X.N[i]? = some y) (hyl : X.env.scope.names.lookup y = some .local)
    (hsw : swapsWith (.ListComp elt [⟨tg, it, ifs, 0⟩] scope pos) (some (.Name y py)) spos.line X.env = pure true) (hsc : X.env.scope = sc) (ok : BlkOk X.N sc scope own) (hL : ∀ i ∈ L, i ∈ own.map (·.2)) (hi : VI X E tg it mi)
    (hg : ∀ (s : Shared) (H : Hp) (C : Addr) (cl : List (Str × Addr)) (fp : List Addr), VG (X.blk s H scope (compEnvC scope cl C X.env) fp) L tg g) (ht : ∀ (s : Shared) (H : Hp) (C : Addr) (cl : List (Str × Addr)) (fp : List Addr), VTs (X.blk s H scope (compEnvC scope cl C X.env) fp) E0 ifs mt)
    (he : ∀ (s : Shared) (H : Hp) (C : Addr) (cl : List (Str × Addr)) (fp : List Addr), VE (X.blk s H scope (compEnvC scope cl C X.env) fp) E0 elt me) (hs : ∀ x, foldedSetIterable it X.env x = pure x := by intro _; rfl) :
    VS X E (.Assign [.Name y py] (.ListComp elt [⟨tg, it, ifs, 0⟩] scope pos) spos) (dSet i (dComp (own.map (·.2)) mi g mt me)) := by
  subst hsc
  obtain ⟨t, p, s⟩ := hi
  exact .mk (ps_setLc (g := wG X.K X.mg L g) (tt := wT X.K X.mg E0 mt) (te := wE X.K X.mg E0 me) hc hN hy hyl hsw p ok hg ht he hs) (ss_set (se_comp s sg_w hL st_w se_w))
end
end VF
set_option maxRecDepth 100000
set_option maxHeartbeats 4000000
namespace VF
set_option autoImplicit false
open PySem PySem.Spec PyProof.Rows L2
open AT (cells cellsL er ers)
theorem u64 {k : Nat} {A : Around} (r : Room k A) : A.units + 64 < cLine := by have := r.un; omega
theorem u65 {k : Nat} {A : Around} (r : Room k A) : A.units + 65 < cLine := by have := r.un; omega
theorem law_sp {K : PySem.W.Frag} {mg : Str → Option Value} {φ : Fn} {ns : List Int} {H : Hp} {a : Addr} {E : XK} (h : ∃ as', φ [.fz (.scr ns)] = .ok (.fz (.bl true)) as') (hS : SqL K H a (ns.map V.int)) : spF K mg 1 φ [.ref a] H (fun v _ => v = .bl true) E := by
  obtain ⟨as', h⟩ := h
  refine ⟨H, [.fz (.ref a) (.scr ns)], [], rfl, rfl, Same.refl _, ⟨fun c hc => absurd (show c ∈ ([] : List (Addr × HO)) from hc) List.not_mem_nil, ⟨⟨a, rfl, hS⟩, trivial⟩, List.nodup_nil⟩, ?_⟩
  rw [show ers [AT.fz (.ref a) (.scr ns)] = [SV.fz (.scr ns)] from rfl, h]
  intro v F' H' t ts' s s' e1 e2 _ _ g
  cases t with
  | fz u d =>
    have e3 : d = .bl true := by simpa [er] using e2
    subst e3
    have : u = .bl true := g.unfz.2
    rw [← e1]; exact this
  | ol _ _ => simp [er] at e2
  | oo _ _ _ _ _ _ => simp [er] at e2
  | od _ _ _ => simp [er] at e2
theorem passN {X : Cx} {E : L2.St → XK} : ∀ σ, PassesAt CX0 X σ (E σ) := fun _ _ _ _ _ _ _ c => False.elim c
end VF
set_option maxRecDepth 100000
set_option maxHeartbeats 4000000
namespace VF
set_option autoImplicit false
open PySem PySem.Spec PyProof.Rows L2
open AT (cells cellsL er ers)
variable {K : PySem.W.Frag} {mg : Str → Option Value} {E : XS}
def WO (K : PySem.W.Frag) (mg : Str → Option Value) (pv : List (Nat × V)) (F : Hp) (held : List AT) (σ : L2.St) (Q : Option Int → Hp → Prop) (E : XS) : R (Option Int) → Prop
  | .st => False
  | .ok o e' => ∀ F' H' as', Same F F' → Cf K mg pv F' H' σ e' as' held → Q o H'
  | .ex x e' => WX K mg pv F held E x e'
def SO (K : PySem.W.Frag) (mg : Str → Option Value) (E : XS) (t : TO) (m : M (Option Int)) : Prop :=
  ∀ (pv : List (Nat × V)) (F H : Hp) (σ : L2.St) (e : VF.Env) (as : List (Option AT)) (held : List AT) (Q : Option Int → Hp → Prop), Cf K mg pv F H σ e as held → WO K mg pv F held σ Q E (m e) → t σ H Q
theorem WO.bindO {pv : List (Nat × V)} {F : Hp} {held : List AT} {σ : L2.St} {e : VF.Env} {α : Type} {f : Option Int → M α} {m : M (Option Int)} {W : R α → Prop} (hs : ¬ W .st) (h : W ((m e).bind f)) {P : Option Int → Hp → Prop}
    (hx : ∀ x e', W (.ex x e') → WX K mg pv F held E x e')
    (k : ∀ b e' F' H' as', Same F F' → Cf K mg pv F' H' σ e' as' held → W (f b e') → P b H') : WO K mg pv F held σ P E (m e) := by
  cases q : m e with
  | st => rw [q] at h; exact absurd h hs
  | ok r e' => rw [q] at h; exact fun F' H' as' s c => k r e' F' H' as' s c h
  | ex x e' => rw [q] at h; exact hx x e' h
def dNoPart : M (Option Int) := fun e => .ok none e
def dPart (a : M RV) : M (Option Int) := a.bind fun r e => match view e r with
  | some (.int i) => .ok (some i) e
  | _ => .st
theorem so_none : SO K mg E tNoPart dNoPart := fun pv F H σ e as held Q c w => w F H as (Same.refl _) c
theorem so_some {t : TE} {m : M RV} (h : SE K mg E t m) : SO K mg E (tPart t) (dPart m) := by
  intro pv F H σ e as held Q c w
  refine h pv F H σ e as held _ c (WE.bindE (W := WO K mg pv F held σ Q E) (fun z => z) w (fun _ _ z => z) fun r1 e1 v1 F1 H1 as1 tr1 s1 c1 rr1 w1 => ?_)
  cases q1 : view e1 r1 with
  | none => simp only [q1] at w1; exact w1.elim
  | some x =>
    cases x with
    | int i =>
      simp only [q1] at w1
      have p1 := c1.seen rr1 (fun t ht => List.mem_append_left _ ht) q1
      exact ⟨i, p1, w1 F1 H1 as1 s1 c1.drop⟩
    | _ => simp only [q1] at w1; exact w1.elim
def cutD (ds : List D) (lo hi : Option Int) : List D := (ds.drop (HT.sIx ds.length 0 lo)).take (HT.sIx ds.length ds.length hi - HT.sIx ds.length 0 lo)
theorem reps_cut {F : Hp} {vs : List V} {ds : List D} (h : Reps K mg F vs ds) (lo hi : Option Int) : Reps K mg F (cutV vs lo hi) (cutD ds lo hi) := by
  unfold cutV cutD
  rw [h.length]
  exact (h.drop _).take _
def dSl (a : M RV) (l h : M (Option Int)) : M RV := a.bind fun r e => match frzR r e with
  | some (.lst ds, e1) => (l e1).bind fun lo e2 => (h e2).bind fun hi e3 => .ok (.own (.ol ((cutD ds lo hi).map .fz))) e3
  | _ => .st
theorem se_slice {te : TE} {tl th : TO} {ma : M RV} {ml mh : M (Option Int)} (ha : SE K mg E te ma) (hl : SO K mg E tl ml) (hh : SO K mg E th mh) : SE K mg E (tSl (rSlL K) te tl th) (dSl ma ml mh) := by
  intro pv F H σ e as held Q c w
  refine ha pv F H σ e as held _ c (WE.bindE (W := WE K mg pv F held σ Q E) (fun z => z) w (fun _ _ z => z) fun r e1 v1 F1 H1 as1 tr1 s1 c1 rr1 w1 => ?_)
  cases q : frzR r e1 with
  | none => simp only [q] at w1; exact w1.elim
  | some pr =>
    obtain ⟨d, e2⟩ := pr
    cases d with
    | lst ds =>
      simp only [q] at w1
      obtain ⟨F2, as2, s2, c2, rv⟩ := c1.frzR rr1 q
      refine hl pv F2 H1 σ e2 as2 held _ c2 (WO.bindO (W := WE K mg pv F held σ Q E) (fun z => z) w1 (fun _ _ z => WX.mono (s1.trans s2) z) fun lo e3 F3 H3 as3 s3 c3 w3 => ?_)
      refine hh pv F3 H3 σ e3 as3 held _ c3 (WO.bindO (W := WE K mg pv F held σ Q E) (fun z => z) w3 (fun _ _ z => WX.mono ((s1.trans s2).trans s3) z) fun hi e4 F4 H4 as4 s4 c4 w4 => ?_)
      obtain ⟨a, vs, e, h1, h2⟩ := Rep.same (s3.trans s4) rv
      refine ⟨a, vs, e, SqL.of (c4.s _ _ h1), fun p hp => ?_⟩
      obtain ⟨t, e1, e2', c5⟩ := c4.newL (reps_cut h2 lo hi) hp
      exact w4 (.ref p) F4 _ as4 [t] (((s1.trans s2).trans s3).trans s4) c5 ⟨t, rfl, e1, e2'⟩
    | _ => simp only [q] at w1; exact w1.elim
section
variable {X : Cx} {a b c : Expr} {ma mb mc : M RV} {pos : Pos}
theorem v_slFrom {p2 : Pos} (ha : VE X E a ma) (hb : VE X E b mb) : VE X E (.Subscript a (.Slice (some b) none none p2) pos) (dSl ma (dPart mb) dNoPart) := .mk (pe_slice sl_list ha (po_some hb) po_none) (se_slice se_w (so_some se_w) so_none)
end
end VF
set_option maxRecDepth 100000
set_option maxHeartbeats 4000000
namespace VF
set_option autoImplicit false
open PySem PySem.Spec PyProof.Rows L2
open AT (cells cellsL er ers)
section
variable {K : PySem.W.Frag} {mg : Str → Option Value} {E : XS}
def dAddL (a b : M RV) : M RV := a.bind fun r e => match frzR r e with
  | some (.lst ds, e1) => (b e1).bind fun q e2 => (match frzR q e2 with
    | some (.lst es, e3) => if ds.length + es.length ≤ sizeLine then .ok (.own (.ol ((ds ++ es).map .fz))) e3 else .st
    | _ => .st)
  | _ => .st
theorem se_addL {ta tb : TE} {ma mb : M RV} (ha : SE K mg E ta ma) (hb : SE K mg E tb mb) : SE K mg E (tOp rCat ta tb) (dAddL ma mb) := by
  intro pv F H σ e as held Q c w
  refine ha pv F H σ e as held _ c (WE.bindE (W := WE K mg pv F held σ Q E) (fun z => z) w (fun _ _ z => z) fun r e1 v1 F1 H1 as1 tr1 s1 c1 rr1 w1 => ?_)
  cases q : frzR r e1 with
  | none => simp only [q] at w1; exact w1.elim
  | some pr =>
    obtain ⟨d, e2⟩ := pr
    cases d with
    | lst ds =>
      simp only [q] at w1
      obtain ⟨F2, as2, s2, c2, rv⟩ := c1.frzR rr1 q
      refine hb pv F2 H1 σ e2 as2 held _ c2 (WE.bindE (W := WE K mg pv F held σ Q E) (fun z => z) w1 (fun _ _ z => WX.mono (s1.trans s2) z) fun r3 e3 v3 F3 H3 as3 tr3 s3 c3 rr3 w3 => ?_)
      cases q3 : frzR r3 e3 with
      | none => simp only [q3] at w3; exact w3.elim
      | some pr3 =>
        obtain ⟨d3, e4⟩ := pr3
        cases d3 with
        | lst es =>
          simp only [q3] at w3
          obtain ⟨F4, as4, s4, c4, rv4⟩ := c3.frzR rr3 q3
          by_cases hz : ds.length + es.length ≤ sizeLine
          · rw [if_pos hz] at w3
            obtain ⟨a, vs, e, h1, h2⟩ := Rep.same (s3.trans s4) rv
            obtain ⟨b, us, e', k1, k2⟩ := rv4
            refine ⟨a, b, vs, us, e, e', c4.s _ _ h1, c4.s _ _ k1, by rw [h2.length, k2.length]; exact hz, fun p hp => ?_⟩
            obtain ⟨t, g1, g2, c5⟩ := c4.newL (h2.append k2) hp
            exact w3 (.ref p) F4 _ as4 [t] (((s1.trans s2).trans s3).trans s4) c5 ⟨t, rfl, g1, g2⟩
          · rw [if_neg hz] at w3; exact w3.elim
        | _ => simp only [q3] at w3; exact w3.elim
    | _ => simp only [q] at w1; exact w1.elim
end
section
variable {X : Cx} {E : XS} {a b : Expr} {ma mb : M RV} {pos : Pos} {mr : M (List RV)}
theorem v_addL (ha : VE X E a ma) (hb : VE X E b mb) : VE X E (.BinOp a .Add b pos) (dAddL ma mb) := .mk (pe_op op_cat ha hb) (se_addL se_w se_w)
end
end VF
set_option maxRecDepth 100000
set_option maxHeartbeats 4000000
namespace VF
set_option autoImplicit false
open PySem PySem.Spec PyProof.Rows L2
open NdefX (NF NScope CellsAt startF envF ncx inv_startN)
section
variable {X : Cx} {pins : List (Addr × Obj)} {σ : L2.St} {H : Hp} {s : Shared} {a C u : Addr} {A : Around} {E : Value → Shared → Prop}
end
structure IniK (P : Program) (K : PySem.W.Frag) (mg : Str → Option Value) (C fI cc cda : Addr) (F : NF) : Prop where
  T : OexC K C
  lk : ∃ oc od dV kV doc pm an ct osl, K.lookup fI = some ⟨oc, od, .func (PySem.W.fnX F.name F.qual F.params F.body F.scope [(("__class__" : Str), cc)] dV kV doc pm an (.ref cda) ct), osl⟩
  hcd : PySem.W.codeIn K (.ref cda) F.qual = true
  code : ∃ ccl cdd vs ccs file tf, K.lookup cda = some ⟨ccl, cdd, .fields vs, ccs⟩ ∧ vs[2]? = some (.str file tf) ∧ ((P.main.file : Str) == file) = true
  cell : ∃ cl cld csl, K.lookup cc = some ⟨cl, cld, .cell (some (.ref C)), csl⟩
  isC : ∃ cd, PySem.W.clsIn K C = some cd
  sub : PySem.W.mroIn K C (.ref C) = some true
  sup : mg "super" = none
  top : (P.main.scope.names.lookup ("super" : Str)).isSome = false
  opq : PySem.W.nsIn K cStatics "thirdparty.any" = some none
  mro : PySem.W.ks_superIn K C C "__init__" = some (some (.builtin "ValueError.__init__"))
  subV : PySem.W.subIn K (.ref C) (.type "ValueError") = some true
  iC : PySem.W.findIn K (.ref C) "__init__" = some (some (.ref fI))
  tI : PySem.W.typeIn K (.ref fI) = some (.type "function")
  cl : F.cl = [(("__class__" : Str), cc)]
  c : F.c = cda
section
variable {X : Cx} {pins : List (Addr × Obj)} {σ : L2.St} {H : Hp} {s : Shared} {a C fI cc cda : Addr} {F : NF} {D : Ends} {e : Expr} {te : TE} {p0 p1 p2 pos pos' : Pos} {body : List Stmt} {ar : Arg}
end
section
variable {CX : CXT} {P : Program} {w : World} {K : PySem.W.Frag} {mg : Str → Option Value} {base : Heap} {N ps : List Str} {F : NF} {k : Nat} {sp : Sp} {C fI cc cda : Addr} {fd : FuncData} {e : Expr} {rest : List Stmt} {p0 p1 p2 pos pos' : Pos} {ar : Arg}
end
def okV (v : V) : Prop := v = .non ∨ (∃ i : Int, v = .int i ∧ i.natAbs.log2 < 1920) ∨ ∃ y : Str, v = .str y ∧ y.length ≤ 4000
def tPt (js : List Nat) : TE := fun σ H Q => (∀ j ∈ js, ∃ v, σ[j]? = some (some v) ∧ okV v) ∧ ∀ y : Str, y.length ≤ 4000 → Q (.str y) H
section
variable {X : Cx} {js : List Nat} {j : Nat} {x m : Str} {p pos : Pos} {kd : Nat}
inductive Pts (X : Cx) (js : List Nat) : List Expr → Prop
  | nil : Pts X js []
  | cons {e : Expr} {es : List Expr} (h : PE X e (tPt js)) (r : Pts X js es) : Pts X js (e :: es)
end
def spI1 (C : Addr) (f : Str) : Sp := fun vs H Q _ => ∃ (a : Addr) (y : V), vs = [.ref a, y] ∧ H a = some (exo a C none) ∧ okV y ∧ ∀ dx, H dx = none → dx ≠ a → Q .non (upd (upd H dx (exd dx [(f, y)])) a (exo a C (some dx)))
def spI2 (C : Addr) (f g : Str) : Sp := fun vs H Q _ => ∃ (a : Addr) (y z : V), vs = [.ref a, y, z] ∧ H a = some (exo a C none) ∧ okV y ∧ okV z ∧ ∀ dx, H dx = none → dx ≠ a → Q .non (upd (upd (upd H dx (exd dx [(f, y)])) a (exo a C (some dx))) dx (exd dx [(g, z), (f, y)]))
section
variable {CX : CXT} {P : Program} {w : World} {K : PySem.W.Frag} {mg : Str → Option Value} {base : Heap} {F : NF} {k : Nat} {C fI cc cda : Addr} {fd : FuncData} {e v1 v2 : Expr} {es : List Expr} {f g : Str} {p0 p1 p2 pos pos' q0 q1 q2 q3 r0 r1 r2 r3 jp : Pos} {ar : Arg}
end
end VF
set_option maxRecDepth 100000
set_option maxHeartbeats 4000000
namespace VF
set_option autoImplicit false
open PySem PySem.Spec PyProof.Rows L2
open AT (cells cellsL er ers)
section
variable {X : Cx} {K : PySem.W.Frag} {mg : Str → Option Value}
end
section
variable {X : Cx} {E : XS} {a b : Expr} {ma mb : M RV} {pos : Pos}
end
section
variable {X : Cx} {E : XS} {pos : Pos}
structure OwnX (K : PySem.W.Frag) (mg : Str → Option Value) (x : Str) (C : Addr) : Prop where
  g : mg x = some (.ref C)
  e : PySem.W.excIn K C He.veBase "ValueError.__new__" = true
  k : PySem.W.keepIn K (.ref C) = true
  s : PySem.W.subIn K (.ref C) (.type "BaseException") = some true
  t : PySem.W.typeIn K (.ref C) = some (.type "type")
def hIs (t : List (Str × Bool)) : Str → Option D := fun c => (t.lookup c).map D.bl
inductive TryT (K : PySem.W.Frag) (mg : Str → Option Value) (Cc : Value) : List (Str × Bool) → Prop
  | nil : TryT K mg Cc []
  | cons {x : Str} {b : Bool} {C : Addr} {t : List (Str × Bool)} (g : mg x = some (.ref C)) (e : ExcC K C) (k : PySem.W.kitOne K (.ref C) Cc = some b) (r : TryT K mg Cc t) : TryT K mg Cc ((x, b) :: t)
theorem TryT.at {K : PySem.W.Frag} {mg : Str → Option Value} {Cc : Value} {t : List (Str × Bool)} (T : TryT K mg Cc t) {x : Str} {v : D} {C : Addr} (h : hIs t x = some v) (g : mg x = some (.ref C)) :
    ExcC K C ∧ ∃ b, v = .bl b ∧ PySem.W.kitOne K (.ref C) Cc = some b := by
  induction T with
  | nil => cases h
  | @cons x' b C' t g' e k r ih =>
    unfold hIs at h ih
    rw [List.lookup_cons] at h
    by_cases q : (x == x') = true
    · rw [q] at h
      have q' : x = x' := eq_of_beq q
      subst q'
      have e2 : C' = C := by rw [g] at g'; cases g'; rfl
      subst e2
      cases h
      exact ⟨e, b, rfl, k⟩
    · rw [Bool.eq_false_iff.mpr q] at h
      exact ih h
end
def spI (C : Addr) : List Str → Sp
  | [f] => spI1 C f
  | [f, g] => spI2 C f g
  | _ => fun _ _ _ _ => False
structure ErrF (P : Program) (w : World) (K : PySem.W.Frag) (mg : Str → Option Value) (base : Heap) (x : Str) (C : Addr) (fs : List Str) : Prop where
  g : mg x = some (.ref C)
  T : OexC K C
  ini : ∃ fI fd, PySem.W.findIn K (.ref C) "__init__" = some (some (.ref fI)) ∧ PySem.W.typeIn K (.ref fI) = some (.type "function") ∧ Binds K fd (("self" : Str) :: fs) [] ∧ FnOk P w K mg base CX0 1 fI fd (("self" : Str) :: fs) (spI C fs)
section
variable {X : Cx} {E : XS} {pos : Pos}
end
theorem rd_x {F F' : Hp} (s : ∀ p o, F p = some o → (∀ fs, o ≠ .xd fs) → F' p = some o) {K : PySem.W.Frag} {a : Addr} {vs : List V} (h : SqT K F a vs) : SqT K F' a vs := by
  rcases h with h | h
  · rcases h with h | ⟨o, h⟩
    · exact .inl (.inl (s _ _ h fun _ z => nomatch z))
    · exact .inl (.inr ⟨o, s _ _ h fun _ z => nomatch z⟩)
  · exact .inr h
theorem rdl_x {F F' : Hp} (s : ∀ p o, F p = some o → (∀ fs, o ≠ .xd fs) → F' p = some o) {K : PySem.W.Frag} {a : Addr} {vs : List V} (h : SqL K F a vs) : SqL K F' a vs := by
  rcases h with h | h
  · rcases h with h | ⟨o, h⟩
    · exact .inl (.inl (s _ _ h fun _ z => nomatch z))
    · exact .inl (.inr ⟨o, s _ _ h fun _ z => nomatch z⟩)
  · exact .inr h
section
variable {K : PySem.W.Frag} {mg : Str → Option Value} {F F' H H' : Hp} {σ : L2.St} {pv : List (Nat × V)} {e : Env} {as : List (Option AT)} {held : List AT}
mutual
theorem rep_x (s : ∀ p o, F p = some o → (∀ fs, o ≠ .xd fs) → F' p = some o) : ∀ {d : D} {v : V}, Rep K mg F v d → Rep K mg F' v d
  | .non, _, h => h
  | .bl _, _, h => h
  | .int _, _, h => h
  | .str _, _, h => h
  | .ty _, _, h => h
  | .lst ds, _, ⟨p, vs, e, h1, h2⟩ => ⟨p, vs, e, s _ _ h1 (fun _ z => nomatch z), reps_x s h2⟩
  | .tup ds, _, ⟨p, vs, e, h1, h2⟩ => ⟨p, vs, e, rd_x s h1, reps_x s h2⟩
  | .dct ks ds, _, ⟨p, vs, e, h1, h3, h2⟩ => ⟨p, vs, e, s _ _ h1 (fun _ z => nomatch z), h3, reps_x s h2⟩
  | .obj c ns ds, _, ⟨p, C, dx, vs, e, h0, h1, h3, h2⟩ => ⟨p, C, dx, vs, e, h0, s _ _ h1 (fun _ z => nomatch z), h3, reps_x s h2⟩
  | .scr ns, _, ⟨p, e, h1⟩ => ⟨p, e, rdl_x s h1⟩
  | .hl, _, h => h
theorem reps_x (s : ∀ p o, F p = some o → (∀ fs, o ≠ .xd fs) → F' p = some o) : ∀ {ds : List D} {vs : List V}, Reps K mg F vs ds → Reps K mg F' vs ds
  | [], [], _ => trivial
  | _ :: _, _ :: _, ⟨h1, h2⟩ => ⟨rep_x s h1, reps_x s h2⟩
  | [], _ :: _, h => h.elim
  | _ :: _, [], h => h.elim
end
mutual
theorem ok_x (s : ∀ p o, F p = some o → (∀ fs, o ≠ .xd fs) → F' p = some o) : ∀ {t : AT}, Ok K mg F t → Ok K mg F' t
  | .fz _ _, h => rep_x s h
  | .ol _ xs, h => oks_x s h
  | .oo _ _ _ _ _ xs, ⟨h1, h2, h3⟩ => ⟨h1, h2, oks_x s h3⟩
  | .od _ _ xs, ⟨h2, h3⟩ => ⟨h2, oks_x s h3⟩
theorem oks_x (s : ∀ p o, F p = some o → (∀ fs, o ≠ .xd fs) → F' p = some o) : ∀ {ts : List AT}, Oks K mg F ts → Oks K mg F' ts
  | [], _ => trivial
  | _ :: _, ⟨h1, h2⟩ => ⟨ok_x s h1, oks_x s h2⟩
end
end
structure InSu (X : Cx) (a : Addr) (x : Exc) (C : Addr) : Prop where
  g : X.mg x.c = some (.ref C)
  ex : ∃ (oe : Obj) (od : Option Obj), (∀ pins σ H s, Inv X pins σ H s → PySem.W.InstAt s.heap a oe C od) ∧ ∀ f d, (x.ns.zip x.ds).lookup f = some d → ∃ (o : Obj) (u : Value) (v : V), od = some o ∧ imm d = some v ∧ RelV v u ∧ PySem.W.lookIn f o = some (some u)
def tAt (i : Nat) (a : Addr) (v : V) : TE := fun σ H Q => σ[i]? = some (some (.ref a)) ∧ Q v H
def SuE (X : Cx) (i : Nat) (e : Expr) (g : Exc → Option D) : Prop := ∀ (a : Addr) (x : Exc) (C : Addr) (pn : List (Addr × Obj)) (d : D), InSu (X.suite a pn) a x C → g x = some d → ∃ v, imm d = some v ∧ PE (X.suite a pn) e (tAt i a v)
def gSub (g h : Exc → Option D) : Exc → Option D := fun x => match g x, h x with
  | some (.int m), some (.int n) => some (.int (m - n))
  | _, _ => none
def gNil : Exc → Option (List D) := fun _ => some []
def gCons (g : Exc → Option D) (h : Exc → Option (List D)) : Exc → Option (List D) := fun x => match g x, h x with
  | some d, some ds => some (d :: ds)
  | _, _ => none
section
variable {X : Cx} {i : Nat} {pos p p1 p2 p3 : Pos} {n y f : Str} {e a b : Expr} {rest : List Expr}
inductive FldT (K : PySem.W.Frag) (mg : Str → Option Value) (f : Str) : List Str → Prop
  | nil : FldT K mg f []
  | cons {y : Str} {C : Addr} {t : List Str} (g : mg y = some (.ref C)) (xf : XfC K C) (no : PySem.W.findIn K (.ref C) f = some none) (r : FldT K mg f t) : FldT K mg f (y :: t)
theorem FldT.at {K : PySem.W.Frag} {mg : Str → Option Value} {t : List Str} (T : FldT K mg f t) {y : Str} {C : Addr} (h : y ∈ t) (g : mg y = some (.ref C)) : XfC K C ∧ PySem.W.findIn K (.ref C) f = some none := by
  induction T with
  | nil => cases h
  | @cons y' C' t g' xf no r ih =>
    rcases List.mem_cons.mp h with q | q
    · subst q
      rw [g] at g'
      cases g'
      exact ⟨xf, no⟩
    · exact ih q
inductive SuA (X : Cx) (i : Nat) : List Expr → (Exc → Option (List D)) → Prop
  | nil : SuA X i [] gNil
  | cons {e : Expr} {es : List Expr} {g : Exc → Option D} {h : Exc → Option (List D)} (he : SuE X i e g) (hs : ∀ env, starEach (e :: es) env = (false, eval e env) :: starEach es env) (r : SuA X i es h) : SuA X i (e :: es) (gCons g h)
end
section
variable {X : Cx} {pins : List (Addr × Obj)} {σ : L2.St} {H : Hp} {s : Shared}
end
section
variable {X : Cx} {E : XS}
end
end VF
set_option maxRecDepth 100000
set_option maxHeartbeats 4000000
namespace VF
set_option autoImplicit false
open PySem PySem.Spec PyProof.Rows L2
open AT (cells cellsL er ers)
def shownOk (p : PyData) : Bool := p.showable && (!p.hasDict && (decide (p.depth ≤ 60) && decide (p.shown.length ≤ sizeLine)))
def reprD : List D → Option D
  | [d] => (match toP d with
    | some p => if shownOk p = true then some (.str p.shown) else none
    | none => none)
  | _ => none
section
variable {X : Cx}
def rRepr (K : PySem.W.Frag) : List V → Hp → VK → Prop := fun xs H Q => ∃ v p, xs = [v] ∧ Dp K H v p ∧ shownOk p = true ∧ Q (.str p.shown) H
theorem call_reprD (hg : X.A.guards = some []) (hu : X.A.units + 64 < cLine) : CallR X (.builtin "repr") (rRepr X.K) := by
  intro pins s σ H xs us Q I r h
  obtain ⟨v, p, rfl, dp, ok, q⟩ := h
  obtain ⟨u, rfl, ru⟩ := vals1 r
  unfold shownOk at ok
  obtain ⟨h1, ok⟩ := Bool.and_eq_true_iff.mp ok
  obtain ⟨h2, ok⟩ := Bool.and_eq_true_iff.mp ok
  obtain ⟨h3, h4⟩ := Bool.and_eq_true_iff.mp ok
  have h2' : p.hasDict = false := by simpa using h2
  have h3' : p.depth ≤ 60 := of_decide_eq_true h3
  have h4' : p.shown.length ≤ sizeLine := of_decide_eq_true h4
  obtain ⟨as, rd⟩ := Dp.reads I p v u dp ru
  have big : ∀ a, u = .ref a → wpAny (model X.prog X.w) X.A (call (.builtin "repr") [u]) (EP X pins σ Q) X.xe s := fun a e => by
    subst e
    exact repr_of_reads' rd h1 (PyData.noDict_hsm h2') hg (by omega) (fun _ _ z => z) (fun h' u tk k => ⟨.str p.shown, H, I.kept (t' := tk) k, ⟨_, rfl⟩, q⟩) h4'
  cases dp with
  | non => cases ru; exact PySem.P.repr_of_none ⟨.str _, H, I.tok _, ⟨_, rfl⟩, q⟩
  | bl b => cases ru; exact PySem.P.repr_of_bool ⟨.str _, H, I.tok _, ⟨_, rfl⟩, q⟩
  | int i =>
    obtain ⟨t, rfl⟩ := ru
    exact PySem.P.repr_of_int (of_decide_eq_true h1) ⟨.str _, H, I.tok _, ⟨_, rfl⟩, q⟩
  | str x =>
    obtain ⟨t, rfl⟩ := ru
    exact PySem.P.repr_of_str ⟨.str _, H, I.tok _, ⟨_, rfl⟩, q⟩ h4'
  | lst _ _ => exact big _ ru
  | tup _ _ => exact big _ ru
end
section
variable {K : PySem.W.Frag} {mg : Str → Option Value}
theorem cbd_repr : CbD (rRepr K) K mg reprD := by
  intro H xs as d r q
  unfold reprD at q
  split at q
  · rename_i d0
    cases z : toP d0 with
    | none => rw [z] at q; cases q
    | some p =>
      rw [z] at q
      simp only at q
      by_cases ok : shownOk p = true
      · rw [if_pos ok] at q
        cases q
        cases xs with
        | nil => exact r.elim
        | cons x xs =>
          cases xs with
          | nil => exact ⟨.str p.shown, rfl, fun Q k => ⟨x, p, rfl, dp_of d0 r.1 z, ok, k⟩⟩
          | cons _ _ => exact r.2.elim
      · rw [if_neg ok] at q; cases q
  · cases q
end
section
variable {X : Cx} {E : XS} {a : Expr} {pos : Pos}
theorem v_repr {p : Pos} {es : List Expr} {mr : M (List RV)} (hgd : X.A.guards = some []) (hu : X.A.units + 64 < cLine) (hg : Gl X "repr") (hm : X.mg "repr" = none) (ha : VA X E (a :: es) mr) (he : starEach (a :: es) X.env = (false, eval a X.env) :: starEach es X.env := by rfl) (hpl : (backTo pos (starEach es X.env)).any (·.1) = false := by rfl) :
    VE X E (.Call (.Name "repr" p) (a :: es) [] pos) (dCB reprD mr) := .mk (pe_callB (call_reprD hgd hu) hg hm (by decide +kernel) ha (by decide) (by decide) he hpl) (se_cb cbd_repr sa_w)
end
def fEqS : D → D → Option D := fun a b => match a, b with
  | .str x, .str y => some (.bl (decide (x = y)))
  | _, _ => none
section
variable {X : Cx} {K : PySem.W.Frag} {mg : Str → Option Value}
theorem op_eqTx : OpR X (compareOp .Eq) (fun x y H Q => ∃ a b : Str, x = .str a ∧ y = .str b ∧ Q (.bl (decide (a = b))) H) := by
  intro pins s σ H x y v u Q I rx ry h
  obtain ⟨a, b, rfl, rfl, q⟩ := h
  obtain ⟨t, rfl⟩ := rx
  obtain ⟨t', rfl⟩ := ry
  refine PySem.P.eq_str (fin_bl I q ?_)
  by_cases c : a = b
  · subst c
    rw [decide_eq_true rfl, beq_self_eq_true]
  · have n : ¬ a.cps.toList = b.cps.toList := fun e => c (by
      cases a; cases b
      congr 1
      exact Array.toList_inj.mp e)
    rw [decide_eq_false c, beq_eq_false_iff_ne.mpr n]
theorem opd_eqS : OpD (fun x y H Q => ∃ a b : Str, x = .str a ∧ y = .str b ∧ Q (.bl (decide (a = b))) H) K mg fEqS := by
  intro H x y a b d ra rb q
  cases a <;> first | (cases b <;> cases q; done) | skip
  cases b <;> first | (cases q; done) | skip
  rename_i i j
  cases q
  exact ⟨.bl (decide (i = j)), rfl, fun Q k => ⟨i, j, ra, rb, k⟩⟩
end
section
variable {X : Cx} {E : XS} {a b : Expr} {ma mb : M RV} {pos : Pos}
theorem v_eqS (ha : VE X E a ma) (hb : VE X E b mb) : VE X E (.Compare a [.Eq] [b] pos) (dOp fEqS ma mb) := .mk (pe_cmpR op_eqTx ha hb (nomark _)) (se_op opd_eqS se_w se_w)
end
structure FnOkG (P : Program) (w : World) (K : PySem.W.Frag) (mg : Str → Option Value) (base : Heap) (k : Nat) (f : Addr) (fd : FuncData) (ps : List Str) (sp : Sp) : Prop where
  len : ∀ vs H Q, sp vs H Q L2.E0 → vs.length = ps.length
  run : ∀ (A : Around) (outer : List PySem.Env) (s : Shared) (H : Hp) (args : Args) (us : List Value) (vs : List V) (Q : VK), Room k A → A.guards = some [] → Env0 P w K mg base A outer s H → BindsTo s fd args (ps.zip us) → Vals vs us → sp vs H Q L2.E0 →
    codeAny (model P w) A (.call (.ref f) args) (CR CX0 outer P w H s Q L2.E0) s
theorem FnOkG.mono {P : Program} {w : World} {K : PySem.W.Frag} {mg : Str → Option Value} {base : Heap} {j k : Nat} {f : Addr} {fd : FuncData} {ps : List Str} {sp : Sp} (F : FnOkG P w K mg base j f fd ps sp) (h : j ≤ k) : FnOkG P w K mg base k f fd ps sp :=
  ⟨F.len, fun A outer s H args us vs Q hr => F.run A outer s H args us vs Q (hr.mono h)⟩
section
variable {X : Cx} {k : Nat} {f : Addr} {fd : FuncData} {ps : List Str} {sp : Sp} {x : Str} {p pos : Pos} {e : Expr} {es : List Expr} {t : TA}
theorem pe_callG (F : FnOkG X.prog X.w X.K X.mg X.base k f fd ps sp) (hr : Room k X.A) (hgd : X.A.guards = some []) (hg : Gl X x) (hm : X.mg x = some (.ref f)) (hk : PySem.W.keepIn X.K (.ref f) = true) (hb : Binds X.K fd ps [])
    (ha : PA X (e :: es) t) (hdb : (x == ("__debug__" : Str)) = false := by decide) (he : starEach (e :: es) X.env = (false, eval e X.env) :: starEach es X.env := by rfl) (hpl : (backTo pos (starEach es X.env)).any (·.1) = false := by rfl) :
    PE X (.Call (.Name x p) (e :: es) [] pos) (tCallS sp (fun σ cls d H => E0 cls d σ H) t) := by
  refine ⟨fun pins s σ H Q I h => wpAny_Call_Name_kw (ld_glob I hg hm ?_ hdb)⟩
  refine PySem.W.callWith_K (h₀ := X.base) I.ok.mod.kin hk (thn (ha.run pos pins s σ H _ I h) fun us s1 hh => ?_) he hpl
  obtain ⟨vs, H1, I1, rv, q⟩ := hh
  have q' : sp vs H1 Q L2.E0 := q
  refine ⟨I1.kIn, ?_⟩
  have hl : us.length = ps.length := by rw [← rv.length]; exact F.len _ _ _ q'
  have b := hb s1 us I1.kIn (by rw [List.append_nil]; exact hl)
  rw [List.append_nil] at b
  refine wpAny_call (codeAny_mono (F.run X.A X.stack s1 H1 ⟨us, []⟩ us vs Q hr hgd I1.env0 b rv q') fun r s' hq => ?_)
  cases r with
  | error _ => exact False.elim hq
  | ok fl =>
    cases fl with
    | ret u => exact I1.after hq
    | next => exact False.elim hq
    | brk => exact False.elim hq
    | cont => exact False.elim hq
end
section
variable {X : Cx} {a : Expr} {pos : Pos} {es : List Expr} {mr : M (List RV)}
theorem v_callBG {k n : Nat} {f : Addr} {fd : FuncData} {ps : List Str} {x : Str} {p : Pos} {φ : Fn} (F : FnOkG X.prog X.w X.K X.mg X.base k f fd ps (spF X.K X.mg n φ)) (hr : Room k X.A) (hgd : X.A.guards = some []) (hg : Gl X x) (hm : X.mg x = some (.ref f)) (hk : PySem.W.keepIn X.K (.ref f) = true) (hb : Binds X.K fd ps [])
    (ha : VA X E0 (a :: es) mr) (hdb : (x == ("__debug__" : Str)) = false := by decide) (he : starEach (a :: es) X.env = (false, eval a X.env) :: starEach es X.env := by rfl) (hpl : (backTo pos (starEach es X.env)).any (·.1) = false := by rfl) :
    VE X E0 (.Call (.Name x p) (a :: es) [] pos) (dCallB n φ mr) := .mk (pe_callG F hr hgd hg hm hk hb ha hdb he hpl) (se_callB sa_w)
end
end VF
set_option maxRecDepth 100000
set_option maxHeartbeats 4000000
namespace VF
set_option autoImplicit false
open PySem PySem.Spec PyProof.Rows L2
open AT (cells cellsL er ers)
theorem fn_okG {P : Program} {w : World} {K : PySem.W.Frag} {mg : Str → Option Value} {base : Heap} {x qual : Str} {params : Arguments} {body : List Stmt} {scope : Scope} {dvs : List V} {kws : List (Str × V)} {f : Addr} {fd : FuncData} {N ps : List Str} {k : Nat}
    (F : FunD K x qual params body scope dvs kws f fd) (S : FnScope N ps scope) (md : List Bool) (hl : md.length = ps.length) {m : M Fl} {n : Nat} (hN : N.length = n)
    (hb : ∀ (cdv : Value) (A : Around) (outer : List PySem.Env) (s : Shared) (H : Hp) (E : XK), Room k (A.deeper (envOfC qual scope s.heap.objs.size f cdv)) → A.guards = some [] → VB (cxOf CX0 P w K mg base N qual scope f cdv A outer s H E).nox E0 body m) :
    FnOkG P w K mg base (k + 1) f fd ps (spF K mg md.length (mkFn0 md n m)) := by
  subst hN
  obtain ⟨oc, od, dV, kV, doc, pm, an, cdv, ct, osl, rfl, lk, hcd, _, _⟩ := F.ex
  have hlen : ∀ vs H Q, spF K mg md.length (mkFn0 md N.length m) vs H Q L2.E0 → vs.length = ps.length := fun vs H Q h => by
    obtain ⟨_, ts, _, rfl, lt, _⟩ := h
    rw [← hl, ← lt]; exact List.length_map _
  refine ⟨hlen, fun A outer s H args us vs Q hr hgd e0 hbd rv h => ?_⟩
  have old : ∀ b o, base.get? b = some o → s.heap.get? b = some o := fun b o e => (e0.bs b o e).1
  have KX : K.In s.heap := e0.mod.kin.keeps old
  have kinds : ∀ y ∈ ps.zip us, scope.names.lookup y.1 = some .local ∨ (scope.names.lookup y.1 = some .cell ∧ ((cellsFrom (s.heap.objs.size + 1) scope.names []).lookup y.1).isSome = true) := fun ⟨y, z⟩ hy =>
    (S.par y (List.of_mem_zip hy).1).imp id fun q => ⟨q, PySem.W.cellsFrom_some _ _ _ (.inl q)⟩
  have h' : spF K mg md.length (mkFn md N.length m) vs H Q L2.E0 := by
    obtain ⟨F1, ts, held, e1, lt, s1, g, w1⟩ := h
    refine ⟨F1, ts, held, e1, lt, s1, g, ?_⟩
    unfold mkFn0 at w1
    cases q : mkFn md N.length m (ers ts) with
    | st => rw [q] at w1; exact w1
    | ok r as => rw [q] at w1; exact w1
    | ex x as => rw [q] at w1; exact w1.elim
  refine codeAny_call_function hr.depth (KX _ _ lk) rfl S.co S.gen rfl (PySem.W.codeRec_of KX hcd) (hbd _ _ _ _ ?_)
  refine wpAny_newFunctionEnv_cells S.kind kinds fun env he s1 y => ?_
  subst he
  refine ⟨(e0.mod.nolimit.keeps old).keeps y.toInCall.keep, codeAny_func ?_⟩
  have B := (hb cdv A outer s H L2.E0 (hr.deeper _) hgd).nox
  have I : Inv (cxOf CX0 P w K mg base N qual scope f cdv A outer s H L2.E0) [] (start N vs) H s1 := inv_start S hr.hd e0 (hlen _ _ _ h) rv y
  refine wpAny_mono (B.run [] s1 (start N vs) H _ I (body_ok (Ef := L2.E0) ss_w h')) (fun fl s' hs => ?_) fun _ _ hs => hs
  have fin : ∀ {σ' : L2.St} {H' : Hp} {v : V} {u : Value}, Inv (cxOf CX0 P w K mg base N qual scope f cdv A outer s H L2.E0) [] σ' H' s' → RelV v u → Q v H' → CE outer P w H s Q u s' :=
    fun {σ' H' v u} J r q => ⟨v, H', J.os, J.bare, J.base, J.hok, r, q⟩
  cases fl with
  | ret u => obtain ⟨v, σ', H', J, r, q⟩ := hs; exact fin J r q
  | next => obtain ⟨σ', H', J, q⟩ := hs; exact fin (v := .non) (u := .none) J rfl q
  | brk => obtain ⟨_, _, _, q⟩ := hs; exact q.elim
  | cont => obtain ⟨_, _, _, q⟩ := hs; exact q.elim
theorem law_coreG {P : Program} {w : World} {K : PySem.W.Frag} {mg mb : Str → Option Value} {k : Nat} {fa a : Addr} {fd : FuncData} {x : Str} {sp : Sp} {s : Shared} {vs : List Value} {H : Hp}
    (KX : K.In s.heap) (hns : s.heap.Ns mainGlobals mg) (hb : s.heap.Ns builtinsNs mb) (hbb : ∀ x : Str, x ≠ "__name__" → mb x = bootBuiltins x) (hlim : s.heap.NoLimit) (hg : s.gens = #[])
    (ha : s.heap.get? a = some { cls := .type "list", data := .seq vs.toArray }) (hr : Room k callerA)
    (F : ∀ base : Heap, K.In base → base.Ns mainGlobals mg → FnOkG P w K mg base k fa fd [x] sp) (hbind : BindsTo s fd ⟨[.ref a], []⟩ [(x, .ref a)])
    (hO : Only H) (hok : HOk P w H s.heap) (hA : ∀ b, H b ≠ none → b = a) (hK : H a ≠ none → K.lookup a = none) (hsp : sp [.ref a] H (fun v _ => v = .bl true) L2.E0) :
    codeAny (model P w) callerA (.call (.ref fa) ⟨[.ref a], []⟩) (fun r s' => r = .ok (.ret (.bool true)) ∧ OldK s.heap s'.heap ∧ s'.os = s.os ∧ AllBare s'.gens) s := by
  have off : ∀ {b : Addr} {o : Obj}, s.heap.get? b = some o → (∀ es, o.data ≠ .seq vs.toArray es) → H b = none := fun {b o} e n => by
    cases q : H b with
    | none => rfl
    | some u =>
      have eb := hA b (by rw [q]; exact Option.some_ne_none _)
      subst eb
      rw [ha] at e
      cases e
      exact absurd rfl (n _)
  have stays : ∀ {b : Addr} {m : Str → Option Value}, s.heap.Ns b m → (hidT s.heap H).Ns b m := fun {b m} ⟨o, es, ep, e, d, r⟩ => ⟨o, es, ep, hidT_get e (off e fun n z => by rw [d] at z; cases z), d, r⟩
  have kin : K.In (hidT s.heap H) := fun b o e => hidT_get (KX b o e) (by
    cases q : H b with
    | none => rfl
    | some u =>
      have eb := hA b (by rw [q]; exact Option.some_ne_none _)
      subst eb
      rw [hK (by rw [q]; exact Option.some_ne_none _)] at e
      cases e)
  have lim : (hidT s.heap H).NoLimit := by
    obtain ⟨mc, h1, h2⟩ := hlim
    exact ⟨mc, stays h1, h2⟩
  have e0 : Env0 P w K mg (hidT s.heap H) callerA [] s H := ⟨rfl, ⟨kin, stays hns, ⟨mb, stays hb, hbb⟩, lim⟩, fun b o e => of_hidT e, Nat.le_of_eq (hidT_size _ _), trivial, fun b h => absurd h List.not_mem_nil, hok, .of_eq hg⟩
  refine codeAny_mono ((F _ kin (stays hns)).run callerA [] s H ⟨[.ref a], []⟩ [.ref a] [.ref a] _ hr rfl e0 hbind (.cons rfl .nil) hsp) fun r s' h => ?_
  cases r with
  | error e => exact False.elim h
  | ok fl =>
    cases fl with
    | next => exact False.elim h
    | brk => exact False.elim h
    | cont => exact False.elim h
    | ret u =>
      obtain ⟨v, H', os, bare, un, hok', rv, q⟩ := h
      have q' : v = .bl true := q
      subst q'
      cases rv
      refine ⟨rfl, OldK.of_keep fun b o e => ?_, os, bare⟩
      cases z : H b with
      | none => exact un.keep b o e z (fun z => absurd z List.not_mem_nil) List.not_mem_nil
      | some u =>
        rcases hO b with z1 | ⟨ob, xs, z1⟩
        · rw [z] at z1; cases z1
        · obtain ⟨e1, _⟩ := hok b _ z1
          obtain ⟨e2, _⟩ := hok' b _ (un.frzs b ob _ z1)
          rw [e] at e1
          cases e1
          exact e2
theorem law_callG {P : Program} {w : World} {K : PySem.W.Frag} {mg mb : Str → Option Value} {k : Nat} {fa a : Addr} {fd : FuncData} {x : Str} {sp : Sp} {s : Shared} {vs : List Value} {ns : List Int}
    (KX : K.In s.heap) (hns : s.heap.Ns mainGlobals mg) (hb : s.heap.Ns builtinsNs mb) (hbb : ∀ x : Str, x ≠ "__name__" → mb x = bootBuiltins x) (hlim : s.heap.NoLimit) (hg : s.gens = #[])
    (ha : s.heap.get? a = some { cls := .type "list", data := .seq vs.toArray }) (hi : IntsAre vs ns) (hz : ns.length ≤ sizeLine) (hr : Room k callerA)
    (F : ∀ base : Heap, K.In base → base.Ns mainGlobals mg → FnOkG P w K mg base k fa fd [x] sp) (hbind : BindsTo s fd ⟨[.ref a], []⟩ [(x, .ref a)])
    (hsp : ∀ H : Hp, Only H → SqL K H a (ns.map V.int) → sp [.ref a] H (fun v _ => v = .bl true) L2.E0) :
    codeAny (model P w) callerA (.call (.ref fa) ⟨[.ref a], []⟩) (fun r s' => r = .ok (.ret (.bool true)) ∧ OldK s.heap s'.heap ∧ s'.os = s.os ∧ AllBare s'.gens) s := by
  have rv := vals_ints hi
  have core := fun (H : Hp) hO hok hA hK hS => law_coreG (sp := sp) (H := H) KX hns hb hbb hlim hg ha hr F hbind hO hok hA hK (hsp H hO hS)
  cases hk : K.lookup a with
  | some o =>
    have e := KX a o hk
    rw [ha] at e
    cases e
    exact core (fun _ => none) (fun _ => .inl rfl) (fun b u z => nomatch (show (none : Option HO) = some u from z)) (fun b z => absurd rfl z) (fun z => absurd rfl z)
      (.inr ⟨_, vs.toArray, _, hk, rfl, rfl, rfl, by rw [List.size_toArray, hi.length]; exact hz, by simpa using rv⟩)
  | none =>
    refine core (fun b => if b = a then some (.frz { cls := .type "list", data := .seq vs.toArray } (.lst (ns.map V.int))) else none) (fun b => ?_) (fun b u z => ?_) (fun b z => ?_) (fun _ => hk) (.inl (.inr ⟨{ cls := .type "list", data := .seq vs.toArray }, if_pos rfl⟩))
    · by_cases c : b = a
      · exact .inr ⟨_, _, if_pos c⟩
      · exact .inl (if_neg c)
    · by_cases c : b = a
      · cases (if_pos c).symm.trans z
        subst c
        exact ⟨ha, by rw [List.length_map]; exact hz, vs, _, rv, ha⟩
      · cases (if_neg c).symm.trans z
    · by_cases c : b = a
      · exact c
      · exact absurd (if_neg c) z
theorem walk_G {l : PySem.W.OpenLaw} {n k : Nat} {q : Program} {loose : List Str} {XP : (Str → Option Value) → Heap → Prop} {YP : World → Heap → Prop} {d : DefRec} {x : Str}
    (hn : l.most = some n) (hn2 : n ≤ sizeLine) (hdf : d.params.defaults = []) (hr : Room k callerA)
    (F : ∀ (w : World) (mg : Str → Option Value) (fa : Addr) (h : Heap), YP w h → h.Ns mainGlobals mg → mg d.name = some (.ref fa) →
      ∃ (K : PySem.W.Frag) (fd : FuncData) (sp : Sp), K.In h ∧ (∀ (s : Shared) (u : Value), BindsTo s fd ⟨[u], []⟩ [(x, u)]) ∧
        (∀ (H : Hp) (a : Addr) (ns : List Int), SqL K H a (ns.map V.int) → sp [.ref a] H (fun v _ => v = .bl true) L2.E0) ∧
        ∀ base : Heap, K.In base → base.Ns mainGlobals mg → FnOkG l.prog w K mg base k fa fd [x] sp) :
    PySem.W.WalkO q loose XP YP l.row.toRowW d [] (fun f vs => PySem.call f vs) :=
  Att.attach_call hn hdf fun w s₀ s₁ mg mb fa o pm cd doc a vs ns G Y ho hd hcd hmg hobj hints hlen hg => by
    obtain ⟨K, fd, sp, KX, hb, hsp, hF⟩ := F w mg fa _ Y G.T.g hmg
    exact law_callG KX G.T.g G.T.b G.T.builtins G.T.nolimit hg hobj hints (Nat.le_trans hlen hn2) hr hF (hb s₁ (.ref a)) fun H _ hS => hsp H a ns hS
end VF
set_option maxRecDepth 100000
set_option maxHeartbeats 4000000
namespace VF
set_option autoImplicit false
open PySem PySem.Spec PyProof.Rows L2
open AT (cells cellsL er ers)
section
variable {K : PySem.W.Frag} {mg : Str → Option Value} {F : Hp} {E : XS}
end
section
variable {X : Cx} {E : XS} {a b : Expr} {pos : Pos} {mr : M (List RV)}
end
end VF
set_option maxRecDepth 100000
set_option maxHeartbeats 4000000
namespace VF
set_option autoImplicit false
open PySem PySem.Spec PyProof.Rows L2
open NdefX (NF NScope)
section
variable {P : Program} {w : World} {K : PySem.W.Frag} {mg : Str → Option Value} {base : Heap} {C : Addr} {d : IniD} {x f g : Str} {v1 v2 : Expr} {es : List Expr} {p0 p1 p2 pos pos' q0 q1 q2 q3 r0 r1 r2 r3 jp : Pos} {ar : Arg}
end
inductive CatT (K : PySem.W.Frag) (mg : Str → Option Value) (c : Value) : List Str → Prop
  | nil : CatT K mg c []
  | cons {y : Str} {C : Addr} {t : List Str} (g : mg y = some (.ref C)) (m : PySem.W.exmOne K (.ref C) c = some true) (r : CatT K mg c t) : CatT K mg c (y :: t)
theorem CatT.at {K : PySem.W.Frag} {mg : Str → Option Value} {c : Value} {t : List Str} (T : CatT K mg c t) {y : Str} {C : Addr} (h : y ∈ t) (g : mg y = some (.ref C)) : PySem.W.exmOne K (.ref C) c = some true := by
  induction T with
  | nil => cases h
  | @cons y' C' t g' m r ih =>
    rcases List.mem_cons.mp h with q | q
    · subst q
      rw [g] at g'
      cases g'
      exact m
    · exact ih q
def gOn (t : List Str) (h : Exc → Option SV) : Exc → Option SV := fun x => if x.c ∈ t then h x else none
theorem CatT.hm {K : PySem.W.Frag} {mg : Str → Option Value} {c : Value} {t : List Str} (T : CatT K mg c t) (h : Exc → Option SV) : ∀ (y : Exc) (s : SV) (C : Addr), gOn t h y = some s → mg y.c = some (.ref C) → PySem.W.exmOne K (.ref C) c = some true := fun y s C q g => by
  unfold gOn at q
  by_cases z : y.c ∈ t
  · exact T.at z g
  · rw [if_neg z] at q; cases q
end VF
set_option maxRecDepth 100000
set_option maxHeartbeats 4000000
namespace VF
set_option autoImplicit false
open PySem PySem.Spec PyProof.Rows L2
section
variable {X : Cx} {E : XS} {a b : Expr} {ma mb : M RV} {pos : Pos}
end
end VF
set_option maxRecDepth 100000
set_option maxHeartbeats 4000000
namespace VF
set_option autoImplicit false
open PySem PySem.Spec PyProof.Rows L2
open AT (cells cellsL er ers)
section
variable {K : PySem.W.Frag} {mg : Str → Option Value} {pv : List (Nat × V)} {F F' H H' : Hp} {σ : L2.St} {e e' : Env} {as as' : List (Option AT)} {held tr ts us : List AT} {E : XS}
end
section
variable {X : Cx} {E : XS} {a : Expr} {ma : M RV} {pos : Pos}
end
end VF
set_option maxRecDepth 100000
set_option maxHeartbeats 4000000
namespace VF
set_option autoImplicit false
open PySem PySem.Spec PyProof.Rows L2
open AT (cells cellsL er ers)
section
variable {K : PySem.W.Frag} {mg : Str → Option Value} {pv : List (Nat × V)} {F F' H H' : Hp} {σ : L2.St} {e e' : Env} {as as' : List (Option AT)} {held tr ts us : List AT} {E : XS}
end
section
variable {X : Cx} {CX : CXT} {k : Nat} {f C : Addr} {fd : FuncData} {ps : List Str} {sp : Sp} {x : Str} {p pos : Pos} {e : Expr} {es : List Expr} {t : TA}
end
section
variable {X : Cx} {E : XS} {a : Expr} {pos : Pos} {es : List Expr} {mr : M (List RV)}
end
end VF
set_option maxRecDepth 100000
set_option maxHeartbeats 4000000
namespace VF
set_option autoImplicit false
open PySem PySem.Spec PyProof.Rows L2
open AT (cells cellsL er ers)
section
variable {K : PySem.W.Frag} {mg : Str → Option Value} {pv : List (Nat × V)} {F F' H H' : Hp} {σ : L2.St} {e e' : Env} {as as' : List (Option AT)} {held tr ts us : List AT} {E : XS}
def rI (op : Int → Int → Int) : V → V → Hp → VK → Prop := fun x y H Q => ∃ i j, x = .int i ∧ y = .int j ∧ Q (.int (op i j)) H
end
section
variable {X : Cx} {E : XS} {a : Expr} {ma : M RV} {pos : Pos}
end
end VF
set_option maxRecDepth 100000
set_option maxHeartbeats 4000000
namespace VF
set_option autoImplicit false
open PySem PySem.Spec PyProof.Rows L2
open AT (cells cellsL er ers)
def tLen (n : Nat) (tk : TA) : TA := fun σ H Q => tk σ H fun zs H2 => zs.length = n ∧ Q zs H2
def tAppN (n k : Nat) (t tk : TA) : TA := fun σ H Q => t σ H fun vs H1 => tk σ H1 fun zs H2 => vs.length = n ∧ zs.length = k ∧ Q (vs ++ zs) H2
def tPlus (t : TA) (dvs : List V) : TA := fun σ H Q => t σ H fun vs H1 => Q (vs ++ dvs) H1
structure VKw (X : Cx) (E : XS) (kws : List Keyword) (n : Nat) (m : M (List RV)) : Prop where
  go : ∃ tk, PK X kws tk ∧ SA X.K X.mg E (tLen n tk) m
structure VAK (X : Cx) (E : XS) (es : List Expr) (kws : List Keyword) (n k : Nat) (m : M (List RV)) : Prop where
  go : ∃ t tk, L2.PA X es t ∧ PK X kws tk ∧ SA X.K X.mg E (tAppN n k t tk) m
structure VAD (X : Cx) (E : XS) (es : List Expr) (dvs : List V) (m : M (List RV)) : Prop where
  go : ∃ t, L2.PA X es t ∧ SA X.K X.mg E (tPlus t dvs) m
section
variable {X : Cx} {E : XS} {a : Expr} {es : List Expr} {kws : List Keyword} {ma : M RV} {mr : M (List RV)} {nm : Option Str} {kpos pos : Pos} {n k : Nat} {dvs : List V}
end
section
variable {X : Cx} {CX : CXT} {k n : Nat} {f : Addr} {fd : FuncData} {ps ks : List Str} {sp : Sp} {x : Str} {p pos : Pos} {e : Expr} {es : List Expr} {kws : List Keyword} {t tk : TA} {dvs : List V} {ds : List Value}
variable {E : XS} {md : List Bool} {φ : Fn} {mr : M (List RV)}
end
section
variable {K : PySem.W.Frag} {x qual : Str} {params : Arguments} {body : List Stmt} {scope : Scope} {kws : List (Str × V)} {f : Addr} {fd : FuncData} {ps ks : List Str} {n : Nat}
end
end VF
set_option maxRecDepth 100000
set_option maxHeartbeats 4000000
namespace L2
open PySem PySem.Spec PyProof.Rows
section
variable {prog : Program} {w : World} {A : Around} {R : Result → Shared → Prop} {s : Shared} {elt : Expr} {gens : List Comprehension} {g : Comprehension} {scope : Scope} {pos : Pos} {it acc : Value} {env : Env} {k : Nat}
end
structure ClR where
  wi : TI
  g : TG
  tt : TT
  vs : List Nat
inductive ClOk (B : Cx) : List Nat → List ClR → List Comprehension → Prop
  | nil {own : List Nat} : ClOk B own [] []
  | cons {own : List Nat} {c : ClR} {g : Comprehension} {cs : List ClR} {gs : List Comprehension} : PI B g.target g.iter c.wi → PG B g.target c.g → PTs B g.ifs c.tt → (∀ env x, foldedSetIterable g.iter env x = pure x) → g.is_async = 0 → (∀ i ∈ c.vs, i ∈ own) → ClOk B c.vs cs gs → ClOk B own (c :: cs) (g :: gs)
section
variable {X : Cx}
end
end L2
set_option maxRecDepth 100000
set_option maxHeartbeats 4000000
namespace VF
set_option autoImplicit false
open PySem PySem.Spec PyProof.Rows L2
open AT (cells cellsL er ers)
structure ClM where
  mi : M (List D)
  g : Tg
  mt : M Bool
  vs : List Nat
section
variable {K : PySem.W.Frag} {mg : Str → Option Value}
inductive ClV (K : PySem.W.Frag) (mg : Str → Option Value) : List Nat → List ClR → List ClM → Prop
  | nil {own : List Nat} : ClV K mg own [] []
  | cons {own L : List Nat} {c : ClR} {m : ClM} {cs : List ClR} {ms : List ClM} : SI K mg E0 c.wi m.mi → SG K mg L c.g m.g → (∀ i ∈ L, i ∈ m.vs) → ST K mg E0 c.tt m.mt → c.vs = m.vs → (∀ i ∈ m.vs, i ∈ own) → ClV K mg m.vs cs ms → ClV K mg own (c :: cs) (m :: ms)
variable {pv : List (Nat × V)} {held : List AT}
end
section
def wI (K : PySem.W.Frag) (mg : Str → Option Value) (E : XS) (m : M (List D)) : TI := fun σ H R => ∃ pv F e as held, Cf K mg pv F H σ e as held ∧ WI K mg pv F held σ R E (m e)
theorem VI.w {X : Cx} {E : XS} {tg it : Expr} {m : M (List D)} (h : VI X E tg it m) : PI X tg it (wI X.K X.mg E m) := by
  obtain ⟨t, p, s⟩ := h
  exact ⟨fun pins s0 σ H R I ⟨pv, F, e, as, held, c, w⟩ => p.run pins s0 σ H R I (s pv F H σ e as held R c w)⟩
theorem VG.more {X : Cx} {L L' : List Nat} {tg : Expr} {g : Tg} (h : VG X L tg g) (hl : ∀ i ∈ L, i ∈ L') : VG X L' tg g :=
  ⟨fun pins s0 σ H v u Q I r ⟨pv, F, e, as, held, d, e', c, rp, q, k⟩ => h.run pins s0 σ H v u Q I r ⟨pv, F, e, as, held, d, e', c, rp, q, fun σ' as' hw c' => k σ' as' (fun vs hv => hw vs fun i hi => hv i (hl i hi)) c'⟩⟩
variable {X : Cx} {E : XS}
variable {tg it : Expr} {mi : M (List D)} {g : Tg} {L : List Nat} {me : M RV} {pos : Pos}
end
end VF
set_option maxRecDepth 100000
set_option maxHeartbeats 4000000
namespace VF
set_option autoImplicit false
open PySem PySem.Spec PyProof.Rows L2
open AT (cells cellsL er ers)
def AT.kids : AT → List AT
  | .fz _ _ => []
  | .ol _ xs => xs
  | .oo _ _ _ _ _ xs => xs
  | .od _ _ xs => xs
def AT.setKid (t : AT) (k : Nat) (u : AT) : AT := match t with
  | .fz v d => .fz v d
  | .ol p xs => .ol p (xs.set k u)
  | .oo p C dx c ns xs => .oo p C dx c ns (xs.set k u)
  | .od p ks xs => .od p ks (xs.set k u)
def AT.sub : List Nat → AT → Option AT
  | [], t => some t
  | k :: p, t => match t.kids[k]? with
    | some c => AT.sub p c
    | none => none
def AT.put : List Nat → AT → AT → AT
  | [], u, _ => u
  | k :: p, u, t => match t.kids[k]? with
    | some c => t.setKid k (AT.put p u c)
    | none => t
def SV.kids : SV → List SV
  | .fz _ => []
  | .ol xs => xs
  | .oo _ _ xs => xs
  | .od _ xs => xs
def SV.setKid (t : SV) (k : Nat) (u : SV) : SV := match t with
  | .fz d => .fz d
  | .ol xs => .ol (xs.set k u)
  | .oo c ns xs => .oo c ns (xs.set k u)
  | .od ks xs => .od ks (xs.set k u)
def SV.sub : List Nat → SV → Option SV
  | [], t => some t
  | k :: p, t => match t.kids[k]? with
    | some c => SV.sub p c
    | none => none
def SV.put : List Nat → SV → SV → SV
  | [], u, _ => u
  | k :: p, u, t => match t.kids[k]? with
    | some c => t.setKid k (SV.put p u c)
    | none => t
theorem perm_at {α : Type} : ∀ {xs : List α} {k : Nat} {c : α}, xs[k]? = some c → xs.Perm (c :: xs.eraseIdx k)
  | x :: xs, 0, c, h => by
    have e : x = c := by simpa using h
    subst e; exact List.Perm.refl _
  | x :: xs, k + 1, c, h => (((perm_at (xs := xs) (k := k) (by simpa using h)).cons x).trans (List.Perm.swap _ _ _))
theorem perm_setk {α : Type} : ∀ {xs : List α} {k : Nat} {c : α} (u : α), xs[k]? = some c → (xs.set k u).Perm (u :: xs.eraseIdx k)
  | x :: xs, 0, c, u, h => List.Perm.refl _
  | x :: xs, k + 1, c, u, h => (((perm_setk (xs := xs) (k := k) u (by simpa using h)).cons x).trans (List.Perm.swap _ _ _))
theorem vals_set {xs : List AT} {k : Nat} {c u : AT} (h : xs[k]? = some c) (e : u.val = c.val) : vals (xs.set k u) = vals xs := by
  unfold vals
  rw [List.map_set]
  refine List.ext_getElem? fun i => ?_
  rw [List.getElem?_set]
  split
  · rename_i q
    subst q
    split
    · rw [List.getElem?_map, h, Option.map_some, e]
    · rename_i hl
      rw [List.getElem?_eq_none_iff.mpr (by omega)]
  · rfl
theorem setKid_val (k : Nat) (u t : AT) : (t.setKid k u).val = t.val := by cases t <;> rfl
theorem put_val : ∀ {p : List Nat} {u t s : AT}, AT.sub p t = some s → u.val = s.val → (AT.put p u t).val = t.val
  | [], u, t, s, h, e => by cases h; exact e
  | k :: p, u, t, s, h, e => by
    unfold AT.sub at h
    unfold AT.put
    cases q : t.kids[k]? with
    | none => rfl
    | some c => exact setKid_val _ _ _
theorem kid_cells {t c : AT} {k : Nat} (h : t.kids[k]? = some c) : ∃ ctx, (cells t).Perm (ctx ++ cells c) ∧ ∀ u : AT, u.val = c.val → (cells (t.setKid k u)).Perm (ctx ++ cells u) := by
  have key : ∀ (xs : List AT) (root : Addr × HO), xs[k]? = some c → (root :: cellsL xs).Perm ((root :: cellsL (xs.eraseIdx k)) ++ cells c) ∧ ∀ u : AT, (root :: cellsL (xs.set k u)).Perm ((root :: cellsL (xs.eraseIdx k)) ++ cells u) := fun xs root hx => by
    have mv : ∀ u : AT, (cellsL (u :: xs.eraseIdx k)).Perm (cellsL (xs.eraseIdx k) ++ cells u) := fun u => List.perm_append_comm
    exact ⟨((cellsL_perm (perm_at hx)).trans (mv c)).cons root, fun u => ((cellsL_perm (perm_setk u hx)).trans (mv u)).cons root⟩
  cases t with
  | fz v d => simp [AT.kids] at h
  | ol p xs =>
    obtain ⟨h1, h2⟩ := key xs (p, .lst (vals xs)) h
    refine ⟨_, h1, fun u e => ?_⟩
    show ((p, HO.lst (vals (xs.set k u))) :: cellsL (xs.set k u)).Perm _
    rw [vals_set (xs := xs) (k := k) (c := c) h e]; exact h2 u
  | oo p C dx c' ns xs =>
    obtain ⟨h1, h2⟩ := key xs (p, .ins C dx (ns.zip (vals xs))) h
    refine ⟨_, h1, fun u e => ?_⟩
    show ((p, HO.ins C dx (ns.zip (vals (xs.set k u)))) :: cellsL (xs.set k u)).Perm _
    rw [vals_set (xs := xs) (k := k) (c := c) h e]; exact h2 u
  | od p ks xs =>
    obtain ⟨h1, h2⟩ := key xs (p, .dK (ks.zip (vals xs))) h
    refine ⟨_, h1, fun u e => ?_⟩
    show ((p, HO.dK (ks.zip (vals (xs.set k u)))) :: cellsL (xs.set k u)).Perm _
    rw [vals_set (xs := xs) (k := k) (c := c) h e]; exact h2 u
theorem sub_cells : ∀ {p : List Nat} {t s : AT}, AT.sub p t = some s → ∃ ctx, (cells t).Perm (ctx ++ cells s) ∧ ∀ u : AT, u.val = s.val → (cells (AT.put p u t)).Perm (ctx ++ cells u)
  | [], t, s, h => by cases h; exact ⟨[], List.Perm.refl _, fun u _ => List.Perm.refl _⟩
  | k :: p, t, s, h => by
    unfold AT.sub at h
    cases q : t.kids[k]? with
    | none => rw [q] at h; cases h
    | some c =>
      rw [q] at h
      obtain ⟨c1, a1, a2⟩ := kid_cells q
      obtain ⟨c2, b1, b2⟩ := sub_cells (p := p) h
      refine ⟨c1 ++ c2, ?_, fun u e => ?_⟩
      · rw [List.append_assoc]; exact a1.trans (b1.append_left c1)
      · unfold AT.put
        rw [q, List.append_assoc]
        exact (a2 _ (put_val h e)).trans ((b2 u e).append_left c1)
section
variable {K : PySem.W.Frag} {mg : Str → Option Value} {pv : List (Nat × V)} {F F' H H' : Hp} {σ : L2.St} {e e' : Env} {as as' : List (Option AT)} {held tr ts us : List AT} {E : XS}
theorem kid_ok {t c : AT} {k : Nat} (h : t.kids[k]? = some c) (ok : Ok K mg F t) : Ok K mg F c ∧ ∀ u : AT, Ok K mg F u → Ok K mg F (t.setKid k u) := by
  have key : ∀ xs : List AT, xs[k]? = some c → Oks K mg F xs → Ok K mg F c ∧ ∀ u : AT, Ok K mg F u → Oks K mg F (xs.set k u) := fun xs hx ok => ⟨Oks.mem.mp ok c (List.mem_of_getElem? hx), fun u hu => Oks.mem.mpr fun t ht => by
    rcases List.mem_or_eq_of_mem_set ht with z | z
    · exact Oks.mem.mp ok t z
    · rw [z]; exact hu⟩
  cases t with
  | fz v d => simp [AT.kids] at h
  | ol p xs => exact key xs h ok
  | oo p C dx c' ns xs => exact ⟨(key xs h ok.2.2).1, fun u hu => ⟨ok.1, by rw [List.length_set]; exact ok.2.1, (key xs h ok.2.2).2 u hu⟩⟩
  | od p ks xs => exact ⟨(key xs h ok.2).1, fun u hu => ⟨by rw [List.length_set]; exact ok.1, (key xs h ok.2).2 u hu⟩⟩
theorem sub_ok : ∀ {p : List Nat} {t s : AT}, AT.sub p t = some s → Ok K mg F t → Ok K mg F s ∧ ∀ u : AT, Ok K mg F u → Ok K mg F (AT.put p u t)
  | [], t, s, h, ok => by cases h; exact ⟨ok, fun u hu => hu⟩
  | k :: p, t, s, h, ok => by
    unfold AT.sub at h
    cases q : t.kids[k]? with
    | none => rw [q] at h; cases h
    | some c =>
      rw [q] at h
      obtain ⟨a1, a2⟩ := kid_ok q ok
      obtain ⟨b1, b2⟩ := sub_ok (p := p) h a1
      refine ⟨b1, fun u hu => ?_⟩
      unfold AT.put
      rw [q]
      exact a2 _ (b2 u hu)
theorem Good.part {p : List Nat} {t s u : AT} {as bs : List AT} (g : Good K mg F H (t :: us)) (h : AT.sub p t = some s) (hv : u.val = s.val) (hc : (cells s).Perm (cells u ++ cellsL as)) (hu : Ok K mg F u) (ha : Oks K mg F as) : Good K mg F H (AT.put p u t :: (as ++ us)) := by
  obtain ⟨ctx, h1, h2⟩ := sub_cells h
  have pm : (cellsL (t :: us)).Perm (cellsL (AT.put p u t :: (as ++ us))) := by
    show (cells t ++ cellsL us).Perm (cells (AT.put p u t) ++ cellsL (as ++ us))
    rw [cellsL_append, ← List.append_assoc]
    refine List.Perm.append_right _ ?_
    refine (h1.trans (hc.append_left ctx)).trans ?_
    rw [← List.append_assoc]
    exact ((h2 u hv).symm).append_right _
  refine ⟨fun c hc => g.at_ c (pm.mem_iff.mpr hc), ⟨(sub_ok h g.ok.1).2 u hu, Oks.append.mpr ⟨ha, g.ok.2⟩⟩, ((pm.map _).nodup_iff).mp g.nd⟩
theorem set_set {k : Nat} {t u w : AT} : (t.setKid k u).setKid k w = t.setKid k w := by
  cases t with
  | fz v d => rfl
  | ol a xs => show AT.ol a ((xs.set k u).set k w) = .ol a (xs.set k w); rw [List.set_set]
  | oo a C dx c' ns xs => show AT.oo a C dx c' ns ((xs.set k u).set k w) = .oo a C dx c' ns (xs.set k w); rw [List.set_set]
  | od a ks xs => show AT.od a ks ((xs.set k u).set k w) = .od a ks (xs.set k w); rw [List.set_set]
end
end VF
set_option maxRecDepth 100000
set_option maxHeartbeats 4000000
namespace VF
set_option autoImplicit false
open PySem PySem.Spec PyProof.Rows L2
open AT (cells cellsL er ers)
section
variable (K : PySem.W.Frag) (mg : Str → Option Value)
def WEj (j : Nat) (tj : AT) (pv : List (Nat × V)) (F : Hp) (held : List AT) (σ : L2.St) (Q : VK) (E : XS) : R RV → Prop
  | .st => False
  | .ok r e' => ∀ v F' H' as' tr, Same F F' → as'[j]? = some (some tj) → Cf K mg pv F' H' σ e' as' (tr ++ held) → RR σ v r tr → Q v H'
  | .ex x e' => WX K mg pv F held E x e'
def WAj (j : Nat) (tj : AT) (pv : List (Nat × V)) (F : Hp) (held : List AT) (σ : L2.St) (Q : List V → Hp → Prop) (E : XS) : R (List RV) → Prop
  | .st => False
  | .ok rs e' => ∀ vs F' H' as' tr, Same F F' → as'[j]? = some (some tj) → Cf K mg pv F' H' σ e' as' (tr ++ held) → RRs σ vs rs tr → Q vs H'
  | .ex x e' => WX K mg pv F held E x e'
def SEj (j : Nat) (E : XS) (t : TE) (m : M RV) : Prop := ∀ pv F H σ e as held tj Q, as[j]? = some (some tj) → Cf K mg pv F H σ e as held → WEj K mg j tj pv F held σ Q E (m e) → t σ H Q
def SAj (j : Nat) (E : XS) (t : TA) (m : M (List RV)) : Prop := ∀ pv F H σ e as held tj Q, as[j]? = some (some tj) → Cf K mg pv F H σ e as held → WAj K mg j tj pv F held σ Q E (m e) → t σ H Q
end
theorem bind_ok29 {α β : Type} (a : α) (e : VF.Env) (f : α → M β) : (R.ok a e).bind f = f a e := rfl
section
variable {K : PySem.W.Frag} {mg : Str → Option Value} {pv : List (Nat × V)} {F F' H H' : Hp} {σ : L2.St} {e e' : Env} {as as' : List (Option AT)} {held tr ts us : List AT} {E : XS}
end
end VF
set_option maxRecDepth 100000
set_option maxHeartbeats 4000000
namespace VF
set_option autoImplicit false
open PySem PySem.Spec PyProof.Rows L2
open AT (cells cellsL er ers)
section
variable {K : PySem.W.Frag} {mg : Str → Option Value} {pv : List (Nat × V)} {F F' H H' : Hp} {σ : L2.St} {e e' : Env} {as as' : List (Option AT)} {held tr ts us : List AT} {E : XS}
end
section
variable {K : PySem.W.Frag} {mg : Str → Option Value} {F H : Hp} {σ : L2.St} {us : List AT}
end
end VF
set_option maxRecDepth 100000
set_option maxHeartbeats 4000000
namespace VF
set_option autoImplicit false
open PySem PySem.Spec PyProof.Rows L2
open AT (cells cellsL er ers)
section
variable {K : PySem.W.Frag} {mg : Str → Option Value} {pv : List (Nat × V)} {F F' H H' : Hp} {σ : L2.St} {e e' : Env} {as as' : List (Option AT)} {held tr ts us : List AT} {E : XS}
end
end VF
set_option maxRecDepth 100000
set_option maxHeartbeats 4000000
namespace VF
set_option autoImplicit false
open PySem PySem.Spec PyProof.Rows L2
open AT (cells cellsL er ers)
structure VEj (X : Cx) (j : Nat) (E : XS) (e : Expr) (m : M RV) : Prop where
  go : ∃ t, PE X e t ∧ SEj X.K X.mg j E t m
structure VAj (X : Cx) (j : Nat) (E : XS) (es : List Expr) (m : M (List RV)) : Prop where
  go : ∃ t, L2.PA X es t ∧ SAj X.K X.mg j E t m
section
variable {X : Cx} {E : XS} {a : Expr} {es : List Expr} {ma : M RV} {mr : M (List RV)} {pos : Pos} {j : Nat}
variable {CX : CXT} {k : Nat} {f : Addr} {fd : FuncData} {ps : List Str} {x y : Str} {p p1 p2 : Pos} {md : List Bool} {φ : Fn} {φL : SV → Option D}
end
end VF
set_option maxRecDepth 100000
set_option maxHeartbeats 4000000
namespace VF
set_option autoImplicit false
open PySem PySem.Spec PyProof.Rows L2
open AT (cells cellsL er ers)
section
variable {K : PySem.W.Frag} {mg : Str → Option Value} {E : XS}
end
end VF
set_option maxRecDepth 100000
set_option maxHeartbeats 4000000
namespace VF
set_option autoImplicit false
open PySem PySem.Spec PyProof.Rows L2
open AT (cells cellsL er ers)
abbrev Key := L2.Key
def kIx (k : Key) (ks : List Key) : Option Nat := ks.findIdx? fun n => decide (n = k)
theorem valV_idx {k : Key} : ∀ {ks : List Key} {vs : List V} {i : Nat} {v : V}, kIx k ks = some i → vs[i]? = some v → valV (ks.zip vs) k = some v
  | [], _, _, _, h, _ => by simp [kIx] at h
  | n :: ns, [], i, v, _, hx => by simp at hx
  | n :: ns, y :: vs, i, v, h, hx => by
    unfold kIx at h
    rw [List.findIdx?_cons] at h
    rw [List.zip_cons_cons]
    by_cases c : n = k
    · rw [decide_eq_true c] at h
      simp only [if_true, Option.some.injEq] at h
      subst h
      rw [valV_pos (p := (n, y)) c]
      simpa using hx
    · rw [decide_eq_false c] at h
      simp only [Bool.false_eq_true, if_false] at h
      rw [valV_neg (p := (n, y)) c]
      cases q : ns.findIdx? (fun n => decide (n = k)) with
      | none => rw [q] at h; cases h
      | some j =>
        rw [q] at h
        have : j + 1 = i := by simpa using h
        subst this
        exact valV_idx (i := j) q (by simpa using hx)
def getKD (k : Key) : D → Option D
  | .dct ks xs => (match kIx k ks with
    | some j => xs[j]?
    | none => none)
  | _ => none
def getKS (k : Key) : SV → Option D
  | .fz d => getKD k d
  | .od ks xs => (match kIx k ks with
    | some j => (match xs[j]? with
      | some (.fz d) => some d
      | _ => none)
    | none => none)
  | _ => none
def getKR (k : Key) (e : Env) : RV → Option D
  | .fz d => getKD k d
  | .own s => getKS k s
  | .var j => match e.sl[j]? with
    | some (some s) => getKS k s
    | _ => none
section
variable {K : PySem.W.Frag} {mg : Str → Option Value} {pv : List (Nat × V)} {F F' H H' : Hp} {σ : L2.St} {e e' : Env} {as as' : List (Option AT)} {held tr ts us : List AT} {E : XS}
theorem reps_at : ∀ {vs : List V} {ds : List D} {i : Nat} {d : D}, Reps K mg F vs ds → ds[i]? = some d → ∃ v, vs[i]? = some v ∧ Rep K mg F v d
  | v :: vs, d :: ds, 0, x, ⟨h1, _⟩, q => by
    have : d = x := by simpa using q
    subst this
    exact ⟨v, rfl, h1⟩
  | v :: vs, d :: ds, i + 1, x, ⟨_, h2⟩, q => reps_at (i := i) h2 (by simpa using q)
  | [], [], _, _, _, q => by simp at q
  | [], _ :: _, _, _, h, _ => h.elim
  | _ :: _, [], _, _, h, _ => h.elim
theorem getK_data {k : Key} {v : V} {d x : D} (s : Same F H) (h : Rep K mg F v d) (q : getKD k d = some x) : ∃ a y, v = .ref a ∧ Rep K mg F y x ∧ DGet H a (kV k) (some y) := by
  cases d with
  | dct ks ds =>
    obtain ⟨p, vs, e, h1, h3, h2⟩ := h
    subst e
    unfold getKD at q
    cases z : kIx k ks with
    | none => simp only [z] at q; cases q
    | some j =>
      simp only [z] at q
      obtain ⟨y, hy, ry⟩ := reps_at h2 q
      refine ⟨p, y, rfl, ry, ?_⟩
      have := DGet.k (k := k) (s _ _ h1)
      rwa [valV_idx z hy] at this
  | _ => cases q
theorem getK_tree {k : Key} {t : AT} {x : D} (g : Good K mg F H us) (hm : t ∈ us) (s : Same F H) (q : getKS k (er t) = some x) : ∃ a y, t.val = .ref a ∧ Rep K mg F y x ∧ DGet H a (kV k) (some y) := by
  have ok := Oks.mem.mp g.ok t hm
  cases t with
  | fz v d => exact getK_data s ok q
  | od p ks xs =>
    have hp : H p = some (.dK (ks.zip (vals xs))) := (g.at_ (p, .dK (ks.zip (vals xs))) (by rw [cellsL_eq]; exact List.mem_flatMap.mpr ⟨_, hm, List.mem_cons_self⟩)).1
    obtain ⟨o1, o2⟩ := (show ks.length = xs.length ∧ Oks K mg F xs from ok)
    have q' : (match kIx k ks with | some j => (match (ers xs)[j]? with | some (.fz d) => some d | _ => none) | none => none) = some x := q
    cases z : kIx k ks with
    | none => simp only [z] at q'; cases q'
    | some j =>
      simp only [z] at q'
      rw [ers_eq, List.getElem?_map] at q'
      cases z2 : xs[j]? with
      | none => rw [z2] at q'; cases q'
      | some u =>
        rw [z2] at q'
        cases u with
        | fz v d =>
          have ed : d = x := by simpa [er] using q'
          subst ed
          refine ⟨p, v, rfl, Oks.mem.mp o2 _ (List.mem_of_getElem? z2), ?_⟩
          have := DGet.k (k := k) hp
          rwa [valV_idx z (v := v) (by show (xs.map AT.val)[j]? = _; rw [List.getElem?_map, z2]; rfl)] at this
        | ol _ _ => simp [er] at q'
        | oo _ _ _ _ _ _ => simp [er] at q'
        | od _ _ _ => simp [er] at q'
  | ol _ _ => cases q
  | oo _ _ _ _ _ _ => cases q
theorem Cf.getK {k : Key} {v : V} {r : RV} {x : D} (c : Cf K mg pv F H σ e as held) (h : RR σ v r tr) (hm : ∀ t ∈ tr, t ∈ held) (q : getKR k e r = some x) : ∃ a y, v = .ref a ∧ Rep K mg F y x ∧ DGet H a (kV k) (some y) := by
  cases r with
  | fz d =>
    have e1 : tr = [.fz v d] := h
    subst e1
    exact getK_tree (t := .fz v d) c.g (List.mem_append_right _ (hm _ List.mem_cons_self)) c.s q
  | own s =>
    obtain ⟨t, e1, e2, e3⟩ := h
    subst e1 e2 e3
    exact getK_tree c.g (List.mem_append_right _ (hm _ List.mem_cons_self)) c.s q
  | var j =>
    obtain ⟨_, hv⟩ := h
    have q' : (match e.sl[j]? with | some (some s) => getKS k s | _ => none) = some x := q
    cases z : e.sl[j]? with
    | none => rw [z] at q'; cases q'
    | some o =>
      cases o with
      | none => rw [z] at q'; cases q'
      | some s =>
        rw [z] at q'
        obtain ⟨t, ht, e5⟩ := c.r.slotOf z
        have hv2 := c.r.at_ j t ht
        rw [hv] at hv2
        have e6 : v = t.val := by simpa using hv2
        subst e5 e6
        exact getK_tree c.g (List.mem_append_left _ (mem_opts ht)) c.s q'
theorem Good.newK {p : Addr} (g : Good K mg F H us) (s : Same F H) (h : H p = none) : Good K mg F (upd H p (.dK [])) (.od p [] [] :: us) := by
  have g2 := g.grow (o := .dK []) h
  refine ⟨fun c hc => ?_, ⟨⟨rfl, trivial⟩, g.ok⟩, ?_⟩
  · have hc' : c ∈ (p, HO.dK []) :: cellsL us := hc
    rcases List.mem_cons.mp hc' with q | q
    · subst q; exact ⟨upd_same, s.free h⟩
    · exact g2.at_ c q
  · show (((p, HO.dK []) :: cellsL us).map (·.1)).Nodup
    rw [List.map_cons, List.nodup_cons]
    refine ⟨fun q => ?_, g.nd⟩
    obtain ⟨c, hc, ep⟩ := List.mem_map.mp q
    exact (ne_of_none (g.at_ c hc).1 h) ep
theorem Good.redict {p : Addr} {ks ks' : List Key} {xs ys zs junk : List AT} (g : Good K mg F H (.od p ks xs :: us)) (pm : (xs ++ us).Perm (junk ++ (ys ++ zs))) (hl : ks'.length = ys.length) : Good K mg F (upd H p (.dK (ks'.zip (vals ys)))) (.od p ks' ys :: zs) := by
  have nd : (((p, HO.dK (ks.zip (vals xs))) :: (cellsL xs ++ cellsL us)).map (·.1)).Nodup := g.nd
  rw [List.map_cons, List.nodup_cons, ← cellsL_append] at nd
  have okx : ks.length = xs.length ∧ Oks K mg F xs := g.ok.1
  have g1 : Good K mg F H (xs ++ us) := ⟨fun c hc => g.at_ c (List.mem_cons_of_mem _ (by rw [cellsL_append] at hc; exact hc)), Oks.append.mpr ⟨okx.2, g.ok.2⟩, nd.2⟩
  have g2 : Good K mg F H (ys ++ zs) := (g1.perm pm).sub
  have mem : ∀ c ∈ cellsL (ys ++ zs), c ∈ cellsL (xs ++ us) := fun c hc => (cellsL_perm pm).mem_iff.mpr (by rw [cellsL_append]; exact List.mem_append_right _ hc)
  have hp : ∀ c ∈ cellsL (ys ++ zs), c.1 ≠ p := fun c hc q => nd.1 (List.mem_map.mpr ⟨c, mem c hc, q⟩)
  have ok := Oks.append.mp g2.ok
  have hF : F p = none := (g.at_ (p, .dK (ks.zip (vals xs))) List.mem_cons_self).2
  refine ⟨fun c hc => ?_, ⟨⟨hl, ok.1⟩, ok.2⟩, ?_⟩
  · have hc' : c ∈ (p, HO.dK (ks'.zip (vals ys))) :: (cellsL ys ++ cellsL zs) := hc
    rcases List.mem_cons.mp hc' with e | hc'
    · subst e; exact ⟨upd_same, hF⟩
    · rw [← cellsL_append] at hc'
      rw [upd_ne (hp c hc')]
      exact g2.at_ c hc'
  · show (((p, HO.dK (ks'.zip (vals ys))) :: (cellsL ys ++ cellsL zs)).map (·.1)).Nodup
    rw [List.map_cons, List.nodup_cons, ← cellsL_append]
    exact ⟨fun q => by obtain ⟨c, hc, ec⟩ := List.mem_map.mp q; exact hp c hc ec, g2.nd⟩
def dDisp (ks : List Key) (md : List Bool) (a : M (List RV)) : M RV := a.bind fun rs e => match load md rs e with
  | some (ss, e1) => if ks.length = ss.length ∧ ks.length ≤ 15 ∧ ks.Nodup then .ok (.own (.od ks ss)) e1 else .st
  | none => .st
def tPs : List Key → List TE → List (TE × TE)
  | k :: ks, t :: ts => (tC (kV k), t) :: tPs ks ts
  | _, _ => []
def SPs (K : PySem.W.Frag) (mg : Str → Option Value) (E : XS) (ks : List Key) (ts : List TE) (m : M (List RV)) : Prop := ∀ pv F H σ e as held (Q : List (V × V) → Hp → Prop), Cf K mg pv F H σ e as held → WA K mg pv F held σ (fun vs H => vs.length = ks.length → Q ((ks.map kV).zip vs) H) E (m e) → tPairs (tPs ks ts) σ H Q
theorem sps_nil : SPs K mg E [] [] dNil := fun pv F H σ e as held Q c w => w [] F H as [] (Same.refl _) c rfl rfl
theorem sps_cons {k : Key} {ks : List Key} {t : TE} {ts : List TE} {ma : M RV} {mb : M (List RV)} (ha : SE K mg E t ma) (hb : SPs K mg E ks ts mb) : SPs K mg E (k :: ks) (t :: ts) (dCons ma mb) := by
  intro pv F H σ e as held Q c w
  show t σ H fun y H2 => tPairs (tPs ks ts) σ H2 fun ps H3 => Q ((kV k, y) :: ps) H3
  refine ha pv F H σ e as held _ c ?_
  have w' : WA K mg pv F held σ (fun vs H => vs.length = (k :: ks).length → Q (((k :: ks).map kV).zip vs) H) E ((ma e).bind fun r e1 => (mb e1).bind fun rs e2 => .ok (r :: rs) e2) := w
  cases q : ma e with
  | st => rw [q] at w'; exact w'.elim
  | ex x e1 => rw [q] at w'; exact w'
  | ok r e1 =>
    rw [q] at w'
    intro v1 F1 H1 as1 tr1 s1 c1 rr1
    refine hb pv F1 H1 σ e1 as1 (tr1 ++ held) _ c1 ?_
    have w2 : WA K mg pv F held σ (fun vs H => vs.length = (k :: ks).length → Q (((k :: ks).map kV).zip vs) H) E ((mb e1).bind fun rs e2 => .ok (r :: rs) e2) := w'
    cases q2 : mb e1 with
    | st => rw [q2] at w2; exact w2.elim
    | ex x e2 => rw [q2] at w2; exact (WX.mono s1 w2).drop
    | ok rs e2 =>
      rw [q2] at w2
      intro v2 F2 H2 as2 tr2 s2 c2 rr2 hl
      exact w2 (v1 :: v2) F2 H2 as2 (tr2 ++ tr1) (s1.trans s2) (by rw [List.append_assoc]; exact c2) ⟨tr1, tr2, rfl, rr1, rr2⟩ (by simp [hl])
theorem merge_nd : ∀ (kvs acc : List (Key × V)), ((acc ++ kvs).map (·.1)).Nodup → mergeK acc kvs = acc ++ kvs
  | [], acc, _ => by show acc = _; rw [List.append_nil]
  | p :: r, acc, h => by
    have hn : p.1 ∉ acc.map (·.1) := by
      rw [List.map_append, List.map_cons, List.nodup_append] at h
      exact fun q => h.2.2 _ q _ List.mem_cons_self rfl
    have e : putK acc p.1 p.2 = acc ++ [p] := by
      unfold putK
      rw [if_neg]
      rw [List.any_eq_true]
      rintro ⟨x, hx, e⟩
      exact hn (List.mem_map.mpr ⟨x, hx, of_decide_eq_true e⟩)
    show mergeK (putK acc p.1 p.2) r = _
    rw [e, merge_nd r (acc ++ [p]) (by rw [List.append_assoc]; exact h), List.append_assoc]
    rfl
theorem se_disp {ks : List Key} {ts : List TE} {md : List Bool} {ma : M (List RV)} (ha : SPs K mg E ks ts ma) : SE K mg E (tDisp (tPs ks ts)) (dDisp ks md ma) := by
  intro pv F H σ e as held Q c w p hp
  have g0 := c.g.newK c.s hp
  have c0 : Cf K mg pv F (upd H p (.dK [])) σ e as (.od p [] [] :: held) := ⟨same_own c.s (c.s.free hp), c.r, g0.perm (List.perm_middle (l₁ := opts as) (l₂ := held) (a := AT.od p [] [])).symm⟩
  refine ha pv F _ σ e as (.od p [] [] :: held) _ c0 ?_
  have w' : WE K mg pv F held σ Q E ((ma e).bind fun rs e => match load md rs e with
    | some (ss, e1) => if ks.length = ss.length ∧ ks.length ≤ 15 ∧ ks.Nodup then .ok (.own (.od ks ss)) e1 else .st
    | none => .st) := w
  cases q : ma e with
  | st => rw [q] at w'; exact w'.elim
  | ex x e1 => rw [q] at w'; exact WX.drop (tr := [AT.od p [] []]) w'
  | ok rs e1 =>
    rw [q, bind_ok29] at w'
    intro vs F1 H1 as1 tr1 s1 c1 rr1 hl
    cases q2 : load md rs e1 with
    | none => simp only [q2] at w'; exact w'.elim
    | some pr =>
      obtain ⟨ss, e2⟩ := pr
      simp only [q2] at w'
      obtain ⟨F2, as2, us, s2, c2, ev, es⟩ := c1.load rr1 q2
      by_cases hc : ks.length = ss.length ∧ ks.length ≤ 15 ∧ ks.Nodup
      · rw [if_pos hc] at w'
        have lu : ks.length = us.length := by rw [hc.1, ← es, ers_length]
        have gp : Good K mg F2 H1 (.od p [] [] :: (us ++ (opts as2 ++ held))) := c2.g.perm (by
          have h1 : (opts as2 ++ (us ++ (AT.od p [] [] :: held))).Perm (us ++ (opts as2 ++ (AT.od p [] [] :: held))) := pswap _ _ _
          refine h1.trans ?_
          have h2 : (us ++ (opts as2 ++ (AT.od p [] [] :: held))).Perm (us ++ (AT.od p [] [] :: (opts as2 ++ held))) := List.Perm.append_left _ (List.perm_middle (l₁ := opts as2) (l₂ := held) (a := AT.od p [] []))
          exact h2.trans (List.perm_middle (l₁ := us) (l₂ := opts as2 ++ held) (a := AT.od p [] [])))
        have hat := gp.at_ (p, .dK []) List.mem_cons_self
        have g3 := gp.redict (ks' := ks) (ys := us) (zs := opts as2 ++ held) (junk := []) (by simp) lu
        refine ⟨hat.1, ks.zip vs, ?_, by rw [List.length_zip]; omega, ?_⟩
        · rw [List.zip_map_left]
          rfl
        · rw [merge_nd _ [] (by rw [List.nil_append, List.map_fst_zip (by omega)]; exact hc.2.2), List.nil_append, ← ev]
          exact w' (.ref p) F2 _ as2 [.od p ks us] (s1.trans s2) ⟨same_own c2.s hat.2, c2.r, g3.perm (List.perm_middle (l₁ := opts as2) (l₂ := held) (a := AT.od p ks us)).symm⟩ ⟨.od p ks us, rfl, rfl, by show SV.od ks (ers us) = _; rw [es]⟩
      · rw [if_neg hc] at w'; exact w'.elim
end
end VF
set_option maxRecDepth 100000
set_option maxHeartbeats 4000000
namespace VF
set_option autoImplicit false
open PySem PySem.Spec PyProof.Rows L2
open AT (cells cellsL er ers)
section
variable {K : PySem.W.Frag} {mg : Str → Option Value} {pv : List (Nat × V)} {F F' H H' : Hp} {σ : L2.St} {e e' : Env} {as as' : List (Option AT)} {held tr ts us : List AT} {E : XS}
end
structure VD (X : Cx) (E : XS) (pos : Pos) (keys : List (Option Expr)) (values : List Expr) (ks : List Key) (m : M (List RV)) : Prop where
  go : ∃ ts, PPs X pos keys values (tPs ks ts) ∧ SPs X.K X.mg E ks ts m
section
variable {X : Cx} {E : XS} {a : Expr} {es : List Expr} {ma : M RV} {mr : M (List RV)} {pos p1 : Pos} {j : Nat} {s : Str} {kd : Nat}
theorem vd_nil : VD X E pos [] [] [] dNil := ⟨[], pps_nil, sps_nil⟩
theorem vd_cons {keys : List (Option Expr)} {values : List Expr} {ks : List Key} (ha : VE X E a ma) (hr : VD X E pos keys values ks mr) : VD X E pos (some (.Constant (.str s) kd p1) :: keys) (a :: values) (.inr s :: ks) (dCons ma mr) := by
  obtain ⟨ts, h1, h2⟩ := hr.go
  exact ⟨_ :: ts, pps_cons pe_str ha h1, sps_cons se_w h2⟩
theorem v_disp {keys : List (Option Expr)} {values : List Expr} {ks : List Key} {md : List Bool} (h : VD X E pos keys values ks mr) (hall : keys.all (·.isSome) = true := by rfl) (hl : keys.length = values.length := by rfl) (h0 : keys ≠ [] := by decide) (h15 : keys.length ≤ 15 := by decide) :
    VE X E (.Dict keys values pos) (dDisp ks md mr) := by
  obtain ⟨ts, h1, h2⟩ := h.go
  exact .mk (pe_disp h1 hall hl h0 h15) (se_disp h2)
variable {CX : CXT} {k : Nat} {f : Addr} {fd : FuncData} {ps : List Str} {x y : Str} {p p2 p3 : Pos} {md : List Bool} {φ : Fn}
end
end VF
set_option maxRecDepth 100000
set_option maxHeartbeats 4000000
namespace VF
set_option autoImplicit false
open PySem PySem.Spec PyProof.Rows L2
open AT (cells cellsL er ers)
section
variable {K : PySem.W.Frag} {mg : Str → Option Value} {pv : List (Nat × V)} {F F' H H' : Hp} {σ σ' : L2.St} {e e' : Env} {as as' : List (Option AT)} {held tr ts us : List AT} {E : XS}
end
section
variable {X : Cx} {E : XS} {pos p : Pos} {j : Nat} {y : Str} {tg : Expr} {g : Tg} {L : List Nat} {m : M Fl}
end
end VF
set_option maxRecDepth 100000
set_option maxHeartbeats 4000000
namespace VF
set_option autoImplicit false
open PySem PySem.Spec PyProof.Rows L2
open AT (cells cellsL er ers)
open PySem.W (alike AllAlike Sortable dataLe dataLt EachIs)
section
variable {X : Cx}
end
def isTup1 : PyData → Bool
  | .tuple (_ :: _) => true
  | _ => false
def noTup : PyData → Bool
  | .none => false
  | .tuple _ => false
  | _ => true
section
variable {K : PySem.W.Frag} {mg : Str → Option Value}
end
section
variable {X : Cx} {E : XS} {a : Expr} {pos : Pos}
end
end VF
set_option maxRecDepth 100000
set_option maxHeartbeats 4000000
namespace VF
set_option autoImplicit false
open PySem PySem.Spec PyProof.Rows L2
section
variable {X : Cx} {E : XS} {pos : Pos}
theorem v_gstr {x z : Str} (hg : Gl X x) (hm : ∃ t, X.mg x = some (.str z t)) (hd : (x == ("__debug__" : Str)) = false := by decide) : VE X E (.Name x pos) (dC (.str z)) := by
  obtain ⟨t, e⟩ := hm
  exact .mk (pe_glob (v := .str z) hg e ⟨t, rfl⟩ hd) se_c
end
end VF
set_option maxRecDepth 100000
set_option maxHeartbeats 4000000
namespace VF
set_option autoImplicit false
open PySem PySem.Spec PyProof.Rows L2
open AT (cells cellsL er ers)
section
variable {X : Cx}
end
section
variable {K : PySem.W.Frag} {mg : Str → Option Value} {E : XS}
end
section
variable {X : Cx}
end
section
variable {K : PySem.W.Frag} {mg : Str → Option Value} {E : XS}
end
section
variable {K : PySem.W.Frag} {mg : Str → Option Value} {E : XS}
end
section
variable {X : Cx} {E : XS} {a b c : Expr} {ma mb mc : M RV} {pos : Pos} {mr : M (List RV)}
end
end VF
set_option maxRecDepth 100000
set_option maxHeartbeats 4000000
namespace VF
set_option autoImplicit false
open PySem PySem.Spec PyProof.Rows L2
open AT (cells cellsL er ers)
section
variable {K : PySem.W.Frag} {mg : Str → Option Value} {pv : List (Nat × V)} {F F' H H' : Hp} {σ : L2.St} {e e' : Env} {as as' : List (Option AT)} {held tr ts us : List AT} {E : XS}
end
section
variable {K : PySem.W.Frag} {mg : Str → Option Value} {pv : List (Nat × V)} {H : Hp} {σ : L2.St} {E : XS}
end
section
variable {X : Cx} {E : XS} {a : Expr} {ma : M RV} {pos p1 p2 p3 : Pos} {j : Nat} {s y : Str} {kd : Nat}
end
end VF
set_option maxRecDepth 100000
set_option maxHeartbeats 4000000
namespace VF
set_option autoImplicit false
open PySem PySem.Spec PyProof.Rows L2
open AT (cells cellsL er ers)
section
variable {K : PySem.W.Frag} {mg : Str → Option Value} {pv : List (Nat × V)} {E : XS}
end
section
variable {X : Cx} {E : XS} {a : Expr} {es : List Expr} {mr : M (List RV)} {pos : Pos}
end
end VF
set_option maxRecDepth 100000
set_option maxHeartbeats 4000000
namespace VF
set_option autoImplicit false
open PySem PySem.Spec PyProof.Rows L2
open AT (cells cellsL er ers)
abbrev set0 (w : World) : Obj := { cls := .type "set", dict := none, data := .set #[] 0 (.fresh 0 0 (!w.params.followText "set-order")) }
section
variable {P : Program} {w : World} {A : Around} {E : Value → Shared → Prop} {s : Shared}
theorem at_new (hp : Heap) (w : World) : (hp.push (set0 w)).get? hp.objs.size = some (set0 w) := Heap.get?_push_size _ rfl
def Filled (w : World) (s0 s2 : Shared) (ns : List Int) : Prop :=
  ∃ hp t n, s2 = { s0 with heap := hp, toks := t } ∧ SetR w hp s0.heap.objs.size (fun j => decide (j ∈ ns)) n ∧ n ≤ ns.length ∧ ∀ b o, s0.heap.get? b = some o → hp.get? b = some o
set_option maxRecDepth 100000 in
theorem set_init_list {q : Addr} {vs : Array Value} (ns : List Int) {R : Result → Shared → Prop} (nh : A.handled = none) (ql : s.heap.IsList q vs) (ni : IntsAre vs.toList ns) (sm : ns.length + 1 < scanBound)
    (k : ∀ s2, Filled w s s2 ns → R (.ok (.ret .none)) s2) :
    codeAny (model P w) A (.call (.builtin "set.__init__") ⟨[.ref s.heap.objs.size, .ref q], []⟩) R { s with heap := s.heap.push (set0 w) } := by
  have isS : Shared.TypeIs { s with heap := s.heap.push (set0 w) } (.ref s.heap.objs.size) "set" := ⟨_, at_new _ w, rfl⟩
  have nv : vs.size = ns.length := by
    have z := IntsAre.length ni
    rwa [Array.length_toList] at z
  refine codeAny_call_builtin F.called_set.init.plain F.entry_set_init (check_set_init_1 isS ?_)
  obtain ⟨⟨oc, od, odata, osl⟩, oq, rfl, nl, rfl⟩ := id ql
  have oq2 : (s.heap.push (set0 w)).get? q = some { cls := .type "list", dict := od, data := .seq vs nl, slots := osl } := Heap.get?_push_of_some _ oq
  have ql2 : (s.heap.push (set0 w)).IsList q vs := ⟨_, oq2, rfl, nl, rfl⟩
  have no1 := F.sub_list_set
  have no2 := F.sub_list_frozenset
  have no3 : (Value.type "list" == Value.type "dict") = false := by decide
  unfold Builtin.«set.__init__» noKeywords Builtin.Frozenset.updateFrom
  generalize hIt : pyIter = It
  wp_walk
  subst hIt
  refine wpAny_pyIter_list ql2 ?_
  refine wpAny_bind (wpAny_runValue ?_)
  have lt : q < s.heap.objs.size := Heap.lt_size oq
  have nh3 : A.in1.in1.handled = none := by simp [nh]
  have sz : (s.heap.push (set0 w)).objs.size = s.heap.objs.size + 1 := Heap.size_push ..
  have nq : q ≠ (s.heap.push (set0 w)).objs.size := by rw [sz]; exact Nat.ne_of_lt (Nat.lt_succ_of_lt lt)
  have fr : s.heap.objs.size ∉ [(s.heap.push (set0 w)).objs.size, q] := fun z => by
    rw [sz] at z
    rcases List.mem_cons.mp z with z | z
    · exact absurd z (Nat.ne_of_lt (Nat.lt_succ_self _))
    · exact absurd (List.mem_singleton.mp z) (Nat.ne_of_gt lt)
  have at_ : ∀ (i : Nat) (v : Value), vs[i]? = some v → ∃ n t, ns[i]? = some n ∧ v = .int n t := fun i v hv => by
    have li : i < ns.length := by rw [← nv]; exact (Array.getElem?_eq_some_iff.mp hv).1
    obtain ⟨t, e⟩ := IntsAre.int_at ni i v (by rw [Array.getElem?_toList]; exact hv)
    exact ⟨ns[i], t, List.getElem?_eq_getElem li, by rw [e, List.getD_eq_getElem?_getD, List.getElem?_eq_getElem li]; rfl⟩
  refine set_update_ints ((Walks.list nh3 _ q nq vs).toS) s.heap.objs.size fr ns nv sm at_ (vs.size - 0) 0 _ (by omega) (Nat.zero_le _) ⟨⟨_, Heap.get?_push_size _ rfl, rfl, rfl⟩, ql2.push _⟩ ⟨0, Nat.le_refl 0, setR_new_at (Heap.get?_push_of_some _ (at_new _ w))⟩ fun s' n mv le R' => ?_
  obtain ⟨hp, g2, d2, t2, o2⟩ := s'
  obtain rfl : g2 = s.gens := mv.gens
  obtain rfl : d2 = s.drawn := mv.drawn
  obtain rfl : o2 = s.os := mv.os
  show wpAny _ _ _ _ _ _
  refine wpAny_pure (show wpAny _ _ (ret Value.none) _ _ _ from wpAny_pure (k _ ⟨hp, t2, n, rfl, R', by omega, fun b o e => ?_⟩))
  have lb : b < s.heap.objs.size := Heap.lt_size e
  refine mv.heap b o (fun z => ?_) (Heap.get?_push_of_some _ (Heap.get?_push_of_some _ e))
  rcases List.mem_cons.mp z with z | z
  · exact absurd z (Nat.ne_of_lt lb)
  · have z := List.mem_singleton.mp z
    rw [sz] at z
    exact absurd z (Nat.ne_of_lt (Nat.lt_succ_of_lt lb))
set_option maxRecDepth 100000 in
theorem call_set_ints {q : Addr} {vs : Array Value} (ns : List Int) {Q : Value → Shared → Prop} (nh : A.handled = none) (ql : s.heap.IsList q vs) (ni : IntsAre vs.toList ns) (sm : ns.length + 1 < scanBound)
    (k : ∀ s2, Filled w s s2 ns → Q (.ref s.heap.objs.size) s2) : wpAny (model P w) A (call (.type "set") [.ref q]) Q E s := by
  have fc := F.called_set
  obtain ⟨cc, ct, hm⟩ := fc.mro
  have a1 := fc.made
  have a2 := fc.sub
  have a3 := fc.notType
  have a4 := fc.canCreate
  have a5 := F.typeCall_set_1 (.ref q)
  refine wpAny_call (codeAny_of_tree (show wpAny _ _ (callAny (.type "set") _) _ _ _ from wpAny_pure ⟨Code.quiet_builtin _ (by decide +kernel), codeAny_builtin F.entry_type_call ?_⟩))
  rw [Around.under_plain (weight_type_call_type "set" [.ref q] []) rfl]
  repeat (any_goals (first | assumption | wp_step))
  refine codeAny_mono (code_set_led1 (w := w) (.ref q) (E := E) (Q₁ := fun z s₁ => z = .ref s.heap.objs.size ∧ s₁ = { s with heap := s.heap.push (set0 w) }) ⟨rfl, rfl⟩) fun z s₁ hz => ?_
  cases z with
  | error e => exact hz
  | ok fl =>
    cases fl with
    | ret z =>
      obtain ⟨rfl, rfl⟩ := hz
      have b1 := fc.init.lookup
      have b2 := fc.init.bind (.ref s.heap.objs.size)
      have b3 : Shared.TypeIs { s with heap := s.heap.push (set0 w) } (.ref s.heap.objs.size) "set" := ⟨_, at_new _ w, rfl⟩
      repeat (any_goals (first | assumption | wp_step))
      refine codeAny_mono (set_init_list (A := _) (R := wants (fun z s₂ => z = .none ∧ Filled w s s₂ ns) E) ns (by simp [nh]) ql ni sm fun s2 h2 => ⟨rfl, h2⟩) fun z s₂ hz => ?_
      cases z with
      | error e => exact hz
      | ok fl =>
        cases fl with
        | ret z =>
          obtain ⟨rfl, h2⟩ := hz
          repeat (any_goals (first | assumption | wp_step))
          exact k _ h2
        | _ => exact hz.elim
    | _ => exact hz.elim
end
section
variable {K : PySem.W.Frag} {mg : Str → Option Value} {E : XS}
end
section
variable {X : Cx} {E : XS} {a : Expr} {ma : M RV} {pos p1 p2 p3 : Pos}
end
end VF
set_option maxRecDepth 100000
set_option maxHeartbeats 4000000
namespace VF
set_option autoImplicit false
open PySem PySem.Spec PyProof.Rows L2
open AT (cells cellsL er ers)
section
variable {K : PySem.W.Frag} {mg : Str → Option Value} {pv : List (Nat × V)} {F0 F H : Hp} {σ : L2.St} {e : Env} {as : List (Option AT)} {held held0 : List AT} {E : XS}
end
section
variable {X : Cx} {E : XS} {a b c d k x : Expr} {ma mb mc md mk mx : M RV} {pos p1 p2 : Pos}
end
end VF
set_option maxRecDepth 100000
set_option maxHeartbeats 4000000
namespace VF
set_option autoImplicit false
open PySem L2
@[simp] theorem bind_ok {α β : Type} (a : α) (e : Env) (f : α → M β) : (R.ok a e).bind f = f a e := (rfl)
@[simp] theorem bind_st {α β : Type} (f : α → M β) : (R.st : R α).bind f = .st := (rfl)
@[simp] theorem mbind {α β : Type} (m : M α) (f : α → M β) (e : Env) : (m.bind f) e = (m e).bind f := (rfl)
@[simp] theorem ev_c (d : D) (e : Env) : dC d e = .ok (.fz d) e := (rfl)
def varR (i : Nat) (e : Env) : Option (Option SV) → R RV
  | some (some (.fz d)) => .ok (.fz d) e
  | some (some _) => .ok (.var i) e
  | _ => .st
@[simp] theorem ev_var (i : Nat) (l : List (Option SV)) (p : List Nat) : dVar i ⟨l, p⟩ = varR i ⟨l, p⟩ l[i]? := (rfl)
@[simp] theorem varR_fz (i : Nat) (e : Env) (d : D) : varR i e (some (some (.fz d))) = .ok (.fz d) e := (rfl)
@[simp] theorem varR_ol (i : Nat) (e : Env) (xs : List SV) : varR i e (some (some (.ol xs))) = .ok (.var i) e := (rfl)
@[simp] theorem ev_nil (e : Env) : dNil e = .ok [] e := (rfl)
@[simp] theorem ev_next (e : Env) : dNext e = .ok .nx e := (rfl)
@[simp] theorem ev_yes (e : Env) : dYes e = .ok true e := (rfl)
@[simp] theorem ev_cons (a : M RV) (b : M (List RV)) (e : Env) : dCons a b e = (a e).bind fun r e => (b e).bind fun rs e => .ok (r :: rs) e := (rfl)
@[simp] theorem view_fz (e : Env) (d : D) : view e (.fz d) = some d := (rfl)
@[simp] theorem view_own (e : Env) (s : SV) : view e (.own s) = some s.toD := (rfl)
@[simp] theorem view_var (i : Nat) (l : List (Option SV)) (p : List Nat) : view ⟨l, p⟩ (.var i) = (match l[i]? with
  | some (some s) => some s.toD
  | _ => none) := (rfl)
@[simp] theorem setS_mk (i : Nat) (l : List (Option SV)) (p : List Nat) (s : SV) : Env.setS ⟨l, p⟩ i s = ⟨l.set i (some s), p⟩ := (rfl)
@[simp] theorem clr_mk (i : Nat) (l : List (Option SV)) (p : List Nat) : Env.clr ⟨l, p⟩ i = ⟨l.set i none, p⟩ := (rfl)
def fzs (ds : List D) : List SV := ds.map .fz
def iDs (L : List Int) : List D := L.map .int
@[simp] theorem fzs_nil : fzs [] = [] := (rfl)
@[simp] theorem iDs_nil : iDs [] = [] := (rfl)
@[simp] theorem fzs_len (ds : List D) : (fzs ds).length = ds.length := by simp [fzs]
@[simp] theorem iDs_len (L : List Int) : (iDs L).length = L.length := by simp [iDs]
@[simp] theorem fzs_get (ds : List D) (i : Nat) : (fzs ds)[i]? = (ds[i]?).map .fz := by simp [fzs]
@[simp] theorem iDs_get (L : List Int) (i : Nat) : (iDs L)[i]? = (L[i]?).map .int := by simp [iDs]
@[simp] theorem fzs_snoc (ds : List D) (d : D) : fzs ds ++ [.fz d] = fzs (ds ++ [d]) := by simp [fzs]
@[simp] theorem iDs_snoc (L : List Int) (d : Int) : iDs L ++ [.int d] = iDs (L ++ [d]) := by simp [iDs]
@[simp] theorem fzs_set (ds : List D) (d : D) (i : Nat) : (fzs ds).set i (.fz d) = fzs (ds.set i d) := by simp [fzs, List.map_set]
@[simp] theorem iDs_set (L : List Int) (d : Int) (i : Nat) : (iDs L).set i (.int d) = iDs (L.set i d) := by simp [iDs, List.map_set]
@[simp] theorem fzs_erase (ds : List D) (i : Nat) : (fzs ds).eraseIdx i = fzs (ds.eraseIdx i) := (map_erase _ _ _).symm
@[simp] theorem iDs_erase (L : List Int) (i : Nat) : (iDs L).eraseIdx i = iDs (L.eraseIdx i) := (map_erase _ _ _).symm
@[simp] theorem intsOf_iDs (L : List Int) : intsOf (iDs L) = some L := intsOf_map L
@[simp] theorem toDs_map (ds : List D) : SV.toDs (fzs ds) = ds := by
  unfold fzs
  induction ds with
  | nil => rfl
  | cons d ds ih => show d :: SV.toDs (ds.map .fz) = _; rw [ih]
@[simp] theorem toD_fz (d : D) : SV.toD (.fz d) = d := (rfl)
@[simp] theorem toD_ol (ds : List D) : SV.toD (.ol (fzs ds)) = .lst ds := by show D.lst _ = _; rw [toDs_map]
@[simp] theorem toD_cons (x : SV) (xs : List SV) : SV.toD (.ol (x :: xs)) = .lst (x.toD :: SV.toDs xs) := (rfl)
@[simp] theorem toDs_cons (x : SV) (xs : List SV) : SV.toDs (x :: xs) = x.toD :: SV.toDs xs := (rfl)
@[simp] theorem toDs_nil : SV.toDs [] = [] := (rfl)
@[simp] theorem toD_nil : SV.toD (.ol []) = .lst [] := (rfl)
@[simp] theorem frz_fz (d : D) (e : Env) : frzR (.fz d) e = some (d, e) := (rfl)
@[simp] theorem frz_own (s : SV) (e : Env) : frzR (.own s) e = some (s.toD, e) := (rfl)
@[simp] theorem frz_var (i : Nat) (l : List (Option SV)) (p : List Nat) : frzR (.var i) ⟨l, p⟩ = (match l[i]? with
  | some (some s) => some (s.toD, ⟨l.set i (some (.fz s.toD)), p⟩)
  | _ => none) := (rfl)
@[simp] theorem frzs_nil (e : Env) : frzRs [] e = some ([], e) := (rfl)
@[simp] theorem frzs_cons (r : RV) (rs : List RV) (e : Env) : frzRs (r :: rs) e = (match frzR r e with
    | some (d, e1) => (match frzRs rs e1 with
      | some (ds, e2) => some (d :: ds, e2)
      | none => none)
    | none => none) := (rfl)
@[simp] theorem ev_op (f : D → D → Option D) (a b : M RV) (e : Env) : dOp f a b e = (a e).bind fun r e => (b e).bind fun q e => match view e r, view e q with
  | some x, some y => (match f x y with
    | some d => .ok (.fz d) e
    | none => .st)
  | _, _ => .st := (rfl)
@[simp] theorem ev_cb (f : List D → Option D) (a : M (List RV)) (e : Env) : dCB f a e = (a e).bind fun rs e => match rs.mapM (view e) with
  | some xs => (match f xs with
    | some d => .ok (.fz d) e
    | none => .st)
  | none => .st := (rfl)
@[simp] theorem ev_t (a : M RV) (e : Env) : dT a e = (a e).bind fun r e => match view e r with
  | some (.bl b) => .ok b e
  | _ => .st := (rfl)
@[simp] theorem ev_tru (a : M RV) (e : Env) : dTru a e = (a e).bind fun r e => match (view e r).bind truD with
  | some b => .ok b e
  | none => .st := (rfl)
@[simp] theorem ev_and (a b : M Bool) (e : Env) : dAnd a b e = (a e).bind fun c e => match c with
  | true => b e
  | false => .ok false e := by unfold dAnd M.bind; cases a e <;> (try rfl); rename_i c e; cases c <;> rfl
@[simp] theorem ev_or (a b : M Bool) (e : Env) : dOr a b e = (a e).bind fun c e => match c with
  | true => .ok true e
  | false => b e := by unfold dOr M.bind; cases a e <;> (try rfl); rename_i c e; cases c <;> rfl
@[simp] theorem ev_not (a : M Bool) (e : Env) : dNot a e = (a e).bind fun c e => .ok (!c) e := (rfl)
@[simp] theorem ev_if (c : M Bool) (a b : M Fl) (e : Env) : dIf c a b e = (c e).bind fun k e => match k with
  | true => a e
  | false => b e := by unfold dIf M.bind; cases c e <;> (try rfl); rename_i c e; cases c <;> rfl
@[simp] theorem ev_seq (a b : M Fl) (e : Env) : dSeq a b e = (a e).bind fun f e => match f with
  | .nx => b e
  | f => .ok f e := by unfold dSeq M.bind; cases a e <;> (try rfl); rename_i c e; cases c <;> rfl
@[simp] theorem ev_ret (a : M RV) (e : Env) : dRet a e = (a e).bind fun r e => .ok (.rt r) e := (rfl)
@[simp] theorem ev_drop (a : M RV) (e : Env) : dDrop a e = (a e).bind fun _ e => .ok .nx e := (rfl)
@[simp] theorem ev_set (i : Nat) (a : M RV) (e : Env) : dSet i a e = (a e).bind fun r e => match putR i r e with
  | some e' => .ok .nx e'
  | none => .st := (rfl)
@[simp] theorem put_fz (i : Nat) (d : D) (l : List (Option SV)) (p : List Nat) : putR i (.fz d) ⟨l, p⟩ = if i ∈ p then none else some ⟨l.set i (some (.fz d)), p⟩ := (rfl)
@[simp] theorem put_own (i : Nat) (s : SV) (l : List (Option SV)) (p : List Nat) : putR i (.own s) ⟨l, p⟩ = if i ∈ p then none else some ⟨l.set i (some s), p⟩ := (rfl)
@[simp] theorem put_var (i j : Nat) (l : List (Option SV)) (p : List Nat) : putR i (.var j) ⟨l, p⟩ = if i ∈ p then none else (match l[j]? with
    | some (some s) => some ⟨(l.set j (some (.fz s.toD))).set i (some (.fz s.toD)), p⟩
    | _ => none) := (rfl)
@[simp] theorem ev_ix (a b : M RV) (e : Env) : dIx a b e = (a e).bind fun r e => (b e).bind fun q e => match view e q with
  | some (.int i) => (match itemR e r i with
    | some d => .ok (.fz d) e
    | none => .st)
  | _ => .st := (rfl)
@[simp] theorem item_fz (e : Env) (d : D) (i : Int) : itemR e (.fz d) i = itemD d i := (rfl)
@[simp] theorem item_own (e : Env) (s : SV) (i : Int) : itemR e (.own s) i = itemS s i := (rfl)
@[simp] theorem item_var (j : Nat) (i : Int) (l : List (Option SV)) (p : List Nat) : itemR ⟨l, p⟩ (.var j) i = (match l[j]? with
    | some (some s) => itemS s i
    | _ => none) := (rfl)
@[simp] theorem itemS_fz (d : D) (i : Int) : itemS (.fz d) i = itemD d i := (rfl)
@[simp] theorem itemS_ol (xs : List SV) (i : Int) : itemS (.ol xs) i = kid xs i := (rfl)
@[simp] theorem itemD_lst (ds : List D) (i : Int) : itemD (.lst ds) i = atI ds i := (rfl)
@[simp] theorem itemD_tup (ds : List D) (i : Int) : itemD (.tup ds) i = atI ds i := (rfl)
@[simp] theorem kid_map (ds : List D) (i : Int) : kid (fzs ds) i = atI ds i := by
  unfold kid fzs
  rw [atI_map]
  cases atI ds i <;> rfl
@[simp] theorem fI_int (g : Int → Int → Int) (i j : Int) : fI g (.int i) (.int j) = some (.int (g i j)) := (rfl)
@[simp] theorem fB_int (g : Int → Int → Bool) (i j : Int) : fB g (.int i) (.int j) = some (.bl (g i j)) := (rfl)
@[simp] theorem fMul_int (i j : Int) : fMul (.int i) (.int j) = if (inB i 64 || inB j 64) = true then some (.int (i * j)) else none := (rfl)
@[simp] theorem fMod_int (i j : Int) : fMod (.int i) (.int j) = if 0 < j then some (.int (i % j)) else none := (rfl)
@[simp] theorem fDiv_int (i j : Int) : fDiv (.int i) (.int j) = if 0 < j ∧ j < 1073741824 then some (.int (i / j)) else none := (rfl)
@[simp] theorem lenD_lst (ds : List D) : lenD [.lst ds] = some (.int (ds.length : Nat)) := (rfl)
@[simp] theorem lenD_scr (ds : List Int) : lenD [.scr ds] = some (.int (ds.length : Nat)) := (rfl)
@[simp] theorem intD_int (i : Int) : intD [.int i] = some (.int i) := (rfl)
@[simp] theorem ev_setIx (j : Nat) (b a : M RV) (e : Env) : dSetIx j b a e = (a e).bind fun r e0 => match e0.sl[j]? with
  | some (some (.ol _)) => (b e0).bind fun q e => match view e q with
    | some (.int k) => (match frzR r e with
      | some (d, e1) => (match e1.sl[j]? with
        | some (some (.ol xs)) => (match ixN xs.length k with
          | some n => .ok .nx (e1.setS j (.ol (xs.set n (.fz d))))
          | none => .st)
        | _ => .st)
      | none => .st)
    | _ => .st
  | _ => .st := (rfl)
@[simp] theorem ev_app (i : Nat) (a : M RV) (e0 : Env) : dApp i a e0 = match e0.sl[i]? with
  | some (some (.ol _)) => (a e0).bind fun r e => match frzR r e with
    | some (d, e1) => (match e1.sl[i]? with
      | some (some (.ol xs)) => if xs.length < sizeLine then .ok (.fz .non) (e1.setS i (.ol (xs ++ [.fz d]))) else .st
      | _ => .st)
    | none => .st
  | _ => .st := (rfl)
theorem run_fn0 {md : List Bool} {n : Nat} {m : M Fl} {ss ss' : List SV} {f : Fl} {e e1 : Env} {r : SV} (ha : okArgs md ss = true) (h : m (env0 md n ss) = .ok f e) (hr : resOf f e = some (r, e1)) (ho : outs 0 md ss e1 = some ss') : mkFn0 md n m ss = .ok r ss' := by
  unfold mkFn0 mkFn
  rw [if_pos ha, h]
  simp only [hr, ho]
@[simp] theorem atI_nonneg {α : Type} (xs : List α) (i : Int) (h : 0 ≤ i) : atI xs i = xs[i.toNat]? := by
  unfold atI ixN
  rw [if_pos h]
  by_cases h2 : i < xs.length
  · rw [if_pos h2]; rfl
  · rw [if_neg h2]
    exact (List.getElem?_eq_none (by omega)).symm
@[simp] theorem ixN_ok {n : Nat} {k : Int} (h0 : 0 ≤ k) (h1 : k < n) : ixN n k = some k.toNat := by
  unfold ixN
  rw [if_pos h0, if_pos h1]
def fzOf : Option SV → Option D
  | some (.fz d) => some d
  | _ => none
@[simp] theorem fzOf_fz (d : D) : fzOf (some (.fz d)) = some d := (rfl)
@[simp] theorem fzOf_none : fzOf none = none := (rfl)
theorem kid_at (xs : List SV) (i : Int) : kid xs i = fzOf (atI xs i) := by
  unfold kid
  cases atI xs i with
  | none => rfl
  | some s => cases s <;> rfl
@[simp] theorem kid_cons (x : SV) (xs : List SV) (i : Int) (h : 0 ≤ i) : kid (x :: xs) i = fzOf (x :: xs)[i.toNat]? := by rw [kid_at, atI_nonneg _ _ h]
@[simp] theorem out_nil (i : Nat) (e : Env) : outs i [] [] e = some [] := (rfl)
@[simp] theorem out_false (i : Nat) (l : List Bool) (s : SV) (ss : List SV) (e : Env) : outs i (false :: l) (s :: ss) e = (match outs (i + 1) l ss e with
    | some r => some (s :: r)
    | none => none) := (rfl)
@[simp] theorem out_true (i : Nat) (l : List Bool) (s : SV) (ss : List SV) (l2 : List (Option SV)) (p : List Nat) : outs i (true :: l) (s :: ss) ⟨l2, p⟩ = (match l2[i]? with
    | some (some s) => (match outs (i + 1) l ss ⟨l2.set i none, p⟩ with
      | some r => some (s :: r)
      | none => none)
    | _ => none) := (rfl)
@[simp] theorem res_fz (d : D) (e : Env) : resOf (.rt (.fz d)) e = some (.fz d, e) := (rfl)
@[simp] theorem res_nx (e : Env) : resOf .nx e = some (.fz .non, e) := (rfl)
@[simp] theorem res_own (s : SV) (e : Env) : resOf (.rt (.own s)) e = some (s, e) := (rfl)
@[simp] theorem res_var (i : Nat) (l : List (Option SV)) (p : List Nat) : resOf (.rt (.var i)) ⟨l, p⟩ = (match l[i]? with
    | some (some s) => if i ∈ p then some (.fz s.toD, ⟨l.set i (some (.fz s.toD)), p⟩) else some (s, ⟨l.set i none, p⟩)
    | _ => none) := (rfl)
def d__law_draw : M Fl := (dSeq (dSet 2 (dIx (dVar 0) (dC (.int 1))))
  (dSeq (dSetIx 0 (dC (.int 1)) (dOp (fI (· + ·)) (dVar 2) (dC (.int 1))))
  (dSeq (dIf (dT (dOp (fB fun i j => decide (i < j)) (dVar 2) (dCB lenD (dCons (dIx (dVar 0) (dC (.int 0))) dNil)))) (dRet (dOp fMod (dCB intD (dCons (dIx (dIx (dVar 0) (dC (.int 0))) (dVar 2)) dNil)) (dVar 1))) dNext)
  (dRet (dC (.int 0))))))
def drawV (ds : List Int) (at_ : Nat) (many : Int) : Int := match ds[at_]? with
  | some d => d % many
  | none => 0
def box (ds : List Int) (at_ : Nat) : SV := .ol [.fz (.lst (iDs ds)), .fz (.int at_)]
theorem draw_ok (ds : List Int) (at_ : Nat) (many : Int) (hm : 0 < many) : mkFn0 [true, false] 3 d__law_draw [box ds at_, .fz (.int many)] = .ok (.fz (.int (drawV ds at_ many))) [box ds (at_ + 1), .fz (.int many)] := by
  cases h : ds[at_]? with
  | some d =>
    have h1 : (at_ : Int) < ds.length := by have := (List.getElem?_eq_some_iff.mp h).1; omega
    simp [mkFn0, mkFn, okArgs, env0, pinIx, d__law_draw, box, List.replicate, h, h1, hm, drawV]
  | none =>
    have h1 : ¬ (at_ : Int) < ds.length := by have := List.getElem?_eq_none_iff.mp h; omega
    simp [mkFn0, mkFn, okArgs, env0, pinIx, d__law_draw, box, List.replicate, h, h1, hm, drawV]
end VF
set_option maxRecDepth 100000
set_option maxHeartbeats 4000000
namespace VF
set_option autoImplicit false
open PySem L2
theorem loopF_inv {g : Tg} {body : M Fl} (P : Nat → Env → Prop) : ∀ (ds : List D) (k : Nat) (e : Env), P k e → (∀ (i : Nat) d e, ds[i]? = some d → P (k + i) e → ∃ e1 e2, g d e = some e1 ∧ (body e1 = .ok .nx e2 ∨ body e1 = .ok .ct e2) ∧ P (k + i + 1) e2) → ∃ e', loopF g body ds e = .ok .nx e' ∧ P (k + ds.length) e'
  | [], k, e, h0, _ => ⟨e, rfl, h0⟩
  | d :: ds, k, e, h0, hs => by
    obtain ⟨e1, e2, h1, h2, h3⟩ := hs 0 d e rfl h0
    obtain ⟨e', h4, h5⟩ := loopF_inv P ds (k + 1) e2 h3 fun i d' e' hd hp => by
      have := hs (i + 1) d' e' (by simpa using hd) (by rw [show k + (i + 1) = k + 1 + i by omega]; exact hp)
      rw [show k + (i + 1) + 1 = k + 1 + i + 1 by omega] at this
      exact this
    refine ⟨e', ?_, by rw [List.length_cons, show k + (ds.length + 1) = k + 1 + ds.length by omega]; exact h5⟩
    show (match g d e with
      | none => R.st
      | some e1 => (match body e1 with
        | .ok .nx e2 => loopF g body ds e2
        | .ok .ct e2 => loopF g body ds e2
        | .ok .bk e2 => .ok .nx e2
        | .ok (.rt r) e2 => .ok (.rt r) e2
        | .ex x e2 => .ex x e2
        | .st => .st)) = _
    rw [h1]
    rcases h2 with h2 | h2 <;> (simp only [h2]; exact h4)
theorem loopF_inv0 {g : Tg} {body : M Fl} (P : Nat → Env → Prop) (ds : List D) (e : Env) (h0 : P 0 e) (hs : ∀ (i : Nat) d e, ds[i]? = some d → P i e → ∃ e1 e2, g d e = some e1 ∧ (body e1 = .ok .nx e2 ∨ body e1 = .ok .ct e2) ∧ P (i + 1) e2) : ∃ e', loopF g body ds e = .ok .nx e' ∧ P ds.length e' := by
  have := loopF_inv (g := g) (body := body) P ds 0 e h0 fun i d e hd hp => by
    rw [Nat.zero_add] at hp ⊢
    exact hs i d e hd hp
  rwa [Nat.zero_add] at this
@[simp] theorem ev_it (a : M RV) (e : Env) : dIt a e = (a e).bind fun r e => match frzR r e with
  | some (d, e1) => (match walk d with
    | some ds => .ok ds e1
    | none => .st)
  | none => .st := (rfl)
@[simp] theorem walk_lst (ds : List D) : walk (.lst ds) = some ds := (rfl)
@[simp] theorem ev_rng1 (a : M (List RV)) (e : Env) : dRng1 a e = (a e).bind fun rs e => match rs.mapM (view e) with
  | some ds => (match oneI ds with
    | some j => if small62 j = true then .ok (rngD 0 j.toNat) e else .st
    | none => .st)
  | none => .st := (rfl)
@[simp] theorem ev_rng2 (a : M (List RV)) (e : Env) : dRng2 a e = (a e).bind fun rs e => match rs.mapM (view e) with
  | some ds => (match twoI ds with
    | some (i, j) => if (small62 i && small62 j) = true then .ok (rngD i (j - i).toNat) e else .st
    | none => .st)
  | none => .st := (rfl)
@[simp] theorem oneI_int (i : Int) : oneI [.int i] = some i := (rfl)
@[simp] theorem twoI_int (i j : Int) : twoI [.int i, .int j] = some (i, j) := (rfl)
@[simp] theorem small62_def (i : Int) : small62 i = decide (-(2 ^ 62) ≤ i ∧ i < 2 ^ 62) := (rfl)
@[simp] theorem inB_def (i : Int) (k : Nat) : inB i k = decide (-(2 ^ k) < i ∧ i < 2 ^ k) := (rfl)
@[simp] theorem gN_def (i : Nat) (d : D) (e : Env) : gN i d e = putR i (.fz d) e := (rfl)
@[simp] theorem ev_for (it : M (List D)) (g : Tg) (body : M Fl) (e : Env) : dFor it g body e = (it e).bind fun ds => loopF g body ds := (rfl)
@[simp] theorem ev_call (md : List Bool) (φ : Fn) (a : M (List RV)) (e : Env) : dCall md φ a e = (a e).bind fun rs e => match load md rs e with
  | some (ss, e1) => (match φ ss with
    | .st => .st
    | .ok r ss' => (match unload md rs ss' e1 with
      | some e2 => .ok (svR r) e2
      | none => .st)
    | .ex x ss' => (match unload md rs ss' e1 with
      | some e2 => .ex x e2
      | none => .st))
  | none => .st := (rfl)
@[simp] theorem ld_nil (e : Env) : load [] [] e = some ([], e) := (rfl)
@[simp] theorem ld_false (md : List Bool) (r : RV) (rs : List RV) (e : Env) : load (false :: md) (r :: rs) e = (match (match frzR r e with
    | some (d, e1) => some (SV.fz d, e1)
    | none => none) with
    | some (s, e1) => (match load md rs e1 with
      | some (ss, e2) => some (s :: ss, e2)
      | none => none)
    | none => none) := (rfl)
@[simp] theorem ld_true (md : List Bool) (i : Nat) (rs : List RV) (l : List (Option SV)) (p : List Nat) : load (true :: md) (.var i :: rs) ⟨l, p⟩ = (match (match l[i]? with
      | some (some s) => some (s, (⟨l.set i none, p⟩ : Env))
      | _ => none) with
    | some (s, e1) => (match load md rs e1 with
      | some (ss, e2) => some (s :: ss, e2)
      | none => none)
    | none => none) := (rfl)
@[simp] theorem ul_nil (e : Env) : unload [] [] [] e = some e := (rfl)
@[simp] theorem ul_false (md : List Bool) (r : RV) (rs : List RV) (s : SV) (ss : List SV) (e : Env) : unload (false :: md) (r :: rs) (s :: ss) e = unload md rs ss e := by cases r <;> rfl
@[simp] theorem ul_true (md : List Bool) (i : Nat) (rs : List RV) (s : SV) (ss : List SV) (e : Env) : unload (true :: md) (.var i :: rs) (s :: ss) e = if isClr e i = true then unload md rs ss (e.setS i s) else none := (rfl)
@[simp] theorem isClr_mk (l : List (Option SV)) (p : List Nat) (i : Nat) : isClr ⟨l, p⟩ i = (match l[i]? with
  | some none => true
  | _ => false) := (rfl)
@[simp] theorem svR_fz (d : D) : svR (.fz d) = .fz d := (rfl)
@[simp] theorem svR_ol (xs : List SV) : svR (.ol xs) = .own (.ol xs) := (rfl)
@[simp] theorem ev_callB (n : Nat) (φ : Fn) (a : M (List RV)) (e : Env) : dCallB n φ a e = (a e).bind fun rs e => match rs.mapM (view e) with
  | some ds => if ds.length = n then (match φ (ds.map .fz) with
    | .ok r _ => (match immS r with
      | some d => .ok (.fz d) e
      | none => .st)
    | .ex x _ => .ex x e
    | .st => .st) else .st
  | none => .st := (rfl)
@[simp] theorem immS_int (i : Int) : immS (.fz (.int i)) = some (.int i) := (rfl)
@[simp] theorem immS_bl (i : Bool) : immS (.fz (.bl i)) = some (.bl i) := (rfl)
@[simp] theorem immS_non : immS (.fz .non) = some .non := (rfl)
@[simp] theorem immS_str (s : Str) : immS (.fz (.str s)) = some (.str s) := (rfl)
@[simp] theorem ev_lst (a : M (List RV)) (e : Env) : dLst a e = (a e).bind fun rs e => match frzRs rs e with
  | some (ds, e') => if ds.length ≤ sizeLine then .ok (.own (.ol (fzs ds))) e' else .st
  | none => .st := (rfl)
@[simp] theorem size_pos : 0 ≤ sizeLine := Nat.zero_le _
theorem size_ge {n : Nat} (h : n ≤ 16777216) : n ≤ sizeLine := by rw [sizeLine_eq]; exact h
theorem size_gt {n : Nat} (h : n < 16777216) : n < sizeLine := by rw [sizeLine_eq]; exact h
def e18 : Int := 1000000000000000000
@[simp] theorem fPow_18 : fPow (.int 10) (.int 18) = some (.int e18) := by
  unfold fPow
  simp only
  rw [if_pos ⟨by decide, by decide, by decide⟩]
  rfl
@[simp] theorem blOf_bl (b : Bool) : blOf (.bl b) = some b := (rfl)
@[simp] theorem ev_chain (f g : D → D → Option D) (a b c : M RV) (e : Env) : dChain f g a b c e = (a e).bind fun r e => (b e).bind fun q e => match view e r, view e q with
  | some x, some y => (match (f x y).bind blOf with
    | some true => (c e).bind fun p e => (match view e q, view e p with
      | some y, some z => (match g y z with
        | some d => .ok (.fz d) e
        | none => .st)
      | _, _ => .st)
    | some false => .ok (.fz (.bl false)) e
    | none => .st)
  | _, _ => .st := (rfl)
def d__law_cell : M Fl := (dSeq (dIf (dT (dOp (fB fun i j => decide (i < j)) (dVar 1) (dCB lenD (dCons (dVar 0) dNil)))) (dRet (dIx (dVar 0) (dVar 1))) dNext)
  (dRet (dC (.int 0))))
def φ__law_cell : Fn := mkFn0 [false, false] 2 d__law_cell
@[simp] theorem itemD_scr (ns : List Int) (i : Int) : itemD (.scr ns) i = (atI ns i).map .int := (rfl)
theorem cell_ok (ns : List Int) (k : Nat) : ∃ c : Int, φ__law_cell [.fz (.scr ns), .fz (.int k)] = .ok (.fz (.int c)) [.fz (.scr ns), .fz (.int k)] := by
  cases h : ns[k]? with
  | some d =>
    have h1 : (k : Int) < ns.length := by have := (List.getElem?_eq_some_iff.mp h).1; omega
    exact ⟨d, by simp [φ__law_cell, mkFn0, mkFn, okArgs, env0, pinIx, d__law_cell, h, h1]⟩
  | none =>
    have h1 : ¬ (k : Int) < ns.length := by have := List.getElem?_eq_none_iff.mp h; omega
    exact ⟨0, by simp [φ__law_cell, mkFn0, mkFn, okArgs, env0, pinIx, d__law_cell, h, h1]⟩
theorem rng_at {lo : Int} {n i : Nat} {d : D} (h : (rngD lo n)[i]? = some d) : i < n ∧ d = .int (lo + i) := by
  unfold rngD at h
  rw [List.getElem?_map] at h
  cases q : (List.range n)[i]? with
  | none => rw [q] at h; cases h
  | some j =>
    rw [q] at h
    cases h
    have hlt : i < n := by simpa using (List.getElem?_eq_some_iff.mp q).1
    rw [List.getElem?_range hlt] at q
    cases q
    exact ⟨hlt, rfl⟩
@[simp] theorem rng_len (lo : Int) (n : Nat) : (rngD lo n).length = n := by simp [rngD]
def DgP (ns : List Int) (b : Nat) (e : Env) : Prop := ∃ (L : List Int) (v4 v5 v6 v7 : Option SV), L.length ≤ b ∧ e = ⟨[some (.fz (.scr ns)), some (.fz (.int 0)), some (.fz (.int 63)), some (.ol (fzs (iDs L))), v4, v5, v6, v7], []⟩
def dg1 : M Fl := dIf (dT (dOp (fB fun i j => decide (j < i)) (dVar 5) (dC (.int 0)))) (dSeq (dDrop (dApp 3 (dOp fMod (dCB intD (dCons (dVar 5) dNil)) (dC (.int 1000)))))
  (dSet 5 (dOp fDiv (dVar 5) (dC (.int 1000))))) dNext
theorem dg1_ok (ns : List Int) (b : Nat) (hb : b ≤ 10000) (L : List Int) (c : Int) (v4 v6 v7 : Option SV) (hL : L.length ≤ b) : ∃ e', loopF (gN 6) dg1 (rngD 0 60) ⟨[some (.fz (.scr ns)), some (.fz (.int 0)), some (.fz (.int 63)), some (.ol (fzs (iDs L))), v4, some (.fz (.int c)), v6, v7], []⟩ = .ok .nx e' ∧ DgP ns (b + 60) e' := by
  have h := loopF_inv0 (g := gN 6) (body := dg1) (fun i e => ∃ (L : List Int) (c : Int) (v6 : Option SV), L.length ≤ b + i ∧ e = ⟨[some (.fz (.scr ns)), some (.fz (.int 0)), some (.fz (.int 63)), some (.ol (fzs (iDs L))), v4, some (.fz (.int c)), v6, v7], []⟩) (rngD 0 60) _ ⟨L, c, v6, hL, rfl⟩ (by
    rintro i d e hd ⟨L, c, v6, hL, rfl⟩
    obtain ⟨hi, rfl⟩ := rng_at hd
    have hz : L.length < sizeLine := size_gt (by omega)
    by_cases hc : 0 < c
    · refine ⟨_, ⟨[some (.fz (.scr ns)), some (.fz (.int 0)), some (.fz (.int 63)), some (.ol (fzs (iDs (L ++ [c % 1000])))), v4, some (.fz (.int (c / 1000))), some (.fz (.int (0 + (i : Nat)))), v7], []⟩, rfl, .inl ?_, L ++ [c % 1000], c / 1000, _, by simp; omega, rfl⟩
      simp [dg1, hc, hz]
    · refine ⟨_, ⟨[some (.fz (.scr ns)), some (.fz (.int 0)), some (.fz (.int 63)), some (.ol (fzs (iDs L))), v4, some (.fz (.int c)), some (.fz (.int (0 + (i : Nat)))), v7], []⟩, rfl, .inl ?_, L, c, _, by omega, rfl⟩
      simp [dg1, hc])
  obtain ⟨e', h1, L', c', v6', h2, rfl⟩ := h
  exact ⟨_, h1, L', v4, _, v6', v7, by simpa using h2, rfl⟩
def dg2 : M Fl := dSeq (dSet 7 (dOp fMod (dCB intD (dCons (dOp (fI (· + ·)) (dOp (fI (· + ·)) (dOp fMul (dVar 7) (dC (.int 16807))) (dOp fMul (dC (.int 7)) (dVar 6))) (dC (.int 1))) dNil)) (dC (.int 2147483647))))
  (dDrop (dApp 3 (dOp fMod (dCB intD (dCons (dOp fDiv (dVar 7) (dC (.int 997))) dNil)) (dC (.int 1000)))))
def dgT : M Fl := dIf (dT (dOp (fB fun i j => decide (j ≤ i)) (dVar 5) (dOp fPow (dC (.int 10)) (dC (.int 18))))) (dFor (dRng1 (dCons (dC (.int 60)) dNil)) (gN 6) dg1) (dSeq (dSet 7 (dOp fMod (dCB intD (dCons (dOp (fI (· + ·)) (dOp (fI (· + ·)) (dOp fMul (dVar 5) (dC (.int 48271))) (dOp fMul (dVar 4) (dC (.int 69621)))) (dC (.int 11))) dNil)) (dC (.int 2147483647))))
      (dFor (dRng1 (dCons (dC (.int 12)) dNil)) (gN 6) dg2))
theorem t5 (ns : List Int) (b i : Nat) (hb : b ≤ 10000) (L : List Int) (v6 v7 : Option SV) (hL : L.length ≤ b) (c : Int) (hx : e18 ≤ c) : ∃ e', dgT ⟨[some (.fz (.scr ns)), some (.fz (.int 0)), some (.fz (.int 63)), some (.ol (fzs (iDs L))), some (.fz (.int i)), some (.fz (.int c)), v6, v7], []⟩ = .ok .nx e' ∧ DgP ns (b + 60) e' := by
  obtain ⟨e', h1, h2⟩ := dg1_ok ns b hb L c (some (.fz (.int i))) v6 v7 hL
  refine ⟨e', ?_, h2⟩
  unfold dgT
  simp [hx, h1]
end VF
set_option maxRecDepth 100000
set_option maxHeartbeats 4000000
namespace VF
set_option autoImplicit false
open PySem L2
def plD : Nat → D → Bool
  | _, .non => true
  | _, .int _ => true
  | _, .str s => PyData.strOk s
  | n + 1, .lst ds => ds.all (plD n)
  | n + 1, .tup ds => ds.all (plD n)
  | _, _ => false
theorem pl_all {n : Nat} (ih : ∀ d, plD n d = true → ∃ p, toP d = some p ∧ p.canLay0 = true ∧ p.depth ≤ n) : ∀ ds : List D, ds.all (plD n) = true → ∃ ps, toPs ds = some ps ∧ PyData.canLayAll0 ps = true ∧ PyData.depthAll ps ≤ n
  | [], _ => ⟨[], rfl, rfl, by simp [PyData.depthAll]⟩
  | d :: ds, h => by
    rw [List.all_cons, Bool.and_eq_true] at h
    obtain ⟨p, h1, h2, h3⟩ := ih d h.1
    obtain ⟨ps, q1, q2, q3⟩ := pl_all ih ds h.2
    refine ⟨p :: ps, by unfold toPs; rw [h1, q1], by simp [PyData.canLayAll0, h2, q2], ?_⟩
    simp only [PyData.depthAll]
    omega
theorem pl_ok : ∀ (n : Nat) (d : D), plD n d = true → ∃ p, toP d = some p ∧ p.canLay0 = true ∧ p.depth ≤ n := by
  have base : ∀ (n : Nat) (s : Str), PyData.strOk s = true → ∃ p, toP (.str s) = some p ∧ p.canLay0 = true ∧ p.depth ≤ n := fun n s h => ⟨.str s, rfl, by simp [PyData.canLay0, h], by simp [PyData.depth]⟩
  intro n
  induction n with
  | zero =>
    intro d h
    cases d with
    | non => exact ⟨_, rfl, rfl, by simp [PyData.depth]⟩
    | int i => exact ⟨_, rfl, rfl, by simp [PyData.depth]⟩
    | str s => exact base _ s h
    | _ => cases h
  | succ n ih =>
    intro d h
    cases d with
    | non => exact ⟨_, rfl, rfl, by simp [PyData.depth]⟩
    | int i => exact ⟨_, rfl, rfl, by simp [PyData.depth]⟩
    | str s => exact base _ s h
    | lst ds =>
      obtain ⟨ps, h1, h2, h3⟩ := pl_all ih ds h
      exact ⟨.list ps, by show (toPs ds).map _ = _; rw [h1]; rfl, by simpa [PyData.canLay0] using h2, by simp only [PyData.depth]; omega⟩
    | tup ds =>
      obtain ⟨ps, h1, h2, h3⟩ := pl_all ih ds h
      exact ⟨.tuple ps, by show (toPs ds).map _ = _; rw [h1]; rfl, by simpa [PyData.canLay0] using h2, by simp only [PyData.depth]; omega⟩
    | _ => cases h
theorem pl_eqs {n m : Nat} (ih : ∀ a b p q, plD n a = true → plD m b = true → toP a = some p → toP b = some q → (PyData.eqv p q = true ↔ a = b)) : ∀ (as bs : List D) (ps qs : List PyData), as.all (plD n) = true → bs.all (plD m) = true → toPs as = some ps → toPs bs = some qs → (PyData.eqvAll ps qs = true ↔ as = bs)
  | [], [], ps, qs, _, _, q1, q2 => by cases q1; cases q2; simp [PyData.eqvAll]
  | [], b :: bs, ps, qs, _, hb, q1, q2 => by
    cases q1
    unfold toPs at q2
    split at q2
    · cases q2; simp [PyData.eqvAll]
    · cases q2
  | a :: as, [], ps, qs, ha, _, q1, q2 => by
    cases q2
    unfold toPs at q1
    split at q1
    · cases q1; simp [PyData.eqvAll]
    · cases q1
  | a :: as, b :: bs, ps, qs, ha, hb, q1, q2 => by
    rw [List.all_cons, Bool.and_eq_true] at ha hb
    unfold toPs at q1 q2
    split at q1
    · split at q2
      · rename_i p ps z1 z2 _ _ q qs z3 z4
        cases q1; cases q2
        simp only [PyData.eqvAll, Bool.and_eq_true, ih a b p q ha.1 hb.1 z1 z3, pl_eqs ih as bs ps qs ha.2 hb.2 z2 z4, List.cons.injEq]
      · cases q2
    · cases q1
theorem toP_lst (ds : List D) : toP (.lst ds) = (toPs ds).map .list := rfl
theorem toP_tup (ds : List D) : toP (.tup ds) = (toPs ds).map .tuple := rfl
theorem pl_eq : ∀ (n m : Nat) (a b : D) (p q : PyData), plD n a = true → plD m b = true → toP a = some p → toP b = some q → (PyData.eqv p q = true ↔ a = b) := by
  intro n
  induction n with
  | zero =>
    intro m a b p q ha hb ea eb
    cases a with
    | non => cases ea; cases b <;> first | (exfalso; revert hb; cases m <;> (intro hb; cases hb); done) | (cases eb; simp [PyData.eqv]; done) | (rw [toP_lst] at eb; cases z : toPs _ <;> rw [z] at eb <;> cases eb; simp [PyData.eqv]; done) | (rw [toP_tup] at eb; cases z : toPs _ <;> rw [z] at eb <;> cases eb; simp [PyData.eqv]; done)
    | int i => cases ea; cases b <;> first | (exfalso; revert hb; cases m <;> (intro hb; cases hb); done) | (cases eb; simp [PyData.eqv]; done) | (rw [toP_lst] at eb; cases z : toPs _ <;> rw [z] at eb <;> cases eb; simp [PyData.eqv]; done) | (rw [toP_tup] at eb; cases z : toPs _ <;> rw [z] at eb <;> cases eb; simp [PyData.eqv]; done)
    | str i => cases ea; cases b <;> first | (exfalso; revert hb; cases m <;> (intro hb; cases hb); done) | (cases eb; simp [PyData.eqv]; done) | (rw [toP_lst] at eb; cases z : toPs _ <;> rw [z] at eb <;> cases eb; simp [PyData.eqv]; done) | (rw [toP_tup] at eb; cases z : toPs _ <;> rw [z] at eb <;> cases eb; simp [PyData.eqv]; done)
    | _ => cases ha
  | succ n ih =>
    intro m a b p q ha hb ea eb
    cases a with
    | non => cases ea; cases b <;> first | (exfalso; revert hb; cases m <;> (intro hb; cases hb); done) | (cases eb; simp [PyData.eqv]; done) | (rw [toP_lst] at eb; cases z : toPs _ <;> rw [z] at eb <;> cases eb; simp [PyData.eqv]; done) | (rw [toP_tup] at eb; cases z : toPs _ <;> rw [z] at eb <;> cases eb; simp [PyData.eqv]; done)
    | int i => cases ea; cases b <;> first | (exfalso; revert hb; cases m <;> (intro hb; cases hb); done) | (cases eb; simp [PyData.eqv]; done) | (rw [toP_lst] at eb; cases z : toPs _ <;> rw [z] at eb <;> cases eb; simp [PyData.eqv]; done) | (rw [toP_tup] at eb; cases z : toPs _ <;> rw [z] at eb <;> cases eb; simp [PyData.eqv]; done)
    | str i => cases ea; cases b <;> first | (exfalso; revert hb; cases m <;> (intro hb; cases hb); done) | (cases eb; simp [PyData.eqv]; done) | (rw [toP_lst] at eb; cases z : toPs _ <;> rw [z] at eb <;> cases eb; simp [PyData.eqv]; done) | (rw [toP_tup] at eb; cases z : toPs _ <;> rw [z] at eb <;> cases eb; simp [PyData.eqv]; done)
    | lst as =>
      rw [toP_lst] at ea
      cases z1 : toPs as with
      | none => rw [z1] at ea; cases ea
      | some ps =>
        rw [z1] at ea; cases ea
        cases b with
        | lst bs =>
          rw [toP_lst] at eb
          cases z2 : toPs bs with
          | none => rw [z2] at eb; cases eb
          | some qs =>
            rw [z2] at eb; cases eb
            cases m with
            | zero => cases hb
            | succ m =>
              simp only [PyData.eqv, D.lst.injEq]
              exact pl_eqs (fun a b p q h1 h2 h3 h4 => ih m a b p q h1 h2 h3 h4) as bs ps qs ha hb z1 z2
        | tup bs => rw [toP_tup] at eb; cases z : toPs bs <;> rw [z] at eb <;> cases eb; simp [PyData.eqv]
        | _ => first | (exfalso; revert hb; cases m <;> (intro hb; cases hb); done) | (cases eb; simp [PyData.eqv]; done)
    | tup as =>
      rw [toP_tup] at ea
      cases z1 : toPs as with
      | none => rw [z1] at ea; cases ea
      | some ps =>
        rw [z1] at ea; cases ea
        cases b with
        | tup bs =>
          rw [toP_tup] at eb
          cases z2 : toPs bs with
          | none => rw [z2] at eb; cases eb
          | some qs =>
            rw [z2] at eb; cases eb
            cases m with
            | zero => cases hb
            | succ m =>
              simp only [PyData.eqv, D.tup.injEq]
              exact pl_eqs (fun a b p q h1 h2 h3 h4 => ih m a b p q h1 h2 h3 h4) as bs ps qs ha hb z1 z2
        | lst bs => rw [toP_lst] at eb; cases z : toPs bs <;> rw [z] at eb <;> cases eb; simp [PyData.eqv]
        | _ => first | (exfalso; revert hb; cases m <;> (intro hb; cases hb); done) | (cases eb; simp [PyData.eqv]; done)
    | _ => cases ha
theorem eqD_pl {a b : D} [Decidable (a = b)] (ha : plD 64 a = true) (hb : plD 64 b = true) : eqD a b = some (decide (a = b)) := by
  obtain ⟨p, h1, h2, h3⟩ := pl_ok 64 a ha
  obtain ⟨q, k1, k2, k3⟩ := pl_ok 64 b hb
  have e := pl_eq 64 64 a b p q ha hb h1 k1
  unfold eqD
  rw [h1, k1]
  simp only
  rw [if_pos (by simp [shp, PyData.plain_of_canLay0 _ h2, PyData.plain_of_canLay0 _ k2, h3, k3])]
  by_cases h : a = b
  · rw [e.mpr h, decide_eq_true h]
  · rw [decide_eq_false h]
    cases z : PyData.eqv p q with
    | true => exact absurd (e.mp z) h
    | false => rfl
theorem iDs_all (L : List Int) (n : Nat) : (iDs L).all (plD n) = true := by
  rw [List.all_eq_true]
  intro d hd
  obtain ⟨i, _, rfl⟩ := List.mem_map.mp hd
  cases n <;> rfl
theorem iDs_inj {a b : List Int} : iDs a = iDs b ↔ a = b := by
  constructor
  · intro h
    induction a generalizing b with
    | nil => cases b <;> simp_all [iDs]
    | cons x xs ih => cases b with
      | nil => simp [iDs] at h
      | cons y ys =>
        simp only [iDs, List.map_cons, List.cons.injEq, D.int.injEq] at h
        rw [h.1, ih h.2]
  · intro h; rw [h]
@[simp] theorem fEq_int (i j : Int) : fEq (.int i) (.int j) = some (.bl (decide (i = j))) := by
  have : Decidable (D.int i = D.int j) := if h : i = j then isTrue (by rw [h]) else isFalse (fun q => h (D.int.inj q))
  unfold fEq
  rw [eqD_pl rfl rfl]
  simp
@[simp] theorem fNe_int (i j : Int) : fNe (.int i) (.int j) = some (.bl (decide (i ≠ j))) := by
  have : Decidable (D.int i = D.int j) := if h : i = j then isTrue (by rw [h]) else isFalse (fun q => h (D.int.inj q))
  unfold fNe
  rw [eqD_pl rfl rfl]
  simp
@[simp] theorem fEq_iDs (a b : List Int) : fEq (.lst (iDs a)) (.lst (iDs b)) = some (.bl (decide (a = b))) := by
  have : Decidable (D.lst (iDs a) = D.lst (iDs b)) := if h : a = b then isTrue (by rw [h]) else isFalse (fun q => h (iDs_inj.mp (D.lst.inj q)))
  unfold fEq
  rw [eqD_pl (a := .lst (iDs a)) (b := .lst (iDs b)) (iDs_all a 63) (iDs_all b 63)]
  simp [iDs_inj]
@[simp] theorem fNe_iDs (a b : List Int) : fNe (.lst (iDs a)) (.lst (iDs b)) = some (.bl (decide (a ≠ b))) := by
  have : Decidable (D.lst (iDs a) = D.lst (iDs b)) := if h : a = b then isTrue (by rw [h]) else isFalse (fun q => h (iDs_inj.mp (D.lst.inj q)))
  unfold fNe
  rw [eqD_pl (a := .lst (iDs a)) (b := .lst (iDs b)) (iDs_all a 63) (iDs_all b 63)]
  simp [iDs_inj]
@[simp] theorem truD_bl (b : Bool) : truD (.bl b) = some b := (rfl)
@[simp] theorem truD_lst (ds : List D) : truD (.lst ds) = some !ds.isEmpty := (rfl)
@[simp] theorem truD_int (i : Int) : truD (.int i) = some (i != 0) := (rfl)
@[simp] theorem truD_non : truD .non = some false := (rfl)
@[simp] theorem iDs_emp (L : List Int) : (iDs L).isEmpty = L.isEmpty := by cases L <;> rfl
@[simp] theorem isi_int_int (i : Int) : isiD [.int i, .ty "int"] = some (.bl true) := (rfl)
theorem kit_ib : kitB "int" "bool" = some false := by decide +kernel
@[simp] theorem isi_int_bool (i : Int) : isiD [.int i, .ty "bool"] = some (.bl false) := by unfold isiD tyName; simp only [kit_ib]; rfl
@[simp] theorem isi_lst_lst (i : List D) : isiD [.lst i, .ty "list"] = some (.bl true) := (rfl)
@[simp] theorem ev_bl (a : M RV) (k : Bool → M RV) (e : Env) : dBl a k e = (a e).bind fun r e => match (view e r).bind blOf with
  | some b => k b e
  | none => .st := (rfl)
@[simp] theorem ev_andV (a b : M RV) (e : Env) : dAndV a b e = (a e).bind fun r e => match (view e r).bind blOf with
  | some true => b e
  | some false => .ok (.fz (.bl false)) e
  | none => .st := by
  show (a e).bind _ = _
  congr 1; funext r e; cases (view e r).bind blOf with
  | none => rfl
  | some b => cases b <;> rfl
@[simp] theorem ev_orV (a b : M RV) (e : Env) : dOrV a b e = (a e).bind fun r e => match (view e r).bind blOf with
  | some true => .ok (.fz (.bl true)) e
  | some false => b e
  | none => .st := by
  show (a e).bind _ = _
  congr 1; funext r e; cases (view e r).bind blOf with
  | none => rfl
  | some b => cases b <;> rfl
@[simp] theorem ev_notV (a : M RV) (e : Env) : dNotV a e = (a e).bind fun r e => match (view e r).bind blOf with
  | some b => .ok (.fz (.bl (!b))) e
  | none => .st := (rfl)
@[simp] theorem ev_ifE (c : M Bool) (a b : M RV) (e : Env) : dIfE c a b e = (c e).bind fun k e => match k with
  | true => a e
  | false => b e := by unfold dIfE M.bind; cases c e <;> (try rfl); rename_i c e; cases c <;> rfl
@[simp] theorem sumD_iDs (L : List Int) : sumD [.lst (iDs L)] = some (.int L.sum) := by unfold sumD; show (intsOf (iDs L)).map _ = _; simp
@[simp] theorem kidI_mk (l : List (Option SV)) (p : List Nat) (j : Nat) (k : Int) : kidI ⟨l, p⟩ j k = (match l[j]? with
  | some (some (.ol xs)) => (match kid xs k with
    | some (.int x) => some x
    | _ => none)
  | _ => none) := (rfl)
@[simp] theorem ev_augIx (j : Nat) (b : M RV) (f : Int → Int → Int) (a : M RV) (e0 : Env) : dAugIx j b f a e0 = (match e0.sl[j]? with
  | some (some (.ol _)) => (b e0).bind fun q e => match view e q with
    | some (.int k) => if 0 ≤ k then (match kidI e j k with
      | some x => (a e).bind fun r e1 => (match view e1 r with
        | some (.int y) => (match e1.sl[j]? with
          | some (some (.ol xs)) => (match ixN xs.length k with
            | some n => .ok .nx (e1.setS j (.ol (xs.set n (.fz (.int (f x y))))))
            | none => .st)
          | _ => .st)
        | _ => .st)
      | _ => .st) else .st
    | _ => .st
  | _ => .st) := (rfl)
def φ__law_draw : Fn := mkFn0 [true, false] 3 d__law_draw
@[simp] theorem draw_φ (ds : List Int) (at_ : Nat) (many : Int) (hm : 0 < many) : φ__law_draw [box ds at_, .fz (.int many)] = .ok (.fz (.int (drawV ds at_ many))) [box ds (at_ + 1), .fz (.int many)] := draw_ok ds at_ many hm
@[simp] theorem box_fold (ds : List Int) : SV.ol (fzs [.lst (iDs ds), .int 0]) = box ds 0 := (rfl)
@[simp] theorem varR_box (i : Nat) (e : Env) (ds : List Int) (k : Nat) : varR i e (some (some (box ds k))) = .ok (.var i) e := (rfl)
def d__law_is_int : M Fl := (dRet (dAndV (dCB isiD (dCons (dVar 0) (dCons (dC (.ty "int")) dNil))) (dNotV (dCB isiD (dCons (dVar 0) (dCons (dC (.ty "bool")) dNil))))))
def φ__law_is_int : Fn := mkFn0 [false] 1 d__law_is_int
@[simp] theorem isint_φ (i : Int) : φ__law_is_int [.fz (.int i)] = .ok (.fz (.bl true)) [.fz (.int i)] := by
  simp [φ__law_is_int, mkFn0, mkFn, okArgs, env0, pinIx, d__law_is_int, List.replicate]
end VF
set_option maxRecDepth 100000
set_option maxHeartbeats 4000000
namespace VF
set_option autoImplicit false
open PySem L2
inductive Res (α : Type) where
  | st | ok (a : α) | ex (x : Exc)
namespace Res
def bind {α β : Type} (p : Res α) (q : α → Res β) : Res β := match p with
  | .st => .st
  | .ok a => q a
  | .ex x => .ex x
@[simp] theorem bind_ok {α β : Type} (a : α) (q : α → Res β) : (Res.ok a).bind q = q a := (rfl)
@[simp] theorem bind_st {α β : Type} (q : α → Res β) : (Res.st : Res α).bind q = .st := (rfl)
@[simp] theorem bind_ex {α β : Type} (x : Exc) (q : α → Res β) : (Res.ex x : Res α).bind q = .ex x := (rfl)
@[simp] theorem bind_assoc {α β γ : Type} (p : Res α) (q : α → Res β) (r : β → Res γ) : (p.bind q).bind r = p.bind fun a => (q a).bind r := by cases p <;> rfl
end Res
class Enc (α : Type) where
  enc : α → D
open Enc (enc)
structure T3 (α β γ : Type) where
  a : α
  b : β
  c : γ
  deriving DecidableEq, Inhabited
structure T4 (α β γ δ : Type) where
  a : α
  b : β
  c : γ
  d : δ
  deriving DecidableEq, Inhabited
structure T5 (α β γ δ ε : Type) where
  a : α
  b : β
  c : γ
  d : δ
  e : ε
  deriving DecidableEq, Inhabited
structure Tup (α : Type) where
  l : List α
  deriving DecidableEq, Inhabited
section
variable {α β γ δ ε : Type}
instance : Enc Int := ⟨.int⟩
instance : Enc Bool := ⟨.bl⟩
instance : Enc Str := ⟨.str⟩
instance : Enc Unit := ⟨fun _ => .non⟩
instance [Enc α] : Enc (List α) := ⟨fun xs => .lst (xs.map enc)⟩
instance [Enc α] : Enc (Tup α) := ⟨fun xs => .tup (xs.l.map enc)⟩
instance [Enc α] [Enc β] : Enc (α × β) := ⟨fun p => .tup [enc p.1, enc p.2]⟩
instance [Enc α] [Enc β] [Enc γ] : Enc (T3 α β γ) := ⟨fun p => .tup [enc p.a, enc p.b, enc p.c]⟩
instance [Enc α] [Enc β] [Enc γ] [Enc δ] : Enc (T4 α β γ δ) := ⟨fun p => .tup [enc p.a, enc p.b, enc p.c, enc p.d]⟩
instance [Enc α] [Enc β] [Enc γ] [Enc δ] [Enc ε] : Enc (T5 α β γ δ ε) := ⟨fun p => .tup [enc p.a, enc p.b, enc p.c, enc p.d, enc p.e]⟩
def encO [Enc α] : Option α → D
  | none => .non
  | some a => enc a
instance [Enc α] : Enc (Option α) := ⟨encO⟩
abbrev encs [Enc α] (xs : List α) : List D := xs.map enc
end
class EqE (α : Type) [Enc α] where
  dep : Nat
  lay : ∀ a : α, ∃ p, toP (enc a) = some p ∧ p.plain = true ∧ p.depth ≤ dep
  eqv : ∀ (a b : α) p q, toP (enc a) = some p → toP (enc b) = some q → (PyData.eqv p q = true ↔ a = b)
class LayE (α : Type) [Enc α] : Prop where
  can : ∀ (a : α) p, toP (enc a) = some p → p.canLay0 = true
class NoN (α : Type) [Enc α] where
  nn : ∀ a : α, toP (enc a) ≠ some .none
section
variable {α β γ δ ε : Type}
instance : EqE Int where
  dep := 0
  lay := fun a => ⟨.int a, rfl, rfl, Nat.le_refl _⟩
  eqv := fun a b p q h1 h2 => by cases h1; cases h2; simp [PyData.eqv]
instance : EqE Bool where
  dep := 0
  lay := fun a => ⟨.bool a, rfl, rfl, Nat.le_refl _⟩
  eqv := fun a b p q h1 h2 => by cases h1; cases h2; simp [PyData.eqv]
instance : EqE Str where
  dep := 0
  lay := fun a => ⟨.str a, rfl, rfl, Nat.le_refl _⟩
  eqv := fun a b p q h1 h2 => by cases h1; cases h2; simp [PyData.eqv]
instance : LayE Int := ⟨fun a p h => by cases h; rfl⟩
instance : LayE Bool := ⟨fun a p h => by cases h; rfl⟩
theorem toPs_can [Enc α] [LayE α] : ∀ (xs : List α) ps, toPs (xs.map enc) = some ps → PyData.canLayAll0 ps = true
  | [], ps, h => by cases h; rfl
  | x :: xs, ps, h => by
    have h' : (match toP (enc x), toPs (xs.map enc) with | some p, some ps => some (p :: ps) | _, _ => none) = some ps := h
    cases z1 : toP (enc x) with
    | none => rw [z1] at h'; cases h'
    | some p => cases z2 : toPs (xs.map enc) with
      | none => rw [z1, z2] at h'; cases h'
      | some ps2 => rw [z1, z2] at h'; cases h'; simp only [PyData.canLayAll0, LayE.can x p z1, toPs_can xs ps2 z2, Bool.and_self]
instance [Enc α] [LayE α] : LayE (List α) := ⟨fun a p h => by
  have h' : (toPs (a.map enc)).map PyData.list = some p := h
  cases z : toPs (a.map enc) with
  | none => rw [z] at h'; cases h'
  | some ps => rw [z] at h'; cases h'; simp only [PyData.canLay0, toPs_can a ps z]⟩
instance : NoN Str := ⟨fun a h => by cases h⟩
instance : NoN Int := ⟨fun a h => by cases h⟩
instance : NoN Bool := ⟨fun a h => by cases h⟩
theorem toPs_lay [Enc α] [EqE α] : ∀ xs : List α, ∃ ps, toPs (xs.map enc) = some ps ∧ PyData.plainAll ps = true ∧ PyData.depthAll ps ≤ EqE.dep α
  | [] => ⟨[], rfl, rfl, by simp [PyData.depthAll]⟩
  | x :: xs => by
    obtain ⟨p, h1, h2, h3⟩ := EqE.lay x
    obtain ⟨ps, k1, k2, k3⟩ := toPs_lay xs
    refine ⟨p :: ps, ?_, by simp [PyData.plainAll, h2, k2], ?_⟩
    · show toPs (enc x :: xs.map enc) = _
      unfold toPs; rw [h1, k1]
    · simp only [PyData.depthAll]; omega
theorem toPs_eqv [Enc α] [EqE α] : ∀ (xs ys : List α) ps qs, toPs (xs.map enc) = some ps → toPs (ys.map enc) = some qs → (PyData.eqvAll ps qs = true ↔ xs = ys)
  | [], [], ps, qs, h1, h2 => by cases h1; cases h2; simp [PyData.eqvAll]
  | [], y :: ys, ps, qs, h1, h2 => by
    cases h1
    obtain ⟨q, l1, _⟩ := EqE.lay y
    obtain ⟨qs', l2, _⟩ := toPs_lay ys
    have : toPs ((y :: ys).map enc) = some (q :: qs') := by show toPs (enc y :: ys.map enc) = _; unfold toPs; rw [l1, l2]
    rw [this] at h2; cases h2; simp [PyData.eqvAll]
  | x :: xs, [], ps, qs, h1, h2 => by
    cases h2
    obtain ⟨q, l1, _⟩ := EqE.lay x
    obtain ⟨qs', l2, _⟩ := toPs_lay xs
    have : toPs ((x :: xs).map enc) = some (q :: qs') := by show toPs (enc x :: xs.map enc) = _; unfold toPs; rw [l1, l2]
    rw [this] at h1; cases h1; simp [PyData.eqvAll]
  | x :: xs, y :: ys, ps, qs, h1, h2 => by
    obtain ⟨p, l1, _⟩ := EqE.lay x
    obtain ⟨ps', l2, _⟩ := toPs_lay xs
    obtain ⟨q, m1, _⟩ := EqE.lay y
    obtain ⟨qs', m2, _⟩ := toPs_lay ys
    have a1 : toPs ((x :: xs).map enc) = some (p :: ps') := by show toPs (enc x :: xs.map enc) = _; unfold toPs; rw [l1, l2]
    have a2 : toPs ((y :: ys).map enc) = some (q :: qs') := by show toPs (enc y :: ys.map enc) = _; unfold toPs; rw [m1, m2]
    rw [a1] at h1; rw [a2] at h2
    cases h1; cases h2
    simp only [PyData.eqvAll, Bool.and_eq_true, EqE.eqv x y p q l1 m1, toPs_eqv xs ys ps' qs' l2 m2, List.cons.injEq]
instance [Enc α] [EqE α] : EqE (List α) where
  dep := EqE.dep α + 1
  lay := fun xs => by
    obtain ⟨ps, k1, k2, k3⟩ := toPs_lay xs
    exact ⟨.list ps, by show (toPs (xs.map enc)).map _ = _; rw [k1]; rfl, by simpa [PyData.plain] using k2, by simp only [PyData.depth]; omega⟩
  eqv := fun xs ys p q h1 h2 => by
    obtain ⟨ps, k1, _⟩ := toPs_lay xs
    obtain ⟨qs, l1, _⟩ := toPs_lay ys
    have e1 : toP (enc xs) = some (.list ps) := by show (toPs (xs.map enc)).map _ = _; rw [k1]; rfl
    have e2 : toP (enc ys) = some (.list qs) := by show (toPs (ys.map enc)).map _ = _; rw [l1]; rfl
    rw [e1] at h1; rw [e2] at h2; cases h1; cases h2
    simp only [PyData.eqv]
    exact toPs_eqv xs ys ps qs k1 l1
instance [Enc α] : NoN (List α) := ⟨fun a h => by
  have h' : (toPs (a.map enc)).map PyData.list = some .none := h
  cases z : toPs (a.map enc) <;> rw [z] at h' <;> cases h'⟩
instance [Enc α] [EqE α] : EqE (Tup α) where
  dep := EqE.dep α + 1
  lay := fun xs => by
    obtain ⟨ps, k1, k2, k3⟩ := toPs_lay xs.l
    exact ⟨.tuple ps, by show (toPs (xs.l.map enc)).map _ = _; rw [k1]; rfl, by simpa [PyData.plain] using k2, by simp only [PyData.depth]; omega⟩
  eqv := fun xs ys p q h1 h2 => by
    obtain ⟨ps, k1, _⟩ := toPs_lay xs.l
    obtain ⟨qs, l1, _⟩ := toPs_lay ys.l
    have e1 : toP (enc xs) = some (.tuple ps) := by show (toPs (xs.l.map enc)).map _ = _; rw [k1]; rfl
    have e2 : toP (enc ys) = some (.tuple qs) := by show (toPs (ys.l.map enc)).map _ = _; rw [l1]; rfl
    rw [e1] at h1; rw [e2] at h2; cases h1; cases h2
    simp only [PyData.eqv]
    rw [toPs_eqv xs.l ys.l ps qs k1 l1]
    cases xs; cases ys; simp
theorem toP_tup2 {ds : List D} {ps : List PyData} (h : toPs ds = some ps) : toP (.tup ds) = some (.tuple ps) := by show (toPs ds).map _ = _; rw [h]; rfl
instance [Enc α] [EqE α] [Enc β] [EqE β] : EqE (α × β) where
  dep := max (EqE.dep α) (EqE.dep β) + 1
  lay := fun x => by
    obtain ⟨p, h1, h2, h3⟩ := EqE.lay x.1
    obtain ⟨q, k1, k2, k3⟩ := EqE.lay x.2
    refine ⟨.tuple [p, q], toP_tup2 (by simp [toPs, h1, k1]), by simp [PyData.plain, PyData.plainAll, h2, k2], ?_⟩
    simp only [PyData.depth, PyData.depthAll]; omega
  eqv := fun x y p q h1 h2 => by
    obtain ⟨p1, a1, _⟩ := EqE.lay x.1
    obtain ⟨p2, a2, _⟩ := EqE.lay x.2
    obtain ⟨q1, b1, _⟩ := EqE.lay y.1
    obtain ⟨q2, b2, _⟩ := EqE.lay y.2
    have e1 : toP (enc x) = some (.tuple [p1, p2]) := toP_tup2 (by simp [toPs, a1, a2])
    have e2 : toP (enc y) = some (.tuple [q1, q2]) := toP_tup2 (by simp [toPs, b1, b2])
    rw [e1] at h1; rw [e2] at h2; cases h1; cases h2
    simp only [PyData.eqv, PyData.eqvAll, Bool.and_true, Bool.and_eq_true, EqE.eqv _ _ _ _ a1 b1, EqE.eqv _ _ _ _ a2 b2]
    exact ⟨fun h => Prod.ext h.1 h.2, fun h => by rw [h]; exact ⟨rfl, rfl⟩⟩
instance [Enc α] [Enc β] : NoN (α × β) := ⟨fun a h => by
  have h' : (toPs [enc a.1, enc a.2]).map PyData.tuple = some .none := h
  cases z : toPs [enc a.1, enc a.2] <;> rw [z] at h' <;> cases h'⟩
instance [Enc α] : NoN (Tup α) := ⟨fun a h => by
  have h' : (toPs (a.l.map enc)).map PyData.tuple = some .none := h
  cases z : toPs (a.l.map enc) <;> rw [z] at h' <;> cases h'⟩
instance [Enc α] [EqE α] [Enc β] [EqE β] [Enc γ] [EqE γ] : EqE (T3 α β γ) where
  dep := max (EqE.dep α) (max (EqE.dep β) (EqE.dep γ)) + 1
  lay := fun x => by
    obtain ⟨p, h1, h2, h3⟩ := EqE.lay x.a
    obtain ⟨q, k1, k2, k3⟩ := EqE.lay x.b
    obtain ⟨r, l1, l2, l3⟩ := EqE.lay x.c
    refine ⟨.tuple [p, q, r], toP_tup2 (by simp [toPs, h1, k1, l1]), by simp [PyData.plain, PyData.plainAll, h2, k2, l2], ?_⟩
    simp only [PyData.depth, PyData.depthAll]; omega
  eqv := fun x y p q h1 h2 => by
    obtain ⟨p1, a1, _⟩ := EqE.lay x.a
    obtain ⟨p2, a2, _⟩ := EqE.lay x.b
    obtain ⟨p3, a3, _⟩ := EqE.lay x.c
    obtain ⟨q1, b1, _⟩ := EqE.lay y.a
    obtain ⟨q2, b2, _⟩ := EqE.lay y.b
    obtain ⟨q3, b3, _⟩ := EqE.lay y.c
    have e1 : toP (enc x) = some (.tuple [p1, p2, p3]) := toP_tup2 (by simp [toPs, a1, a2, a3])
    have e2 : toP (enc y) = some (.tuple [q1, q2, q3]) := toP_tup2 (by simp [toPs, b1, b2, b3])
    rw [e1] at h1; rw [e2] at h2; cases h1; cases h2
    simp only [PyData.eqv, PyData.eqvAll, Bool.and_true, Bool.and_eq_true, EqE.eqv _ _ _ _ a1 b1, EqE.eqv _ _ _ _ a2 b2, EqE.eqv _ _ _ _ a3 b3]
    cases x; cases y; simp
instance [Enc α] [Enc β] [Enc γ] : NoN (T3 α β γ) := ⟨fun a h => by
  have h' : (toPs [enc a.a, enc a.b, enc a.c]).map PyData.tuple = some .none := h
  cases z : toPs [enc a.a, enc a.b, enc a.c] <;> rw [z] at h' <;> cases h'⟩
instance [Enc α] [EqE α] [Enc β] [EqE β] [Enc γ] [EqE γ] [Enc δ] [EqE δ] : EqE (T4 α β γ δ) where
  dep := max (max (EqE.dep α) (EqE.dep δ)) (max (EqE.dep β) (EqE.dep γ)) + 1
  lay := fun x => by
    obtain ⟨p, h1, h2, h3⟩ := EqE.lay x.a
    obtain ⟨q, k1, k2, k3⟩ := EqE.lay x.b
    obtain ⟨r, l1, l2, l3⟩ := EqE.lay x.c
    obtain ⟨s, m1, m2, m3⟩ := EqE.lay x.d
    refine ⟨.tuple [p, q, r, s], toP_tup2 (by simp [toPs, h1, k1, l1, m1]), by simp [PyData.plain, PyData.plainAll, h2, k2, l2, m2], ?_⟩
    simp only [PyData.depth, PyData.depthAll]; omega
  eqv := fun x y p q h1 h2 => by
    obtain ⟨p1, a1, _⟩ := EqE.lay x.a
    obtain ⟨p2, a2, _⟩ := EqE.lay x.b
    obtain ⟨p3, a3, _⟩ := EqE.lay x.c
    obtain ⟨p4, a4, _⟩ := EqE.lay x.d
    obtain ⟨q1, b1, _⟩ := EqE.lay y.a
    obtain ⟨q2, b2, _⟩ := EqE.lay y.b
    obtain ⟨q3, b3, _⟩ := EqE.lay y.c
    obtain ⟨q4, b4, _⟩ := EqE.lay y.d
    have e1 : toP (enc x) = some (.tuple [p1, p2, p3, p4]) := toP_tup2 (by simp [toPs, a1, a2, a3, a4])
    have e2 : toP (enc y) = some (.tuple [q1, q2, q3, q4]) := toP_tup2 (by simp [toPs, b1, b2, b3, b4])
    rw [e1] at h1; rw [e2] at h2; cases h1; cases h2
    simp only [PyData.eqv, PyData.eqvAll, Bool.and_true, Bool.and_eq_true, EqE.eqv _ _ _ _ a1 b1, EqE.eqv _ _ _ _ a2 b2, EqE.eqv _ _ _ _ a3 b3, EqE.eqv _ _ _ _ a4 b4]
    cases x; cases y; simp
theorem toP_some [Enc α] (a : α) : toP (enc (some a)) = toP (enc a) := (rfl)
theorem eqv_non_l : ∀ q : PyData, PyData.eqv .none q = true ↔ q = .none := by intro q; cases q <;> simp [PyData.eqv]
theorem eqv_non_r : ∀ q : PyData, PyData.eqv q .none = true ↔ q = .none := by intro q; cases q <;> simp [PyData.eqv]
instance [Enc α] [EqE α] [NoN α] : EqE (Option α) where
  dep := EqE.dep α
  lay := fun x => match x with
    | none => ⟨.none, rfl, rfl, Nat.zero_le _⟩
    | some a => EqE.lay a
  eqv := fun x y p q h1 h2 => by
    cases x with
    | none =>
      cases h1
      rw [eqv_non_l]
      cases y with
      | none => cases h2; simp
      | some b =>
        have := NoN.nn b
        rw [toP_some] at h2
        constructor
        · intro e; subst e; exact absurd h2 this
        · intro e; cases e
    | some a =>
      cases y with
      | none =>
        cases h2
        rw [eqv_non_r]
        have := NoN.nn a
        rw [toP_some] at h1
        constructor
        · intro e; subst e; exact absurd h1 this
        · intro e; cases e
      | some b =>
        rw [toP_some] at h1 h2
        rw [EqE.eqv a b p q h1 h2]
        simp
theorem shaped_enc [Enc α] [EqE α] (a : α) (hd : EqE.dep α ≤ 64) : ∃ p, toP (enc a) = some p ∧ shp p = true := by
  obtain ⟨p, h1, h2, h3⟩ := EqE.lay a
  exact ⟨p, h1, by simp [shp, h2]; omega⟩
theorem eqD_enc [Enc α] [EqE α] [DecidableEq α] (a b : α) (hd : EqE.dep α ≤ 64) : eqD (enc a) (enc b) = some (decide (a = b)) := by
  obtain ⟨p, h1, h2⟩ := shaped_enc a hd
  obtain ⟨q, k1, k2⟩ := shaped_enc b hd
  have e := EqE.eqv a b p q h1 k1
  unfold eqD
  rw [h1, k1]
  simp only
  rw [if_pos (by simp [h2, k2])]
  by_cases h : a = b
  · rw [e.mpr h, decide_eq_true h]
  · rw [decide_eq_false h]
    cases z : PyData.eqv p q with
    | true => exact absurd (e.mp z) h
    | false => rfl
theorem fEq_enc [Enc α] [EqE α] [DecidableEq α] (a b : α) (hd : EqE.dep α ≤ 64) : fEq (enc a) (enc b) = some (.bl (decide (a = b))) := by
  unfold fEq; rw [eqD_enc a b hd]; rfl
theorem fNe_enc [Enc α] [EqE α] [DecidableEq α] (a b : α) (hd : EqE.dep α ≤ 64) : fNe (enc a) (enc b) = some (.bl (decide (a ≠ b))) := by
  unfold fNe; rw [eqD_enc a b hd]; simp
theorem eqF_eqv : ∀ {a b : D} {p q : PyData}, flatD a = true → flatD b = true → toP a = some p → toP b = some q → eqF a b = PyData.eqv p q := by
  intro a b p q ha hb h1 h2
  cases a <;> cases ha <;> cases b <;> cases hb <;> cases h1 <;> cases h2 <;> rfl
theorem any_mem [Enc α] [EqE α] [DecidableEq α] (a : α) (p : PyData) (ha : toP (enc a) = some p) : ∀ (xs : List α) (ps : List PyData), toPs (xs.map enc) = some ps → (ps.any fun z => PyData.eqv z p) = decide (a ∈ xs)
  | [], ps, h => by cases h; simp
  | x :: xs, ps, h => by
    obtain ⟨q, l1, _⟩ := EqE.lay x
    obtain ⟨qs, l2, _⟩ := toPs_lay xs
    have e : toPs ((x :: xs).map enc) = some (q :: qs) := by show toPs (enc x :: xs.map enc) = _; unfold toPs; rw [l1, l2]
    rw [e] at h; cases h
    rw [List.any_cons, any_mem a p ha xs qs l2]
    have e2 := EqE.eqv x a q p l1 ha
    by_cases hx : a = x
    · subst hx; rw [e2.mpr rfl]; simp
    · have : PyData.eqv q p = false := by
        cases z : PyData.eqv q p with
        | true => exact absurd (e2.mp z).symm hx
        | false => rfl
      rw [this]; simp [hx]
theorem inD_enc [Enc α] [EqE α] [DecidableEq α] (a : α) (xs : List α) (hd : EqE.dep α ≤ 63) : inD (enc a) (.lst (xs.map enc)) = some (decide (a ∈ xs)) := by
  obtain ⟨p, h1, h2⟩ := shaped_enc a (by omega)
  obtain ⟨ps, k1, k2, k3⟩ := toPs_lay xs
  unfold inD
  dsimp only
  by_cases hf : (flatD (enc a) && (xs.map enc).all flatD) = true
  · rw [if_pos hf]
    rw [Bool.and_eq_true] at hf
    congr 1
    rw [← any_mem a p h1 xs ps k1]
    have : ∀ (ds : List D) (ps : List PyData), ds.all flatD = true → toPs ds = some ps → (ds.any fun y => eqF y (enc a)) = ps.any fun z => PyData.eqv z p := by
      intro ds
      induction ds with
      | nil => intro ps _ h; cases h; rfl
      | cons d ds ih =>
        intro ps hall h
        rw [List.all_cons, Bool.and_eq_true] at hall
        unfold toPs at h
        cases z1 : toP d with
        | none => rw [z1] at h; cases h
        | some r =>
          cases z2 : toPs ds with
          | none => rw [z1, z2] at h; cases h
          | some rs =>
            rw [z1, z2] at h; cases h
            rw [List.any_cons, List.any_cons, ih rs hall.2 z2, eqF_eqv hall.1 hf.1 z1 h1]
    exact this _ _ hf.2 k1
  · rw [if_neg hf, h1, k1]
    simp only
    rw [if_pos (by
      rw [Bool.and_eq_true]
      refine ⟨h2, ?_⟩
      simp [shp, PyData.plain, PyData.depth, k2]; omega), any_mem a p h1 xs ps k1]
theorem fIn_enc [Enc α] [EqE α] [DecidableEq α] (a : α) (xs : List α) (hd : EqE.dep α ≤ 63) : fIn (enc a) (.lst (xs.map enc)) = some (.bl (decide (a ∈ xs))) := by
  unfold fIn; rw [inD_enc a xs hd]; rfl
end
end VF
set_option maxRecDepth 100000
set_option maxHeartbeats 4000000
namespace VF
set_option autoImplicit false
open PySem L2
open Enc (enc)
inductive SD where
  | fz (d : D) | ol (ds : List D) | clr | val (d : D) | cf | any | x (s : SV)
def SD.ok : SD → Option SV → Prop
  | .fz d, o => o = some (.fz d)
  | .ol ds, o => o = some (.ol (fzs ds))
  | .clr, o => o = none
  | .val d, o => o = some (.fz d) ∨ ∃ ds, d = .lst ds ∧ o = some (.ol (fzs ds))
  | .cf, o => o = none ∨ ∃ d, o = some (.fz d)
  | .any, _ => True
  | .x s, o => o = some s
def F2 : List SD → List (Option SV) → Prop
  | [], [] => True
  | s :: S, o :: l => s.ok o ∧ F2 S l
  | _, _ => False
theorem F2.get : ∀ {S : List SD} {l : List (Option SV)} {i : Nat} {s : SD}, F2 S l → S[i]? = some s → ∃ o, l[i]? = some o ∧ s.ok o
  | s :: S, o :: l, 0, s', h, e => by cases e; exact ⟨o, rfl, h.1⟩
  | s :: S, o :: l, i + 1, s', h, e => by
    obtain ⟨o', h1, h2⟩ := F2.get (i := i) h.2 (by simpa using e)
    exact ⟨o', by simpa using h1, h2⟩
  | [], _, _, _, _, e => by simp at e
  | _ :: _, [], _, _, h, _ => h.elim
theorem F2.set : ∀ {S : List SD} {l : List (Option SV)} {s : SD} {o : Option SV} (i : Nat), F2 S l → s.ok o → F2 (S.set i s) (l.set i o)
  | s' :: S, o' :: l, s, o, 0, h, k => ⟨k, h.2⟩
  | s' :: S, o' :: l, s, o, i + 1, h, k => ⟨h.1, F2.set i h.2 k⟩
  | [], [], _, _, _, _, _ => trivial
  | [], _ :: _, _, _, _, h, _ => h.elim
  | _ :: _, [], _, _, _, h, _ => h.elim
structure Has (pn : List Nat) (S : List SD) (e : Env) : Prop where
  pn : e.pn = pn
  sl : F2 S e.sl
inductive W : List SD → List SD → Prop
  | nil : W [] []
  | rf {s : SD} {S S' : List SD} : W S S' → W (s :: S) (s :: S')
  | an {s : SD} {S S' : List SD} : W S S' → W (s :: S) (.any :: S')
  | cc {S S' : List SD} : W S S' → W (.clr :: S) (.cf :: S')
  | cz {d : D} {S S' : List SD} : W S S' → W (.fz d :: S) (.cf :: S')
  | vz {d : D} {S S' : List SD} : W S S' → W (.fz d :: S) (.val d :: S')
  | vo {ds : List D} {S S' : List SD} : W S S' → W (.ol ds :: S) (.val (.lst ds) :: S')
theorem W.refl : ∀ S : List SD, W S S
  | [] => .nil
  | _ :: S => .rf (W.refl S)
theorem F2.weak {S S' : List SD} (w : W S S') : ∀ {l : List (Option SV)}, F2 S l → F2 S' l := by
  induction w with
  | nil => intro l h; exact h
  | rf w ih => intro l h; cases l with
    | nil => exact h.elim
    | cons o l => exact ⟨h.1, ih h.2⟩
  | an w ih => intro l h; cases l with
    | nil => exact h.elim
    | cons o l => exact ⟨trivial, ih h.2⟩
  | cc w ih => intro l h; cases l with
    | nil => exact h.elim
    | cons o l => exact ⟨.inl h.1, ih h.2⟩
  | cz w ih => intro l h; cases l with
    | nil => exact h.elim
    | cons o l => exact ⟨.inr ⟨_, h.1⟩, ih h.2⟩
  | vz w ih => intro l h; cases l with
    | nil => exact h.elim
    | cons o l => exact ⟨.inl h.1, ih h.2⟩
  | vo w ih => intro l h; cases l with
    | nil => exact h.elim
    | cons o l => exact ⟨.inr ⟨_, rfl, h.1⟩, ih h.2⟩
theorem Has.weak {pn : List Nat} {S S' : List SD} {e : Env} (h : Has pn S e) (w : W S S') : Has pn S' e := ⟨h.pn, h.sl.weak w⟩
theorem Has.setS {pn : List Nat} {S : List SD} {e : Env} {s : SD} {v : SV} (h : Has pn S e) (i : Nat) (k : s.ok (some v)) : Has pn (S.set i s) (e.setS i v) := ⟨h.pn, h.sl.set i k⟩
theorem Has.clr {pn : List Nat} {S : List SD} {e : Env} (h : Has pn S e) (i : Nat) : Has pn (S.set i .clr) (e.clr i) := ⟨h.pn, h.sl.set i rfl⟩
inductive Opd where
  | f (d : D) | w (ds : List D) | y (d : D) | v (i : Nat) | u (i : Nat) (d : D) | o (s : SV)
def ROk : RV → Opd → Prop
  | r, .f d => r = .fz d
  | r, .w ds => r = .own (.ol (fzs ds))
  | r, .y d => r = .fz d ∨ ∃ ds, d = .lst ds ∧ r = .own (.ol (fzs ds))
  | r, .v i => r = .var i
  | r, .u i d => r = .fz d ∨ r = .var i
  | r, .o s => r = .own s
inductive Dt (S : List SD) : Opd → D → Prop
  | f {d : D} : Dt S (.f d) d
  | w {ds : List D} : Dt S (.w ds) (.lst ds)
  | y {d : D} : Dt S (.y d) d
  | v {i : Nat} {ds : List D} : S[i]? = some (.ol ds) → Dt S (.v i) (.lst ds)
  | vz {i : Nat} {d : D} : S[i]? = some (.fz d) → Dt S (.v i) d
  | u {i : Nat} {d : D} : S[i]? = some (.val d) → Dt S (.u i d) d
  | o {c : Str} {ns : List Str} {xs : List SV} {d : D} : SV.toD (.oo c ns xs) = d → Dt S (.o (.oo c ns xs)) d
  | x {i : Nat} {c : Str} {ns : List Str} {xs : List SV} {d : D} : S[i]? = some (.x (.oo c ns xs)) → SV.toD (.oo c ns xs) = d → Dt S (.v i) d
section
variable {pn : List Nat} {S S' S1 S2 : List SD} {e : Env} {r : RV} {o : Opd} {d : D}
theorem Has.slot (h : Has pn S e) {i : Nat} {s : SD} (q : S[i]? = some s) : ∃ o, e.sl[i]? = some o ∧ s.ok o := h.sl.get q
theorem view_of {i : Nat} {s : SV} (h : e.sl[i]? = some (some s)) : VF.view e (.var i) = some s.toD := by unfold VF.view; simp only [h]
theorem frz_of {i : Nat} {s : SV} (h : e.sl[i]? = some (some s)) : VF.frzR (.var i) e = some (s.toD, e.setS i (.fz s.toD)) := by unfold VF.frzR; simp only [h]
theorem Dt.view (h : Has pn S e) (k : ROk r o) (q : Dt S o d) : view e r = some d := by
  cases q with
  | f => cases k; rfl
  | w => cases k; show some (SV.toD _) = _; rw [toD_ol]
  | y => rcases k with rfl | ⟨ds, rfl, rfl⟩
         · rfl
         · show some (SV.toD _) = _; rw [toD_ol]
  | v q =>
    cases k
    obtain ⟨o, h1, h2⟩ := h.slot q
    cases h2
    rw [view_of h1, toD_ol]
  | vz q =>
    cases k
    obtain ⟨o, h1, h2⟩ := h.slot q
    cases h2
    rw [view_of h1]; rfl
  | u q =>
    rcases k with rfl | rfl
    · rfl
    · obtain ⟨o, h1, h2⟩ := h.slot q
      rcases h2 with rfl | ⟨ds, rfl, rfl⟩
      · rw [view_of h1]; rfl
      · rw [view_of h1, toD_ol]
  | o e => cases k; subst e; rfl
  | x q e =>
    cases k
    subst e
    obtain ⟨o, h1, h2⟩ := h.slot q
    cases h2
    rw [view_of h1]
inductive Fz (S : List SD) : Opd → D → List SD → Prop
  | f {d : D} : Fz S (.f d) d S
  | w {ds : List D} : Fz S (.w ds) (.lst ds) S
  | y {d : D} : Fz S (.y d) d S
  | v {i : Nat} {ds : List D} : S[i]? = some (.ol ds) → Fz S (.v i) (.lst ds) (S.set i (.fz (.lst ds)))
  | vz {i : Nat} {d : D} : S[i]? = some (.fz d) → Fz S (.v i) d (S.set i (.fz d))
  | u {i : Nat} {d : D} : S[i]? = some (.val d) → Fz S (.u i d) d S
  | o {s : SV} : Fz S (.o s) s.toD S
  | x {i : Nat} {s : SV} : S[i]? = some (.x s) → Fz S (.v i) s.toD (S.set i (.fz s.toD))
theorem F2.same : ∀ {S : List SD} {l : List (Option SV)} {s : SD} {o : Option SV} {i : Nat}, F2 S l → S[i]? = some s → s.ok o → F2 S (l.set i o)
  | s' :: S, o' :: l, s, o, 0, h, q, k => by cases q; exact ⟨k, h.2⟩
  | s' :: S, o' :: l, s, o, i + 1, h, q, k => ⟨h.1, F2.same (i := i) h.2 (by simpa using q) k⟩
  | [], [], _, _, _, _, q, _ => by simp at q
  | [], _ :: _, _, _, _, h, _, _ => h.elim
  | _ :: _, [], _, _, _, h, _, _ => h.elim
theorem Fz.frz (h : Has pn S e) (k : ROk r o) (q : Fz S o d S') : ∃ e', frzR r e = some (d, e') ∧ Has pn S' e' := by
  cases q with
  | f => cases k; exact ⟨e, rfl, h⟩
  | w => cases k; exact ⟨e, by show some (SV.toD _, e) = _; rw [toD_ol], h⟩
  | y => rcases k with rfl | ⟨ds, rfl, rfl⟩
         · exact ⟨e, rfl, h⟩
         · exact ⟨e, by show some (SV.toD _, e) = _; rw [toD_ol], h⟩
  | v q =>
    cases k
    obtain ⟨o, h1, h2⟩ := h.slot q
    cases h2
    exact ⟨_, by rw [frz_of h1, toD_ol], h.setS _ rfl⟩
  | vz q =>
    cases k
    obtain ⟨o, h1, h2⟩ := h.slot q
    cases h2
    exact ⟨_, by rw [frz_of h1]; rfl, h.setS _ rfl⟩
  | u q =>
    rcases k with rfl | rfl
    · exact ⟨e, rfl, h⟩
    · obtain ⟨o, h1, h2⟩ := h.slot q
      rcases h2 with rfl | ⟨ds, rfl, rfl⟩
      · exact ⟨e.setS _ (.fz d), by rw [frz_of h1]; rfl, ⟨h.pn, h.sl.same q (.inl rfl)⟩⟩
      · exact ⟨e.setS _ (.fz (.lst ds)), by rw [frz_of h1, toD_ol], ⟨h.pn, h.sl.same q (.inl rfl)⟩⟩
  | o => cases k; exact ⟨e, rfl, h⟩
  | x q =>
    cases k
    obtain ⟨o, h1, h2⟩ := h.slot q
    cases h2
    exact ⟨_, by rw [frz_of h1], h.setS _ rfl⟩
inductive Fzs : List SD → List Opd → List D → List SD → Prop
  | nil {S : List SD} : Fzs S [] [] S
  | cons {S S1 S2 : List SD} {o : Opd} {os : List Opd} {d : D} {ds : List D} : Fz S o d S1 → Fzs S1 os ds S2 → Fzs S (o :: os) (d :: ds) S2
def ROks : List RV → List Opd → Prop
  | [], [] => True
  | r :: rs, o :: os => ROk r o ∧ ROks rs os
  | _, _ => False
theorem Fzs.frz {os : List Opd} {ds : List D} (q : Fzs S os ds S') : ∀ {e : Env} {rs : List RV}, Has pn S e → ROks rs os → ∃ e', frzRs rs e = some (ds, e') ∧ Has pn S' e' := by
  induction q with
  | nil => intro e rs h k; cases rs with
    | nil => exact ⟨e, rfl, h⟩
    | cons _ _ => exact k.elim
  | cons q1 q2 ih => intro e rs h k; cases rs with
    | nil => exact k.elim
    | cons r rs =>
      obtain ⟨e1, h1, h2⟩ := q1.frz h k.1
      obtain ⟨e2, h3, h4⟩ := ih h2 k.2
      refine ⟨e2, ?_, h4⟩
      unfold frzRs
      simp only [h1, h3]
inductive Dts (S : List SD) : List Opd → List D → Prop
  | nil : Dts S [] []
  | cons {o : Opd} {os : List Opd} {d : D} {ds : List D} : Dt S o d → Dts S os ds → Dts S (o :: os) (d :: ds)
theorem Dts.view {os : List Opd} {ds : List D} (q : Dts S os ds) : ∀ {rs : List RV}, Has pn S e → ROks rs os → rs.mapM (VF.view e) = some ds := by
  induction q with
  | nil => intro rs h k; cases rs with
    | nil => rfl
    | cons _ _ => exact k.elim
  | cons q1 q2 ih => intro rs h k; cases rs with
    | nil => exact k.elim
    | cons r rs => simp [Dt.view h k.1 q1, ih h k.2]
inductive St (S : List SD) (i : Nat) : Opd → List SD → Prop
  | f {d : D} : St S i (.f d) (S.set i (.fz d))
  | w {ds : List D} : St S i (.w ds) (S.set i (.ol ds))
  | y {d : D} : St S i (.y d) (S.set i (.val d))
  | v {j : Nat} {ds : List D} : S[j]? = some (.ol ds) → St S i (.v j) ((S.set j (.fz (.lst ds))).set i (.fz (.lst ds)))
  | u {j : Nat} {d : D} : S[j]? = some (.val d) → St S i (.u j d) ((S.set j (.val d)).set i (.val d))
  | o {s : SV} : St S i (.o s) (S.set i (.x s))
theorem St.put {i : Nat} (h : Has pn S e) (k : ROk r o) (q : St S i o S') (hi : i ∉ pn) : ∃ e', putR i r e = some e' ∧ Has pn S' e' := by
  have hi' : i ∉ e.pn := by rw [h.pn]; exact hi
  unfold putR
  rw [if_neg hi']
  cases q with
  | f => cases k; exact ⟨_, rfl, h.setS (s := .fz _) i rfl⟩
  | w => cases k; exact ⟨_, rfl, h.setS (s := .ol _) i rfl⟩
  | o => cases k; exact ⟨_, rfl, h.setS (s := .x _) i rfl⟩
  | y => rcases k with rfl | ⟨ds, rfl, rfl⟩
         · exact ⟨_, rfl, h.setS (s := .val _) i (.inl rfl)⟩
         · exact ⟨_, rfl, h.setS (s := .val _) i (.inr ⟨_, rfl, rfl⟩)⟩
  | v q =>
    cases k
    obtain ⟨o, h1, h2⟩ := h.slot q
    cases h2
    refine ⟨_, by simp only [h1, toD_ol]; rfl, ?_⟩
    exact (h.setS (s := .fz _) _ rfl).setS (s := .fz _) _ rfl
  | u q =>
    rcases k with rfl | rfl
    · refine ⟨_, rfl, ?_⟩
      rename_i j d
      refine ⟨h.pn, F2.set i ?_ (.inl rfl)⟩
      have same : S.set j (.val d) = S := by
        obtain ⟨hl, hg⟩ := List.getElem?_eq_some_iff.mp q
        exact List.ext_getElem? fun n => by
          rw [List.getElem?_set]
          split
          · rename_i c; subst c; rw [q]
          · rfl
      rw [same]; exact h.sl
    · obtain ⟨o, h1, h2⟩ := h.slot q
      rcases h2 with rfl | ⟨ds, rfl, rfl⟩
      · exact ⟨_, by simp only [h1]; rfl, (h.setS (s := .val _) (v := .fz _) _ (.inl rfl)).setS (s := .val _) (v := .fz _) _ (.inl rfl)⟩
      · exact ⟨_, by simp only [h1, toD_ol], (h.setS (s := .val (.lst ds)) (v := .fz (.lst ds)) _ (.inl rfl)).setS (s := .val (.lst ds)) (v := .fz (.lst ds)) _ (.inl rfl)⟩
end
def SmD {α β : Type} (r : R β) (p : Res α) (G : α → β → Env → Prop) (X : Exc → Env → Prop) : Prop := match p with
  | .st => True
  | .ok a => ∃ b e, r = .ok b e ∧ G a b e
  | .ex x => ∃ e, r = .ex x e ∧ X x e
structure Sm {α β : Type} (r : R β) (p : Res α) (G : α → β → Env → Prop) (X : Exc → Env → Prop) : Prop where
  run : SmD r p G X
section
variable {α β γ δ : Type} {X : Exc → Env → Prop}
theorem Sm.bind {r : R β} {p : Res α} {G : α → β → Env → Prop} {K : β → M δ} {q : α → Res γ} {G' : γ → δ → Env → Prop} (h : Sm r p G X) (k : ∀ a b e, G a b e → Sm (K b e) (q a) G' X) : Sm (r.bind K) (p.bind q) G' X := by
  cases p with
  | st => first | trivial | exact ⟨trivial⟩
  | ok a => obtain ⟨b, e, rfl, h2⟩ := h; exact k a b e h2
  | ex x => obtain ⟨e, rfl, h2⟩ := h; exact ⟨e, rfl, h2⟩
theorem Sm.mono {r : R β} {p : Res α} {G G' : α → β → Env → Prop} {X' : Exc → Env → Prop} (h : Sm r p G X) (k : ∀ a b e, G a b e → G' a b e) (kx : ∀ x e, X x e → X' x e) : Sm r p G' X' := by
  cases p with
  | st => first | trivial | exact ⟨trivial⟩
  | ok a => obtain ⟨b, e, h1, h2⟩ := h; exact ⟨b, e, h1, k _ _ _ h2⟩
  | ex x => obtain ⟨e, h1, h2⟩ := h; exact ⟨e, h1, kx _ _ h2⟩
def okK {β : Type} : β → M β := fun b e => .ok b e
theorem bind_okK (r : R β) : r.bind okK = r := by cases r <;> rfl
theorem Sm.top {r : R β} {p : Res α} {G : α → β → Env → Prop} (h : Sm (r.bind okK) p G X) : Sm r p G X := by rwa [bind_okK] at h
theorem rbind_assoc {a b c : Type} (r : R a) (f : a → M b) (g : b → M c) : (r.bind f).bind g = r.bind fun x e => (f x e).bind g := by cases r <;> rfl
end
def PJ (pn : List Nat) (S : List SD) (m : M RV) (o : Opd) : Prop := ∀ e, Has pn S e → ∃ r, m e = .ok r e ∧ ROk r o
def PB (pn : List Nat) (S : List SD) (m : M Bool) (c : Bool) : Prop := ∀ e, Has pn S e → m e = .ok c e
def PA (pn : List Nat) (S : List SD) (m : M (List RV)) (os : List Opd) : Prop := ∀ e, Has pn S e → ∃ rs, m e = .ok rs e ∧ ROks rs os
section
variable {pn : List Nat} {S : List SD} {a b c : M RV} {oa ob oc : Opd} {ma : M (List RV)} {os : List Opd}
theorem p_fz {i : Nat} {d : D} (q : S[i]? = some (.fz d)) : PJ pn S (dVar i) (.f d) := fun e h => by
  obtain ⟨o, h1, h2⟩ := h.slot q
  cases h2
  exact ⟨.fz d, by unfold dVar; rw [h1], rfl⟩
theorem p_ol {i : Nat} {ds : List D} (q : S[i]? = some (.ol ds)) : PJ pn S (dVar i) (.v i) := fun e h => by
  obtain ⟨o, h1, h2⟩ := h.slot q
  cases h2
  exact ⟨.var i, by unfold dVar; rw [h1], rfl⟩
theorem p_c {d : D} : PJ pn S (dC d) (.f d) := fun e h => ⟨.fz d, rfl, rfl⟩
theorem p_op {fn : D → D → Option D} {x y z : D} (ha : PJ pn S a oa) (hb : PJ pn S b ob) (da : Dt S oa x) (db : Dt S ob y) (h : fn x y = some z) : PJ pn S (dOp fn a b) (.f z) := fun e he => by
  obtain ⟨r1, h1, k1⟩ := ha e he
  obtain ⟨r2, h2, k2⟩ := hb e he
  refine ⟨.fz z, ?_, rfl⟩
  rw [ev_op, h1, bind_ok, h2, bind_ok, da.view he k1, db.view he k2]
  simp only [h]
section
variable {x y : Int} (ha : PJ pn S a oa) (hb : PJ pn S b ob) (da : Dt S oa (.int x) := by first | exact .f | exact .u rfl) (db : Dt S ob (.int y) := by first | exact .f | exact .u rfl)
include ha hb da db
theorem p_int {g : Int → Int → Int} : PJ pn S (dOp (fI g) a b) (.f (.int (g x y))) := p_op ha hb da db rfl
theorem p_cmp {g : Int → Int → Bool} : PJ pn S (dOp (fB g) a b) (.f (.bl (g x y))) := p_op ha hb da db rfl
theorem p_mulK (h : (inB x 64 || inB y 64) = true) : PJ pn S (dOp fMul a b) (.f (.int (x * y))) := p_op ha hb da db (if_pos h)
theorem p_modK (h : 0 < y) : PJ pn S (dOp fMod a b) (.f (.int (x % y))) := p_op ha hb da db (if_pos h)
theorem p_divK (h : 0 < y ∧ y < 1073741824) : PJ pn S (dOp fDiv a b) (.f (.int (x / y))) := p_op ha hb da db (if_pos h)
end
section
variable {α : Type} [Enc α] [EqE α] [DecidableEq α] {x y : α} {xs : List α} (ha : PJ pn S a oa) (hb : PJ pn S b ob)
include ha hb
theorem p_eq (da : Dt S oa (enc x) := by first | exact .f | exact .v rfl | exact .vz rfl | exact .w | exact .y | exact .u rfl) (db : Dt S ob (enc y) := by first | exact .f | exact .v rfl | exact .vz rfl | exact .w | exact .y | exact .u rfl) (hd : EqE.dep α ≤ 64 := by decide) : PJ pn S (dOp fEq a b) (.f (.bl (decide (x = y)))) := p_op ha hb da db (fEq_enc x y hd)
theorem p_ne (da : Dt S oa (enc x) := by first | exact .f | exact .v rfl | exact .vz rfl | exact .w | exact .y | exact .u rfl) (db : Dt S ob (enc y) := by first | exact .f | exact .v rfl | exact .vz rfl | exact .w | exact .y | exact .u rfl) (hd : EqE.dep α ≤ 64 := by decide) : PJ pn S (dOp fNe a b) (.f (.bl (decide (x ≠ y)))) := p_op ha hb da db (fNe_enc x y hd)
theorem p_in (da : Dt S oa (enc x) := by first | exact .f | exact .v rfl | exact .vz rfl | exact .w | exact .y | exact .u rfl) (db : Dt S ob (enc xs) := by first | exact .f | exact .v rfl | exact .vz rfl | exact .w | exact .y | exact .u rfl) (hd : EqE.dep α ≤ 63 := by decide) : PJ pn S (dOp fIn a b) (.f (.bl (decide (x ∈ xs)))) := p_op ha hb da db (fIn_enc x xs hd)
end
theorem p_notN {α : Type} [Enc α] [NoN α] {x : Option α} (ha : PJ pn S a oa) (hb : PJ pn S b (.f .non)) (da : Dt S oa (enc x) := by first | exact .f | exact .v rfl | exact .vz rfl | exact .w | exact .y | exact .u rfl) : PJ pn S (dOp fNotN a b) (.f (.bl x.isSome)) := by
  refine p_op ha hb da .f ?_
  cases x with
  | none => rfl
  | some z =>
    show fNotN (enc z) .non = _
    have := NoN.nn z
    cases q : enc z with
    | non => rw [q] at this; exact absurd rfl this
    | _ => rfl
theorem pa_nil' : PA pn S dNil [] := fun e h => ⟨[], rfl, trivial⟩
theorem pa_cons' {o : Opd} (ha : PJ pn S a o) (hs : PA pn S ma os) : PA pn S (dCons a ma) (o :: os) := fun e h => by
  obtain ⟨r, h1, k1⟩ := ha e h
  obtain ⟨rs, h2, k2⟩ := hs e h
  exact ⟨r :: rs, by rw [ev_cons, h1, bind_ok, h2, bind_ok], k1, k2⟩
theorem p_cb {fn : List D → Option D} {ds : List D} {z : D} (ha : PA pn S ma os) (da : Dts S os ds) (h : fn ds = some z) : PJ pn S (dCB fn ma) (.f z) := fun e he => by
  obtain ⟨rs, h1, k1⟩ := ha e he
  refine ⟨.fz z, ?_, rfl⟩
  rw [ev_cb, h1, bind_ok, da.view he k1]
  simp only [h]
theorem p_len {α : Type} [Enc α] {xs : List α} (ha : PJ pn S a oa) (da : Dt S oa (enc xs) := by first | exact .f | exact .v rfl | exact .vz rfl | exact .w | exact .y | exact .u rfl) : PJ pn S (dCB lenD (dCons a dNil)) (.f (.int xs.length)) :=
  p_cb (pa_cons' ha pa_nil') (.cons da .nil) (by show some (D.int ((xs.map enc).length : Nat)) = _; rw [List.length_map])
theorem p_toInt {x : Int} (ha : PJ pn S a oa) (da : Dt S oa (.int x) := by first | exact .f | exact .u rfl) : PJ pn S (dCB intD (dCons a dNil)) (.f (.int x)) := p_cb (pa_cons' ha pa_nil') (.cons da .nil) rfl
inductive Cl : Opd → D → Prop
  | f {d : D} : Cl (.f d) d
  | w {ds : List D} : Cl (.w ds) (.lst ds)
  | y {d : D} : Cl (.y d) d
inductive Cls : List Opd → List D → Prop
  | nil : Cls [] []
  | cons {o : Opd} {os : List Opd} {d : D} {ds : List D} : Cl o d → Cls os ds → Cls (o :: os) (d :: ds)
theorem Cl.frz {o : Opd} {d : D} {r : RV} (q : Cl o d) (k : ROk r o) (e : Env) : frzR r e = some (d, e) := by
  cases q with
  | f => cases k; rfl
  | w => cases k; show some (SV.toD _, e) = _; rw [toD_ol]
  | y => rcases k with rfl | ⟨ds, rfl, rfl⟩
         · rfl
         · show some (SV.toD _, e) = _; rw [toD_ol]
theorem Cls.frz {os : List Opd} {ds : List D} (q : Cls os ds) : ∀ {rs : List RV}, ROks rs os → ∀ e, frzRs rs e = some (ds, e) := by
  induction q with
  | nil => intro rs k e; cases rs with
    | nil => rfl
    | cons _ _ => exact k.elim
  | cons q1 q2 ih => intro rs k e; cases rs with
    | nil => exact k.elim
    | cons r rs =>
      unfold frzRs
      simp only [q1.frz k.1 e, ih k.2 e]
theorem p_lst {ds : List D} (ha : PA pn S ma os) (da : Cls os ds) (h : ds.length ≤ 1000000 := by exact Nat.le_of_ble_eq_true rfl) : PJ pn S (dLst ma) (.w ds) := fun e he => by
  obtain ⟨rs, h1, k1⟩ := ha e he
  refine ⟨.own (.ol (fzs ds)), ?_, rfl⟩
  rw [ev_lst, h1, bind_ok, da.frz k1 e]
  simp only
  rw [if_pos (size_ge (by omega))]
def PP (pn : List Nat) (S : List SD) (m : M (Option Int)) (i : Option Int) : Prop := ∀ e, Has pn S e → m e = .ok i e
theorem pp_no : PP pn S dNoPart none := fun _ _ => rfl
theorem pp_at {x : Int} (ha : PJ pn S a oa) (da : Dt S oa (.int x) := by first | exact .f | exact .u rfl) : PP pn S (dPart a) (some x) := fun e h => by
  obtain ⟨r, h1, k1⟩ := ha e h
  unfold dPart
  rw [mbind, h1, bind_ok, da.view h k1]
def cutL {α : Type} (xs : List α) (lo hi : Option Int) : List α := (xs.drop (HT.sIx xs.length 0 lo)).take (HT.sIx xs.length xs.length hi - HT.sIx xs.length 0 lo)
theorem cutD_enc {α : Type} [Enc α] (xs : List α) (lo hi : Option Int) : cutD (xs.map enc) lo hi = (cutL xs lo hi).map enc := by
  unfold cutD cutL
  simp [List.map_take, List.map_drop]
section
variable {t u : M Bool} {c1 c2 : Bool}
theorem b_t (ha : PJ pn S a (.f (.bl c1))) : PB pn S (dT a) c1 := fun e h => by
  obtain ⟨r, h1, k1⟩ := ha e h
  cases k1
  rw [ev_t, h1, bind_ok]; rfl
theorem b_tru {d : D} (ha : PJ pn S a oa) (da : Dt S oa d) (q : truD d = some c1) : PB pn S (dTru a) c1 := fun e h => by
  obtain ⟨r, h1, k1⟩ := ha e h
  rw [ev_tru, h1, bind_ok, da.view h k1]
  simp only [Option.bind, q]
theorem b_truL {α : Type} [Enc α] {xs : List α} (ha : PJ pn S a oa) (da : Dt S oa (enc xs) := by first | exact .f | exact .v rfl | exact .vz rfl | exact .w | exact .y | exact .u rfl) : PB pn S (dTru a) (!xs.isEmpty) := b_tru ha da (by
  show some (!(xs.map enc).isEmpty) = _
  cases xs <;> rfl)
theorem b_and (h1 : PB pn S t c1) (h2 : PB pn S u c2) : PB pn S (dAnd t u) (c1 && c2) := fun e h => by
  rw [ev_and, h1 e h, bind_ok]; cases c1 with
  | true => exact h2 e h
  | false => rfl
theorem b_or (h1 : PB pn S t c1) (h2 : PB pn S u c2) : PB pn S (dOr t u) (c1 || c2) := fun e h => by
  rw [ev_or, h1 e h, bind_ok]; cases c1 with
  | true => rfl
  | false => exact h2 e h
theorem p_orV (ha : PJ pn S a (.f (.bl c1))) (hb : PJ pn S b (.f (.bl c2))) : PJ pn S (dOrV a b) (.f (.bl (c1 || c2))) := fun e h => by
  obtain ⟨r, h1, k1⟩ := ha e h
  cases k1
  rw [ev_orV, h1, bind_ok]
  cases c1 with
  | true => exact ⟨_, rfl, rfl⟩
  | false => exact hb e h
end
end
end VF
set_option maxRecDepth 100000
set_option maxHeartbeats 4000000
namespace VF
set_option autoImplicit false
open PySem L2
open Enc (enc)
def geti {α : Type} (xs : List α) (i : Int) : Res α := match atI xs i with
  | some a => .ok a
  | none => .st
@[irreducible] def ok62 (n : Int) : Bool := small62 n
@[irreducible] def okDiv (y : Int) : Bool := decide (0 < y ∧ y < 1073741824)
@[irreducible] def okMul (x y : Int) : Bool := inB x 64 || inB y 64
@[irreducible] def okPow (x y : Int) : Bool := decide (0 ≤ y ∧ y ≤ 1000000 ∧ x.natAbs < 2 ^ 64)
@[irreducible] def okLt (n : Nat) : Bool := decide (n < sizeLine)
@[irreducible] def okLe (n : Nat) : Bool := decide (n ≤ sizeLine)
@[irreducible] def okLr (n : Int) : Bool := decide (n ≤ 1000000 ∧ -(2 ^ 62) ≤ n)
theorem ok62_eq (n : Int) : ok62 n = small62 n := by rw [ok62]
theorem okPow_eq (x y : Int) : okPow x y = decide (0 ≤ y ∧ y ≤ 1000000 ∧ x.natAbs < 2 ^ 64) := by rw [okPow]
theorem okLt_eq (n : Nat) : okLt n = decide (n < sizeLine) := by rw [okLt]
theorem okLe_eq (n : Nat) : okLe n = decide (n ≤ sizeLine) := by rw [okLe]
def modR (x y : Int) : Res Int := if 0 < y then .ok (x % y) else .st
def powR (x y : Int) : Res Int := if okPow x y = true then .ok (x ^ y.toNat) else .st
def appR {α : Type} (xs : List α) (x : α) : Res (List α) := if okLt xs.length = true then .ok (xs ++ [x]) else .st
def irng (lo : Int) (n : Nat) : List Int := (List.range n).map fun i => lo + (i : Nat)
def rngR (lo hi : Int) : Res (List Int) := if (ok62 lo && ok62 hi) = true then .ok (irng lo (hi - lo).toNat) else .st
def rng1R (n : Int) : Res (List Int) := if ok62 n = true then .ok (irng 0 n.toNat) else .st
def catR {α : Type} (xs ys : List α) : Res (List α) := if okLe (xs.length + ys.length) = true then .ok (xs ++ ys) else .st
def unO {α : Type} : Option α → Res α
  | some a => .ok a
  | none => .st
inductive Lp (σ τ : Type) where
  | go (s : σ) | bk (s : σ) | out (t : τ)
def forR {α σ τ : Type} (f : α → σ → Res (Lp σ τ)) : List α → σ → (σ → Res τ) → Res τ
  | [], s, k => k s
  | x :: xs, s, k => (f x s).bind fun l => match l with
    | .go s' => forR f xs s' k
    | .bk s' => k s'
    | .out t => .ok t
def foldR {α σ : Type} (f : α → σ → Res σ) : List α → σ → Res σ
  | [], s => .ok s
  | x :: xs, s => (f x s).bind fun s' => foldR f xs s'
def compGo {α β σ : Type} (f : α → σ → Res (Option β × σ)) : List α → σ → List β → Res (List β × σ)
  | [], s, acc => .ok (acc, s)
  | x :: xs, s, acc => match f x s with
    | .ok (some y, s') => compGo f xs s' (acc ++ [y])
    | .ok (none, s') => compGo f xs s' acc
    | _ => .st
def filS {α β σ : Type} (f : α → σ → Res (Option β × σ)) (xs : List α) (s : σ) : Res (List β × σ) := if okLe xs.length = true then compGo f xs s [] else .st
def mapS {α β σ : Type} (f : α → σ → Res (β × σ)) (xs : List α) (s : σ) : Res (List β × σ) := filS (fun x s => (f x s).bind fun p => .ok (some p.1, p.2)) xs s
def filC {α β : Type} (f : α → Res (Option β)) (xs : List α) : Res (List β) := (filS (fun x (_ : Unit) => (f x).bind fun o => .ok (o, ())) xs ()).bind fun p => .ok p.1
def mapC {α β : Type} (f : α → Res β) (xs : List α) : Res (List β) := filC (fun x => (f x).bind fun y => .ok (some y)) xs
section
variable {α β γ δ σ τ : Type} {pn : List Nat} {S S' S1 S2 : List SD} {e : Env} {X : Exc → Env → Prop} {P : Res α} {G : α → γ → Env → Prop} {r q : RV} {o oa ob oc : Opd} {d x y z : D}
theorem c_pure {a : M RV} {K : RV → M γ} (h : Has pn S e) (ha : PJ pn S a o) (k : ∀ r, ROk r o → Sm (K r e) P G X) : Sm ((a e).bind K) P G X := by
  obtain ⟨r, h1, k1⟩ := ha e h
  rw [h1]; exact k r k1
theorem c_pureB {t : M Bool} {c : Bool} {K : Bool → M γ} (h : Has pn S e) (ht : PB pn S t c) (k : Sm (K c e) P G X) : Sm ((t e).bind K) P G X := by
  rw [ht e h]; exact k
theorem c_pureA {a : M (List RV)} {os : List Opd} {K : List RV → M γ} (h : Has pn S e) (ha : PA pn S a os) (k : ∀ rs, ROks rs os → Sm (K rs e) P G X) : Sm ((a e).bind K) P G X := by
  obtain ⟨r, h1, k1⟩ := ha e h
  rw [h1]; exact k r k1
def seqK (b : M Fl) (K : Fl → M γ) : Fl → M γ := fun f => match f with
  | .nx => fun e => (b e).bind K
  | f => K f
theorem c_seq {a b : M Fl} {K : Fl → M γ} (k : Sm ((a e).bind (seqK b K)) P G X) : Sm ((dSeq a b e).bind K) P G X := by
  have : (dSeq a b e).bind K = (a e).bind (seqK b K) := by
    unfold dSeq M.bind
    cases a e with
    | st => rfl
    | ok f e => cases f <;> rfl
    | ex x e => rfl
  rw [this]; exact k
def setK (i : Nat) (K : Fl → M γ) : RV → M γ := fun r e => match putR i r e with
  | some e' => K .nx e'
  | none => .st
theorem c_set {i : Nat} {a : M RV} {K : Fl → M γ} (k : Sm ((a e).bind (setK i K)) P G X) : Sm ((dSet i a e).bind K) P G X := by
  have : (dSet i a e).bind K = (a e).bind (setK i K) := by
    unfold dSet M.bind
    cases a e with
    | st => rfl
    | ok f e =>
      show R.bind (match putR i f e with | some e' => R.ok Fl.nx e' | none => R.st) K = setK i K f e
      unfold setK
      cases putR i f e <;> rfl
    | ex x e => rfl
  rw [this]; exact k
theorem f_set {i : Nat} {K : Fl → M γ} (h : Has pn S e) (ho : ROk r o) (s : St S i o S') (hi : i ∉ pn) (k : ∀ e', Has pn S' e' → Sm (K .nx e') P G X) : Sm (setK i K r e) P G X := by
  obtain ⟨e', h1, h2⟩ := s.put h ho hi
  unfold setK; simp only [h1]; exact k e' h2
def retK (K : Fl → M γ) : RV → M γ := fun r e => K (.rt r) e
theorem c_ret {a : M RV} {K : Fl → M γ} (k : Sm ((a e).bind (retK K)) P G X) : Sm ((dRet a e).bind K) P G X := by
  have : (dRet a e).bind K = (a e).bind (retK K) := by
    unfold dRet M.bind
    cases a e <;> rfl
  rw [this]; exact k
def dropK (K : Fl → M γ) : RV → M γ := fun _ e => K .nx e
theorem c_drop {a : M RV} {K : Fl → M γ} (k : Sm ((a e).bind (dropK K)) P G X) : Sm ((dDrop a e).bind K) P G X := by
  have : (dDrop a e).bind K = (a e).bind (dropK K) := by
    unfold dDrop M.bind
    cases a e <;> rfl
  rw [this]; exact k
def ifK (a b : M Fl) (K : Fl → M γ) : Bool → M γ := fun c e => match c with
  | true => (a e).bind K
  | false => (b e).bind K
theorem c_if {t : M Bool} {a b : M Fl} {K : Fl → M γ} (k : Sm ((t e).bind (ifK a b K)) P G X) : Sm ((dIf t a b e).bind K) P G X := by
  have : (dIf t a b e).bind K = (t e).bind (ifK a b K) := by
    unfold dIf M.bind
    cases t e with
    | st => rfl
    | ok c e => cases c <;> rfl
    | ex x e => rfl
  rw [this]; exact k
theorem f_if {c : Bool} {a b : M Fl} {K : Fl → M γ} {P1 P2 : Res α} (k1 : c = true → Sm ((a e).bind K) P1 G X) (k2 : c = false → Sm ((b e).bind K) P2 G X) : Sm (ifK a b K c e) (if c = true then P1 else P2) G X := by
  cases c with
  | true => exact k1 rfl
  | false => exact k2 rfl
def Jn (pn : List Nat) (I : σ → List SD) : σ → Fl → Env → Prop := fun s f e => f = .nx ∧ Has pn (I s) e
theorem f_ifJ {c : Bool} {a b : M Fl} {K : Fl → M γ} {P1 P2 : Res σ} {k : σ → Res α} (_h : Has pn S e) (I : σ → List SD) (k1 : c = true → Sm ((a e).bind okK) P1 (Jn pn I) X) (k2 : c = false → Sm ((b e).bind okK) P2 (Jn pn I) X) (k3 : ∀ s e', Has pn (I s) e' → Sm (K .nx e') (k s) G X) :
    Sm (ifK a b K c e) ((if c = true then P1 else P2).bind k) G X := by
  have go : ∀ (m : M Fl) (p : Res σ), Sm ((m e).bind okK) p (Jn pn I) X → Sm ((m e).bind K) (p.bind k) G X := fun m p h => h.top.bind fun s f e' hj => by
    obtain ⟨rfl, hj⟩ := hj
    exact k3 s e' hj
  cases c with
  | true => exact go a P1 (k1 rfl)
  | false => exact go b P2 (k2 rfl)
theorem f_jn {I : σ → List SD} {s : σ} (h : Has pn S e) (w : W S (I s) := by first | exact W.refl _ | (repeat (first | exact W.nil | refine W.rf ?_ | refine W.cz ?_ | refine W.cc ?_ | refine W.vz ?_ | refine W.vo ?_ | refine W.an ?_))) : Sm (okK Fl.nx e) (.ok s) (Jn pn I) X := ⟨.nx, e, rfl, rfl, h.weak w⟩
theorem c_next {K : Fl → M γ} (k : Sm (K .nx e) P G X) : Sm ((dNext e).bind K) P G X := k
def opK2 (fn : D → D → Option D) (r : RV) (K : RV → M γ) : RV → M γ := fun q e => match view e r, view e q with
  | some x, some y => (match fn x y with
    | some d => K (.fz d) e
    | none => .st)
  | _, _ => .st
def opK1 (fn : D → D → Option D) (b : M RV) (K : RV → M γ) : RV → M γ := fun r e => (b e).bind (opK2 fn r K)
theorem c_op {fn : D → D → Option D} {a b : M RV} {K : RV → M γ} (k : Sm ((a e).bind (opK1 fn b K)) P G X) : Sm ((dOp fn a b e).bind K) P G X := by
  have : (dOp fn a b e).bind K = (a e).bind (opK1 fn b K) := by
    rw [ev_op, rbind_assoc]
    congr 1; funext r e
    unfold opK1
    rw [rbind_assoc]
    congr 1; funext q e
    unfold opK2
    cases view e r with
    | none => rfl
    | some x => cases view e q with
      | none => rfl
      | some y => simp only; cases fn x y <;> rfl
  rw [this]; exact k
theorem c_op2 {fn : D → D → Option D} {b : M RV} {K : RV → M γ} (k : Sm ((b e).bind (opK2 fn r K)) P G X) : Sm (opK1 fn b K r e) P G X := k
theorem f_op {fn : D → D → Option D} {K : RV → M γ} (h : Has pn S e) (k1 : ROk r oa) (k2 : ROk q ob) (da : Dt S oa x) (db : Dt S ob y) (hf : fn x y = some z) (k : Sm (K (.fz z) e) P G X) : Sm (opK2 fn r K q e) P G X := by
  unfold opK2
  rw [da.view h k1, db.view h k2]
  simp only [hf]; exact k
section
variable {i j : Int} {K : RV → M γ} {k : Int → Res α} (h : Has pn S e) (k1 : ROk r oa) (k2 : ROk q ob) (da : Dt S oa (.int i) := by first | exact .f | exact .u rfl) (db : Dt S ob (.int j) := by first | exact .f | exact .u rfl)
include h k1 k2 da db
theorem f_int {g : Int → Int → Int} (kk : Sm (K (.fz (.int (g i j))) e) P G X) : Sm (opK2 (fI g) r K q e) P G X := f_op h k1 k2 da db rfl kk
theorem f_cmp {g : Int → Int → Bool} (kk : Sm (K (.fz (.bl (g i j))) e) P G X) : Sm (opK2 (fB g) r K q e) P G X := f_op h k1 k2 da db rfl kk
theorem f_mod (kk : ∀ v, Sm (K (.fz (.int v)) e) (k v) G X) : Sm (opK2 fMod r K q e) ((modR i j).bind k) G X := by
  by_cases c : 0 < j
  · unfold modR; rw [if_pos c]; exact f_op h k1 k2 da db (if_pos c) (kk _)
  · unfold modR; rw [if_neg c]; first | trivial | exact ⟨trivial⟩
theorem f_pow (kk : ∀ v, Sm (K (.fz (.int v)) e) (k v) G X) : Sm (opK2 fPow r K q e) ((powR i j).bind k) G X := by
  by_cases c : 0 ≤ j ∧ j ≤ 1000000 ∧ i.natAbs < 2 ^ 64
  · unfold powR; rw [okPow_eq, if_pos (decide_eq_true c)]; exact f_op h k1 k2 da db (if_pos c) (kk _)
  · unfold powR; rw [okPow_eq, if_neg (by rw [decide_eq_true_iff]; exact c)]; first | trivial | exact ⟨trivial⟩
end
def tK (K : Bool → M γ) : RV → M γ := fun r e => match view e r with
  | some (.bl b) => K b e
  | _ => .st
theorem c_t {a : M RV} {K : Bool → M γ} (k : Sm ((a e).bind (tK K)) P G X) : Sm ((dT a e).bind K) P G X := by
  have : (dT a e).bind K = (a e).bind (tK K) := by
    rw [ev_t, rbind_assoc]
    congr 1; funext r e
    unfold tK
    cases view e r with
    | none => rfl
    | some d => cases d <;> rfl
  rw [this]; exact k
theorem f_t {c : Bool} {K : Bool → M γ} (h : Has pn S e) (k1 : ROk r o) (kk : Sm (K c e) P G X) (da : Dt S o (.bl c) := by first | exact .f | exact .u rfl) : Sm (tK K r e) P G X := by
  unfold tK; rw [da.view h k1]; exact kk
def truK (K : Bool → M γ) : RV → M γ := fun r e => match (view e r).bind truD with
  | some b => K b e
  | none => .st
theorem c_tru {a : M RV} {K : Bool → M γ} (k : Sm ((a e).bind (truK K)) P G X) : Sm ((dTru a e).bind K) P G X := by
  have : (dTru a e).bind K = (a e).bind (truK K) := by
    rw [ev_tru, rbind_assoc]
    congr 1; funext r e
    unfold truK
    cases (view e r).bind truD <;> rfl
  rw [this]; exact k
theorem f_tru {c : Bool} {K : Bool → M γ} (h : Has pn S e) (k1 : ROk r o) (da : Dt S o d) (hd : truD d = some c) (kk : Sm (K c e) P G X) : Sm (truK K r e) P G X := by
  unfold truK; rw [da.view h k1]; simp only [Option.bind, hd]; exact kk
def andK (u : M Bool) (K : Bool → M γ) : Bool → M γ := fun c e => match c with
  | true => (u e).bind K
  | false => K false e
def orK (u : M Bool) (K : Bool → M γ) : Bool → M γ := fun c e => match c with
  | true => K true e
  | false => (u e).bind K
theorem c_and {t u : M Bool} {K : Bool → M γ} (k : Sm ((t e).bind (andK u K)) P G X) : Sm ((dAnd t u e).bind K) P G X := by
  have : (dAnd t u e).bind K = (t e).bind (andK u K) := by
    unfold dAnd M.bind
    cases t e with
    | st => rfl
    | ok c e => cases c <;> rfl
    | ex x e => rfl
  rw [this]; exact k
theorem c_or {t u : M Bool} {K : Bool → M γ} (k : Sm ((t e).bind (orK u K)) P G X) : Sm ((dOr t u e).bind K) P G X := by
  have : (dOr t u e).bind K = (t e).bind (orK u K) := by
    unfold dOr M.bind
    cases t e with
    | st => rfl
    | ok c e => cases c <;> rfl
    | ex x e => rfl
  rw [this]; exact k
def notK (K : Bool → M γ) : Bool → M γ := fun c e => K (!c) e
theorem c_not {t : M Bool} {K : Bool → M γ} (k : Sm ((t e).bind (notK K)) P G X) : Sm ((dNot t e).bind K) P G X := by
  have : (dNot t e).bind K = (t e).bind (notK K) := by
    unfold dNot M.bind
    cases t e <;> rfl
  rw [this]; exact k
theorem f_not {c : Bool} {K : Bool → M γ} (kk : Sm (K (!c) e) P G X) : Sm (notK K c e) P G X := kk
def Tb (pn : List Nat) (S : List SD) : Bool → Bool → Env → Prop := fun b b' e => b' = b ∧ Has pn S e
theorem f_tb {c : Bool} (h : Has pn S e) : Sm (okK c e) (.ok c) (Tb pn S) X := ⟨c, e, rfl, rfl, h⟩
theorem f_and {c : Bool} {u : M Bool} {P1 : Res Bool} {K : Bool → M γ} {k : Bool → Res α} (h : Has pn S e) (k1 : c = true → Sm ((u e).bind okK) P1 (Tb pn S) X) (kk : ∀ b e', Has pn S e' → Sm (K b e') (k b) G X) : Sm (andK u K c e) ((if c = true then P1 else .ok false).bind k) G X := by
  cases c with
  | true => exact (k1 rfl).top.bind fun a b e' hj => by obtain ⟨rfl, hj⟩ := hj; exact kk _ _ hj
  | false => exact kk _ _ h
theorem f_or {c : Bool} {u : M Bool} {P1 : Res Bool} {K : Bool → M γ} {k : Bool → Res α} (h : Has pn S e) (k1 : c = false → Sm ((u e).bind okK) P1 (Tb pn S) X) (kk : ∀ b e', Has pn S e' → Sm (K b e') (k b) G X) : Sm (orK u K c e) ((if c = true then .ok true else P1).bind k) G X := by
  cases c with
  | false => exact (k1 rfl).top.bind fun a b e' hj => by obtain ⟨rfl, hj⟩ := hj; exact kk _ _ hj
  | true => exact kk _ _ h
theorem f_orP {c c2 : Bool} {u : M Bool} {K : Bool → M γ} (h : Has pn S e) (hu : PB pn S u c2) (k : Sm (K (c || c2) e) P G X) : Sm (orK u K c e) P G X := by
  cases c with
  | true => exact k
  | false => show Sm ((u e).bind K) P G X; rw [hu e h]; exact k
def Ve (pn : List Nat) (S : List SD) (o : δ → Opd) : δ → RV → Env → Prop := fun v r e => ROk r (o v) ∧ Has pn S e
theorem f_ve {o : δ → Opd} {v : δ} (h : Has pn S e) (k : ROk r (o v)) : Sm (okK r e) (.ok v) (Ve pn S o) X := ⟨r, e, rfl, k, h⟩
def andVK (b : M RV) (K : RV → M γ) : RV → M γ := fun r e => match (view e r).bind blOf with
  | some true => (b e).bind K
  | some false => K (.fz (.bl false)) e
  | none => .st
theorem c_andV {a b : M RV} {K : RV → M γ} (k : Sm ((a e).bind (andVK b K)) P G X) : Sm ((dAndV a b e).bind K) P G X := by
  have : (dAndV a b e).bind K = (a e).bind (andVK b K) := by
    rw [ev_andV, rbind_assoc]
    congr 1; funext r e
    unfold andVK
    cases (view e r).bind blOf with
    | none => rfl
    | some c => cases c <;> rfl
  rw [this]; exact k
abbrev oB : Bool → Opd := fun c => .f (.bl c)
theorem f_andV {c : Bool} {b : M RV} {P1 : Res Bool} {K : RV → M γ} {k : Bool → Res α} (h : Has pn S e) (kr : ROk r (.f (.bl c))) (k1 : c = true → Sm ((b e).bind okK) P1 (Ve pn S oB) X) (kk : ∀ v e', Has pn S e' → Sm (K (.fz (.bl v)) e') (k v) G X) : Sm (andVK b K r e) ((if c = true then P1 else .ok false).bind k) G X := by
  cases kr
  unfold andVK
  simp only [view_fz, Option.bind, blOf_bl]
  cases c with
  | true => exact (k1 rfl).top.bind fun a b e' hj => by obtain ⟨hr, hj⟩ := hj; cases hr; exact kk _ _ hj
  | false => exact kk _ _ h
def chK2 (f g : D → D → Option D) (c : M RV) (r : RV) (K : RV → M γ) : RV → M γ := fun q e => match view e r, view e q with
  | some x, some y => (match (f x y).bind blOf with
    | some true => (c e).bind fun p e => (match view e q, view e p with
      | some y, some z => (match g y z with
        | some d => K (.fz d) e
        | none => .st)
      | _, _ => .st)
    | some false => K (.fz (.bl false)) e
    | none => .st)
  | _, _ => .st
def chK1 (f g : D → D → Option D) (b c : M RV) (K : RV → M γ) : RV → M γ := fun r e => (b e).bind (chK2 f g c r K)
theorem c_chain {f g : D → D → Option D} {a b c : M RV} {K : RV → M γ} (k : Sm ((a e).bind (chK1 f g b c K)) P G X) : Sm ((dChain f g a b c e).bind K) P G X := by
  have : (dChain f g a b c e).bind K = (a e).bind (chK1 f g b c K) := by
    rw [ev_chain, rbind_assoc]
    congr 1; funext r e
    unfold chK1
    rw [rbind_assoc]
    congr 1; funext q e
    unfold chK2
    cases view e r with
    | none => rfl
    | some x => cases view e q with
      | none => rfl
      | some y =>
        simp only
        cases (f x y).bind blOf with
        | none => rfl
        | some t => cases t with
          | false => rfl
          | true =>
            simp only
            rw [rbind_assoc]
            congr 1; funext p e
            cases view e q with
            | none => rfl
            | some y => cases view e p with
              | none => rfl
              | some z => simp only; cases g y z <;> rfl
  rw [this]; exact k
theorem c_chain2 {f g : D → D → Option D} {b c : M RV} {K : RV → M γ} (k : Sm ((b e).bind (chK2 f g c r K)) P G X) : Sm (chK1 f g b c K r e) P G X := k
theorem f_chain {f g : Int → Int → Bool} {i j l : Int} {c : M RV} {K : RV → M γ} (h : Has pn S e) (k1 : ROk r oa) (k2 : ROk q ob) (hc : PJ pn S c oc) (k : Sm (K (.fz (.bl (f i j && g j l))) e) P G X) (da : Dt S oa (.int i) := by first | exact .f | exact .u rfl) (db : Dt S ob (.int j) := by first | exact .f | exact .u rfl) (dc : Dt S oc (.int l) := by first | exact .f | exact .u rfl) : Sm (chK2 (fB f) (fB g) c r K q e) P G X := by
  unfold chK2
  rw [da.view h k1, db.view h k2]
  simp only [fB_int, Option.bind, blOf_bl]
  cases hh : f i j with
  | false => rw [hh] at k; exact k
  | true =>
    rw [hh] at k
    obtain ⟨p, h3, k3⟩ := hc e h
    simp only [h3, bind_ok, db.view h k2, dc.view h k3, fB_int]
    exact k
def ixK2 (r : RV) (K : RV → M γ) : RV → M γ := fun q e => match view e q with
  | some (.int i) => (match itemR e r i with
    | some d => K (.fz d) e
    | none => .st)
  | _ => .st
def ixK1 (b : M RV) (K : RV → M γ) : RV → M γ := fun r e => (b e).bind (ixK2 r K)
theorem c_ix {a b : M RV} {K : RV → M γ} (k : Sm ((a e).bind (ixK1 b K)) P G X) : Sm ((dIx a b e).bind K) P G X := by
  have : (dIx a b e).bind K = (a e).bind (ixK1 b K) := by
    rw [ev_ix, rbind_assoc]
    congr 1; funext r e
    unfold ixK1
    rw [rbind_assoc]
    congr 1; funext q e
    unfold ixK2
    cases view e q with
    | none => rfl
    | some x => cases x <;> first | rfl | (simp only; cases itemR e r _ <;> rfl)
  rw [this]; exact k
theorem c_ix2 {b : M RV} {K : RV → M γ} (k : Sm ((b e).bind (ixK2 r K)) P G X) : Sm (ixK1 b K r e) P G X := k
theorem item_dt {ds : List D} {i : Int} (h : Has pn S e) (k : ROk r o) (q : Dt S o (.lst ds)) : itemR e r i = atI ds i := by
  cases q with
  | f => cases k; rfl
  | w => cases k; exact kid_map ds i
  | y => rcases k with rfl | ⟨ds', e1, rfl⟩
         · rfl
         · cases e1; exact kid_map ds i
  | v q =>
    cases k
    obtain ⟨o, h1, h2⟩ := h.slot q
    cases h2
    show (match e.sl[_]? with | some (some s) => itemS s i | _ => none) = _
    rw [h1]; exact kid_map ds i
  | vz q =>
    cases k
    obtain ⟨o, h1, h2⟩ := h.slot q
    cases h2
    show (match e.sl[_]? with | some (some s) => itemS s i | _ => none) = _
    rw [h1]; rfl
  | u q =>
    rcases k with rfl | rfl
    · rfl
    · obtain ⟨o, h1, h2⟩ := h.slot q
      show (match e.sl[_]? with | some (some s) => itemS s i | _ => none) = _
      rcases h2 with rfl | ⟨ds', e1, rfl⟩
      · rw [h1]; rfl
      · cases e1; rw [h1]; exact kid_map ds i
  | o e => cases e
  | x q e => cases e
theorem f_ix {ω : Type} [Enc ω] {xs : List ω} {i : Int} {K : RV → M γ} {k : ω → Res α} (h : Has pn S e) (k1 : ROk r oa) (k2 : ROk q ob) (kk : ∀ v, Sm (K (.fz (enc v)) e) (k v) G X) (da : Dt S oa (enc xs) := by first | exact .f | exact .v rfl | exact .vz rfl | exact .w | exact .y | exact .u rfl) (db : Dt S ob (.int i) := by first | exact .f | exact .u rfl) : Sm (ixK2 r K q e) ((geti xs i).bind k) G X := by
  unfold ixK2
  rw [db.view h k2]
  simp only
  rw [item_dt h k1 da]
  unfold geti
  rw [atI_map]
  cases atI xs i with
  | none => first | trivial | exact ⟨trivial⟩
  | some v => exact kk v
theorem p_ixTup {ds : List D} {i : Int} {a : M RV} (ha : PJ pn S a (.f (.tup ds))) (hi : atI ds i = some d := by rfl) : PJ pn S (dIx a (dC (.int i))) (.f d) := fun e he => by
  obtain ⟨r, h1, k1⟩ := ha e he
  cases k1
  refine ⟨.fz d, ?_, rfl⟩
  rw [ev_ix, h1, bind_ok, ev_c, bind_ok]
  simp only [view_fz, item_fz, itemD_tup, hi]
end
end VF
set_option maxRecDepth 100000
set_option maxHeartbeats 4000000
namespace VF
set_option autoImplicit false
open PySem L2
open Enc (enc)
section
variable {α β γ δ σ τ : Type} {pn : List Nat} {S S' S1 S2 : List SD} {e : Env} {X : Exc → Env → Prop} {P : Res α} {G : α → γ → Env → Prop} {r q : RV} {o oa ob oc : Opd} {d x y z : D}
def consK2 (r : RV) (K : List RV → M γ) : List RV → M γ := fun rs e => K (r :: rs) e
def consK1 (b : M (List RV)) (K : List RV → M γ) : RV → M γ := fun r e => (b e).bind (consK2 r K)
theorem c_cons {a : M RV} {b : M (List RV)} {K : List RV → M γ} (k : Sm ((a e).bind (consK1 b K)) P G X) : Sm ((dCons a b e).bind K) P G X := by
  have : (dCons a b e).bind K = (a e).bind (consK1 b K) := by
    rw [ev_cons, rbind_assoc]
    congr 1; funext r e
    unfold consK1
    rw [rbind_assoc]
    rfl
  rw [this]; exact k
theorem c_cons2 {b : M (List RV)} {K : List RV → M γ} (k : Sm ((b e).bind (consK2 r K)) P G X) : Sm (consK1 b K r e) P G X := k
theorem f_cons {rs : List RV} {K : List RV → M γ} (k : Sm (K (r :: rs) e) P G X) : Sm (consK2 r K rs e) P G X := k
theorem c_nil {K : List RV → M γ} (k : Sm (K [] e) P G X) : Sm ((dNil e).bind K) P G X := k
def cbK (fn : List D → Option D) (K : RV → M γ) : List RV → M γ := fun rs e => match rs.mapM (view e) with
  | some xs => (match fn xs with
    | some d => K (.fz d) e
    | none => .st)
  | none => .st
theorem c_cb {fn : List D → Option D} {a : M (List RV)} {K : RV → M γ} (k : Sm ((a e).bind (cbK fn K)) P G X) : Sm ((dCB fn a e).bind K) P G X := by
  have : (dCB fn a e).bind K = (a e).bind (cbK fn K) := by
    rw [ev_cb, rbind_assoc]
    congr 1; funext r e
    unfold cbK
    cases r.mapM (view e) with
    | none => rfl
    | some x => simp only; cases fn x <;> rfl
  rw [this]; exact k
theorem f_cb {fn : List D → Option D} {rs : List RV} {os : List Opd} {ds : List D} {K : RV → M γ} (h : Has pn S e) (kr : ROks rs os) (da : Dts S os ds) (hf : fn ds = some d) (k : Sm (K (.fz d) e) P G X) : Sm (cbK fn K rs e) P G X := by
  unfold cbK; rw [da.view h kr]; simp only [hf]; exact k
def lstK (K : RV → M γ) : List RV → M γ := fun rs e => match frzRs rs e with
  | some (ds, e') => if ds.length ≤ sizeLine then K (.own (.ol (fzs ds))) e' else .st
  | none => .st
def tupK (K : RV → M γ) : List RV → M γ := fun rs e => match frzRs rs e with
  | some (ds, e') => if ds.length ≤ sizeLine then K (.fz (.tup ds)) e' else .st
  | none => .st
def newK (fn : List D → Option (List D)) (K : RV → M γ) : List RV → M γ := fun rs e => match frzRs rs e with
  | some (ds, e') => (match fn ds with
    | some es => K (.own (.ol (fzs es))) e'
    | none => .st)
  | none => .st
theorem c_lst {a : M (List RV)} {K : RV → M γ} (k : Sm ((a e).bind (lstK K)) P G X) : Sm ((dLst a e).bind K) P G X := by
  have : (dLst a e).bind K = (a e).bind (lstK K) := by
    rw [ev_lst, rbind_assoc]
    congr 1; funext r e
    unfold lstK
    cases frzRs r e with
    | none => rfl
    | some x => simp only; split <;> rfl
  rw [this]; exact k
theorem c_tup {a : M (List RV)} {K : RV → M γ} (k : Sm ((a e).bind (tupK K)) P G X) : Sm ((dTup a e).bind K) P G X := by
  have : (dTup a e).bind K = (a e).bind (tupK K) := by
    unfold dTup
    rw [mbind, rbind_assoc]
    congr 1; funext r e
    unfold tupK
    cases frzRs r e with
    | none => rfl
    | some x => simp only; split <;> rfl
  rw [this]; exact k
theorem f_lst {rs : List RV} {os : List Opd} {ds : List D} {K : RV → M γ} (h : Has pn S e) (kr : ROks rs os) (da : Fzs S os ds S') (hl : ds.length ≤ 1000000) (k : ∀ r e', ROk r (.w ds) → Has pn S' e' → Sm (K r e') P G X) : Sm (lstK K rs e) P G X := by
  obtain ⟨e', h1, h2⟩ := da.frz h kr
  unfold lstK; rw [h1]; simp only
  rw [if_pos (size_ge (by omega))]
  exact k _ _ rfl h2
theorem f_tup {rs : List RV} {os : List Opd} {ds : List D} {K : RV → M γ} (h : Has pn S e) (kr : ROks rs os) (da : Fzs S os ds S') (hl : ds.length ≤ 1000000) (k : ∀ r e', ROk r (.f (.tup ds)) → Has pn S' e' → Sm (K r e') P G X) : Sm (tupK K rs e) P G X := by
  obtain ⟨e', h1, h2⟩ := da.frz h kr
  unfold tupK; rw [h1]; simp only
  rw [if_pos (size_ge (by omega))]
  exact k _ _ rfl h2
def slK (l h : M (Option Int)) (K : RV → M γ) : RV → M γ := fun r e => match frzR r e with
  | some (.lst ds, e1) => (l e1).bind fun lo e2 => (h e2).bind fun hi e3 => K (.own (.ol (fzs (cutD ds lo hi)))) e3
  | _ => .st
theorem c_sl {a : M RV} {l h : M (Option Int)} {K : RV → M γ} (k : Sm ((a e).bind (slK l h K)) P G X) : Sm ((dSl a l h e).bind K) P G X := by
  have : (dSl a l h e).bind K = (a e).bind (slK l h K) := by
    unfold dSl
    rw [mbind, rbind_assoc]
    congr 1; funext r e
    unfold slK
    cases frzR r e with
    | none => rfl
    | some p =>
      obtain ⟨d, e1⟩ := p
      cases d <;> first | rfl | (simp only [rbind_assoc]; rfl)
  rw [this]; exact k
theorem f_sl {ω : Type} [Enc ω] {xs : List ω} {ml mh : M (Option Int)} {lo hi : Option Int} {K : RV → M γ} (h : Has pn S e) (kr : ROk r o) (da : Fz S o (enc xs) S') (hl : PP pn S' ml lo) (hh : PP pn S' mh hi) (k : ∀ r e', ROk r (.w (encs (cutL xs lo hi))) → Has pn S' e' → Sm (K r e') P G X) : Sm (slK ml mh K r e) P G X := by
  obtain ⟨e', h1, h2⟩ := da.frz h kr
  unfold slK; rw [h1]
  show Sm ((ml e').bind _) P G X
  rw [hl e' h2, bind_ok, hh e' h2, bind_ok, cutD_enc]
  exact k _ _ rfl h2
def addK2 (ds : List D) (K : RV → M γ) : RV → M γ := fun q e2 => match frzR q e2 with
    | some (.lst es, e3) => if ds.length + es.length ≤ sizeLine then K (.own (.ol (fzs (ds ++ es)))) e3 else .st
    | _ => .st
def addK1 (b : M RV) (K : RV → M γ) : RV → M γ := fun r e => match frzR r e with
  | some (.lst ds, e1) => (b e1).bind (addK2 ds K)
  | _ => .st
theorem c_addL {a b : M RV} {K : RV → M γ} (k : Sm ((a e).bind (addK1 b K)) P G X) : Sm ((dAddL a b e).bind K) P G X := by
  have : (dAddL a b e).bind K = (a e).bind (addK1 b K) := by
    unfold dAddL
    rw [mbind, rbind_assoc]
    congr 1; funext r e
    unfold addK1
    cases frzR r e with
    | none => rfl
    | some p =>
      obtain ⟨d, e1⟩ := p
      cases d with
      | lst ds =>
        simp only [rbind_assoc]
        congr 1; funext q e2
        unfold addK2
        cases frzR q e2 with
        | none => rfl
        | some p =>
          obtain ⟨d, e3⟩ := p
          cases d with
          | lst es => simp only; split <;> rfl
          | _ => rfl
      | _ => rfl
  rw [this]; exact k
theorem f_addL1 {ω : Type} [Enc ω] {xs : List ω} {b : M RV} {K : RV → M γ} (h : Has pn S e) (kr : ROk r o) (da : Fz S o (enc xs) S') (k : ∀ e', Has pn S' e' → Sm ((b e').bind (addK2 (encs xs) K)) P G X) : Sm (addK1 b K r e) P G X := by
  obtain ⟨e', h1, h2⟩ := da.frz h kr
  unfold addK1; rw [h1]; exact k _ h2
theorem f_addL2 {ω : Type} [Enc ω] {xs ys : List ω} {K : RV → M γ} {k : List ω → Res α} (h : Has pn S e) (kr : ROk r o) (da : Fz S o (enc ys) S') (kk : ∀ v r e', ROk r (.w (encs v)) → Has pn S' e' → Sm (K r e') (k v) G X) : Sm (addK2 (encs xs) K r e) ((catR xs ys).bind k) G X := by
  obtain ⟨e', h1, h2⟩ := da.frz h kr
  unfold addK2; rw [h1]
  show Sm (if (encs xs).length + (encs ys).length ≤ sizeLine then K (.own (.ol (fzs (encs xs ++ encs ys)))) e' else .st) _ G X
  unfold catR
  simp only [encs, List.length_map, okLe_eq, decide_eq_true_eq]
  split
  · refine kk (xs ++ ys) _ e' ?_ h2
    simp [ROk]
  · first | trivial | exact ⟨trivial⟩
theorem rngD_enc (lo : Int) (n : Nat) : rngD lo n = (irng lo n).map enc := by
  unfold rngD irng
  rw [List.map_map]
  rfl
def appK (i : Nat) (K : RV → M γ) : RV → M γ := fun r e => match frzR r e with
    | some (d, e1) => (match e1.sl[i]? with
      | some (some (.ol xs)) => if xs.length < sizeLine then K (.fz .non) (e1.setS i (.ol (xs ++ [.fz d]))) else .st
      | _ => .st)
    | none => .st
theorem c_app {i : Nat} {ds : List D} {a : M RV} {K : RV → M γ} (h : Has pn S e) (hi : S[i]? = some (.ol ds)) (k : Sm ((a e).bind (appK i K)) P G X) : Sm ((dApp i a e).bind K) P G X := by
  obtain ⟨o, h1, h2⟩ := h.slot hi
  cases h2
  have : (dApp i a e).bind K = (a e).bind (appK i K) := by
    rw [ev_app, h1]
    simp only [rbind_assoc]
    congr 1; funext r e
    unfold appK
    cases frzR r e with
    | none => rfl
    | some p =>
      simp only
      cases p.2.sl[i]? with
      | none => rfl
      | some o => cases o with
        | none => rfl
        | some s => cases s <;> first | rfl | (simp only; split <;> rfl)
  rw [this]; exact k
theorem f_app {ω : Type} [Enc ω] {i : Nat} {xs : List ω} {v : ω} {K : RV → M γ} {k : List ω → Res α} (h : Has pn S e) (kr : ROk r o) (da : Fz S o (enc v) S') (hi : S'[i]? = some (.ol (encs xs))) (kk : ∀ v r e', ROk r (.f .non) → Has pn (S'.set i (.ol (encs v))) e' → Sm (K r e') (k v) G X) : Sm (appK i K r e) ((appR xs v).bind k) G X := by
  obtain ⟨e', h1, h2⟩ := da.frz h kr
  obtain ⟨o', h3, h4⟩ := h2.slot hi
  cases h4
  unfold appK appR
  rw [h1]
  simp only [h3, fzs_len, encs, List.length_map, okLt_eq, decide_eq_true_eq]
  split
  · refine kk (xs ++ [v]) _ _ rfl (h2.setS i ?_)
    simp [SD.ok, fzs]
  · first | trivial | exact ⟨trivial⟩
def itK (K : List D → M γ) : RV → M γ := fun r e => match frzR r e with
  | some (d, e1) => (match walk d with
    | some ds => K ds e1
    | none => .st)
  | none => .st
theorem c_it {a : M RV} {K : List D → M γ} (k : Sm ((a e).bind (itK K)) P G X) : Sm ((dIt a e).bind K) P G X := by
  have : (dIt a e).bind K = (a e).bind (itK K) := by
    rw [ev_it, rbind_assoc]
    congr 1; funext r e
    unfold itK
    cases frzR r e with
    | none => rfl
    | some p => simp only; cases walk p.1 <;> rfl
  rw [this]; exact k
theorem f_it {ω : Type} [Enc ω] {xs : List ω} {K : List D → M γ} (h : Has pn S e) (kr : ROk r o) (da : Fz S o (enc xs) S') (k : ∀ e', Has pn S' e' → Sm (K (xs.map enc) e') P G X) : Sm (itK K r e) P G X := by
  obtain ⟨e', h1, h2⟩ := da.frz h kr
  unfold itK; rw [h1]; exact k _ h2
def rg1K (K : List D → M γ) : List RV → M γ := fun rs e => match rs.mapM (view e) with
  | some ds => (match oneI ds with
    | some j => if small62 j = true then K (rngD 0 j.toNat) e else .st
    | none => .st)
  | none => .st
theorem c_rng1 {a : M (List RV)} {K : List D → M γ} (k : Sm ((a e).bind (rg1K K)) P G X) : Sm ((dRng1 a e).bind K) P G X := by
  have : (dRng1 a e).bind K = (a e).bind (rg1K K) := by
    rw [ev_rng1, rbind_assoc]
    congr 1; funext r e
    unfold rg1K
    cases r.mapM (view e) with
    | none => rfl
    | some ds => simp only; cases oneI ds with
      | none => rfl
      | some j => simp only; split <;> rfl
  rw [this]; exact k
theorem f_rng1 {j : Int} {K : List D → M γ} {k : List Int → Res α} (h : Has pn S e) (kr : ROk r o) (kk : ∀ v : List Int, Sm (K (v.map enc) e) (k v) G X) (da : Dt S o (.int j) := by first | exact .f | exact .u rfl) : Sm (rg1K K [r] e) ((rng1R j).bind k) G X := by
  unfold rg1K rng1R
  rw [(Dts.cons da .nil).view h (rs := [r]) ⟨kr, trivial⟩]
  simp only [oneI_int, ok62_eq]
  split
  · rw [rngD_enc]; exact kk _
  · first | trivial | exact ⟨trivial⟩
def rg2K (K : List D → M γ) : List RV → M γ := fun rs e => match rs.mapM (view e) with
  | some ds => (match twoI ds with
    | some (i, j) => if (small62 i && small62 j) = true then K (rngD i (j - i).toNat) e else .st
    | none => .st)
  | none => .st
theorem c_rng2 {a : M (List RV)} {K : List D → M γ} (k : Sm ((a e).bind (rg2K K)) P G X) : Sm ((dRng2 a e).bind K) P G X := by
  have : (dRng2 a e).bind K = (a e).bind (rg2K K) := by
    rw [ev_rng2, rbind_assoc]
    congr 1; funext r e
    unfold rg2K
    cases r.mapM (view e) with
    | none => rfl
    | some ds => simp only; cases twoI ds with
      | none => rfl
      | some j => simp only; split <;> rfl
  rw [this]; exact k
theorem f_rng2 {i j : Int} {K : List D → M γ} {k : List Int → Res α} (h : Has pn S e) (kr : ROk r o) (kq : ROk q ob) (kk : ∀ v : List Int, Sm (K (v.map enc) e) (k v) G X) (da : Dt S o (.int i) := by first | exact .f | exact .u rfl) (db : Dt S ob (.int j) := by first | exact .f | exact .u rfl) : Sm (rg2K K [r, q] e) ((rngR i j).bind k) G X := by
  unfold rg2K rngR
  rw [(Dts.cons da (.cons db .nil)).view h (rs := [r, q]) ⟨kr, kq, trivial⟩]
  simp only [twoI_int, ok62_eq]
  split
  · rw [rngD_enc]; exact kk _
  · first | trivial | exact ⟨trivial⟩
end
end VF
set_option maxRecDepth 100000
set_option maxHeartbeats 4000000
namespace VF
set_option autoImplicit false
open PySem L2
open Enc (enc)
section
variable {α β γ δ σ τ ω ψ : Type} {pn : List Nat} {S S' S1 S2 : List SD} {e : Env} {X : Exc → Env → Prop} {P : Res α} {G : α → γ → Env → Prop} {r q : RV} {o oa ob oc : Opd} {d x y z : D}
def TG (pn : List Nat) (S : List SD) (g : Tg) (d : D) (S' : List SD) : Prop := ∀ e, Has pn S e → ∃ e', g d e = some e' ∧ Has pn S' e'
theorem tg_n {i : Nat} (hi : i ∉ pn := by decide) : TG pn S (gN i) d (S.set i (.fz d)) := fun e h => St.put (o := .f d) (r := .fz d) h rfl .f hi
def forK (g : Tg) (body : M Fl) (K : Fl → M γ) : List D → M γ := fun ds e => (loopF g body ds e).bind K
theorem c_for {it : M (List D)} {g : Tg} {body : M Fl} {K : Fl → M γ} (k : Sm ((it e).bind (forK g body K)) P G X) : Sm ((dFor it g body e).bind K) P G X := by
  have : (dFor it g body e).bind K = (it e).bind (forK g body K) := by
    unfold dFor
    rw [mbind, rbind_assoc]
    rfl
  rw [this]; exact k
def GB (pn : List Nat) (I : σ → List SD) (K : Fl → M γ) (G : α → γ → Env → Prop) (X : Exc → Env → Prop) : Lp σ α → Fl → Env → Prop
  | .go s, f, e => (f = .nx ∨ f = .ct) ∧ Has pn (I s) e
  | .bk s, f, e => f = .bk ∧ Has pn (I s) e
  | .out t, f, e => (∃ r, f = .rt r) ∧ Sm (K f e) (.ok t) G X
theorem loopF_cons {g : Tg} {body : M Fl} {ds : List D} : loopF g body (d :: ds) e = match g d e with
    | none => R.st
    | some e1 => (body e1).bind fun f e2 => match f with
      | .nx => loopF g body ds e2
      | .ct => loopF g body ds e2
      | .bk => .ok .nx e2
      | .rt r => .ok (.rt r) e2 := by
  show (match g d e with
      | none => R.st
      | some e1 => (match body e1 with
        | .ok .nx e2 => loopF g body ds e2
        | .ok .ct e2 => loopF g body ds e2
        | .ok .bk e2 => .ok .nx e2
        | .ok (.rt r) e2 => .ok (.rt r) e2
        | .ex x e2 => .ex x e2
        | .st => .st)) = _
  cases g d e with
  | none => rfl
  | some e1 =>
    simp only
    cases body e1 with
    | st => rfl
    | ok f e2 => cases f <;> rfl
    | ex x e2 => rfl
theorem f_for [Enc ω] {xs : List ω} {g : Tg} {body : M Fl} {f : ω → σ → Res (Lp σ α)} {k : σ → Res α} {K : Fl → M γ} {I1 : ω → σ → List SD} (I : σ → List SD) (tg : ∀ x s, TG pn (I s) g (enc x) (I1 x s))
    (step : ∀ x s e, Has pn (I1 x s) e → Sm ((body e).bind okK) (f x s) (GB pn I K G X) X) (kk : ∀ s e', Has pn (I s) e' → Sm (K .nx e') (k s) G X) : ∀ {s0 : σ} {S : List SD} {e : Env}, Has pn S e → (w : W S (I s0) := by first | exact W.refl _ | (repeat (first | exact W.nil | refine W.rf ?_ | refine W.cz ?_ | refine W.cc ?_ | refine W.vz ?_ | refine W.vo ?_ | refine W.an ?_))) → Sm (forK g body K (xs.map enc) e) (forR f xs s0 k) G X := by
  have main : ∀ (xs : List ω) (s0 : σ) (e : Env), Has pn (I s0) e → Sm (forK g body K (xs.map enc) e) (forR f xs s0 k) G X := by
    intro xs
    induction xs with
    | nil => intro s0 e h; exact kk _ _ h
    | cons x xs ih =>
      intro s0 e h
      obtain ⟨e1, h1, h2⟩ := tg x s0 e h
      show Sm ((loopF g body (enc x :: xs.map enc) e).bind K) _ G X
      rw [loopF_cons, h1]
      simp only
      rw [rbind_assoc]
      unfold forR
      refine (step x s0 e1 h2).top.bind fun l fl e2 hj => ?_
      cases l with
      | go s =>
        obtain ⟨h3, h4⟩ := hj
        rcases h3 with rfl | rfl <;> exact ih s e2 h4
      | bk s =>
        obtain ⟨rfl, h4⟩ := hj
        exact kk s e2 h4
      | out t =>
        obtain ⟨⟨r, rfl⟩, h4⟩ := hj
        exact h4
  intro s0 S e h w
  exact main xs s0 e (h.weak w)
def Jc (pn : List Nat) (I : σ → List SD) : σ → Fl → Env → Prop := fun s f e => (f = .nx ∨ f = .ct) ∧ Has pn (I s) e
theorem f_fold [Enc ω] {xs : List ω} {g : Tg} {body : M Fl} {f : ω → σ → Res σ} {k : σ → Res α} {K : Fl → M γ} {I1 : ω → σ → List SD} (I : σ → List SD) (tg : ∀ x s, TG pn (I s) g (enc x) (I1 x s))
    (step : ∀ x s e, Has pn (I1 x s) e → Sm ((body e).bind okK) (f x s) (Jc pn I) X) (kk : ∀ s e', Has pn (I s) e' → Sm (K .nx e') (k s) G X) : ∀ {s0 : σ} {S : List SD} {e : Env}, Has pn S e → (w : W S (I s0) := by first | exact W.refl _ | (repeat (first | exact W.nil | refine W.rf ?_ | refine W.cz ?_ | refine W.cc ?_ | refine W.vz ?_ | refine W.vo ?_ | refine W.an ?_))) → Sm (forK g body K (xs.map enc) e) ((foldR f xs s0).bind k) G X := by
  have main : ∀ (xs : List ω) (s0 : σ) (e : Env), Has pn (I s0) e → Sm (forK g body K (xs.map enc) e) ((foldR f xs s0).bind k) G X := by
    intro xs
    induction xs with
    | nil => intro s0 e h; exact kk _ _ h
    | cons x xs ih =>
      intro s0 e h
      obtain ⟨e1, h1, h2⟩ := tg x s0 e h
      show Sm ((loopF g body (enc x :: xs.map enc) e).bind K) _ G X
      rw [loopF_cons, h1]
      simp only
      rw [rbind_assoc]
      unfold foldR
      rw [Res.bind_assoc]
      refine (step x s0 e1 h2).top.bind fun s fl e2 hj => ?_
      obtain ⟨h3, h4⟩ := hj
      rcases h3 with rfl | rfl <;> exact ih s e2 h4
  intro s0 S e h w
  exact main xs s0 e (h.weak w)
theorem f_jc {I : σ → List SD} {s : σ} (h : Has pn S e) (w : W S (I s) := by first | exact W.refl _ | (repeat (first | exact W.nil | refine W.rf ?_ | refine W.cz ?_ | refine W.cc ?_ | refine W.vz ?_ | refine W.vo ?_ | refine W.an ?_))) : Sm (okK Fl.nx e) (.ok s) (Jc pn I) X := ⟨.nx, e, rfl, .inl rfl, h.weak w⟩
theorem f_go {I : σ → List SD} {K : Fl → M γ} {s : σ} (h : Has pn S e) (w : W S (I s) := by first | exact W.refl _ | (repeat (first | exact W.nil | refine W.rf ?_ | refine W.cz ?_ | refine W.cc ?_ | refine W.vz ?_ | refine W.vo ?_ | refine W.an ?_))) : Sm (okK Fl.nx e) (.ok (.go s)) (GB pn I K G X) X := ⟨.nx, e, rfl, .inl rfl, h.weak w⟩
theorem f_out {I : σ → List SD} {K : Fl → M γ} {t : α} (k : Sm (K (.rt r) e) (.ok t) G X) : Sm (okK (Fl.rt r) e) (.ok (.out t)) (GB pn I K G X) X := ⟨.rt r, e, rfl, ⟨r, rfl⟩, k⟩
def wipeS : List Nat → List SD → List SD
  | [], S => S
  | v :: vs, S => (wipeS vs S).set v .clr
theorem wipe_has (h : Has pn S e) : ∀ own, Has pn (wipeS own S) (wipeE own e)
  | [] => h
  | v :: vs => (wipe_has h vs).clr v
def cfS : SD → Bool
  | .fz _ => true
  | .clr => true
  | .cf => true
  | _ => false
def restS : List Nat → List SD → List SD → List SD
  | [], _, T => T
  | v :: vs, S, T => match S[v]? with
    | some s => restS vs S (T.set v s)
    | none => T
def restB : List Nat → List SD → List SD → Bool
  | [], _, _ => true
  | v :: vs, S, T => !vs.contains v && (match S[v]? with
    | some s => cfS s && (match T[v]? with
      | some .clr => restB vs S (T.set v s)
      | _ => false)
    | none => false)
theorem rest_has {e0 : Env} (h0 : Has pn S e0) : ∀ (own : List Nat) {T : List SD} {e : Env}, restB own S T = true → Has pn T e → ∃ e', restE own e0 e = some e' ∧ Has pn (restS own S T) e'
  | [], T, e, _, h => ⟨e, rfl, h⟩
  | v :: vs, T, e, hb, h => by
    unfold restB at hb
    rw [Bool.and_eq_true] at hb
    obtain ⟨b1, b2⟩ := hb
    cases q : S[v]? with
    | none => rw [q] at b2; cases b2
    | some s =>
      rw [q] at b2
      simp only [Bool.and_eq_true] at b2
      obtain ⟨b3, b4⟩ := b2
      cases q2 : T[v]? with
      | none => rw [q2] at b4; cases b4
      | some t =>
        rw [q2] at b4
        cases t with
        | clr =>
          simp only at b4
          obtain ⟨o, h1, h2⟩ := h0.slot q
          obtain ⟨o2, h3, h4⟩ := h.slot q2
          cases h4
          have hc : isClr e v = true := by unfold isClr; rw [h3]
          have hcont : vs.contains v = false := by simpa using b1
          have two : o = none ∨ ∃ d, o = some (.fz d) := by
            cases s with
            | fz d => exact .inr ⟨d, h2⟩
            | clr => exact .inl h2
            | cf => exact h2
            | _ => cases b3
          rcases two with rfl | ⟨d, rfl⟩
          · have h5 : Has pn (T.set v s) e := ⟨h.pn, by
              have := h.sl.set v h2
              rwa [show e.sl.set v none = e.sl from List.ext_getElem? fun n => by
                rw [List.getElem?_set]; split
                · rename_i c; subst c; split
                  · exact h3.symm
                  · rename_i hh; exact (List.getElem?_eq_none (by omega)).symm
                · rfl] at this⟩
            obtain ⟨e', k1, k2⟩ := rest_has h0 vs b4 h5
            refine ⟨e', ?_, by unfold restS; rw [q]; exact k2⟩
            unfold restE
            rw [if_neg (by rw [hcont]; decide), if_pos hc, h1]
            exact k1
          · have h5 : Has pn (T.set v s) (e.setS v (.fz d)) := h.setS v h2
            obtain ⟨e', k1, k2⟩ := rest_has h0 vs b4 h5
            refine ⟨e', ?_, by unfold restS; rw [q]; exact k2⟩
            unfold restE
            rw [if_neg (by rw [hcont]; decide), if_pos hc, h1]
            exact k1
        | _ => cases b4
def compK (own : List Nat) (g : Tg) (tt : M Bool) (te : M RV) (K : RV → M γ) : List D → M γ := fun ds e0 => if noPn own e0 = true then (match loopC own g tt te ds [] (wipeE own e0) with
  | .ok acc e1 => (match restE own e0 e1 with
    | some e2 => K (.own (.ol (fzs acc))) e2
    | none => .st)
  | _ => .st) else .st
theorem c_comp {own : List Nat} {it : M (List D)} {g : Tg} {tt : M Bool} {te : M RV} {K : RV → M γ} (k : Sm ((it e).bind (compK own g tt te K)) P G X) : Sm ((dComp own it g tt te e).bind K) P G X := by
  have : (dComp own it g tt te e).bind K = (it e).bind (compK own g tt te K) := by
    unfold dComp
    rw [mbind, rbind_assoc]
    congr 1; funext ds e0
    unfold compK
    split
    · cases loopC own g tt te ds [] (wipeE own e0) with
      | st => rfl
      | ok acc e1 => simp only; cases restE own e0 e1 <;> rfl
      | ex x e1 => rfl
    · rfl
  rw [this]; exact k
def cmpK (te : M RV) (K : Option RV → M γ) : Bool → M γ := fun b e => match b with
  | true => (te e).bind fun r e => K (some r) e
  | false => K none e
def GC [Enc ψ] (pn : List Nat) (own : List Nat) (I : σ → List SD) : (Option ψ × σ) → Option RV → Env → Prop
  | (some v, s), some r, e => ∃ o S2 S3, Has pn S2 e ∧ ROk r o ∧ Fz S2 o (enc v) S3 ∧ W (wipeS own S3) (I s)
  | (none, s), none, e => ∃ S2, Has pn S2 e ∧ W (wipeS own S2) (I s)
  | _, _, _ => False
theorem noPn_of {own : List Nat} (h : Has pn S e) (hp : (own.all fun v => !pn.contains v) = true) : noPn own e = true := by
  unfold noPn; rw [h.pn]; exact hp
theorem comp_go [Enc ω] [Enc ψ] {own : List Nat} {g : Tg} {tt : M Bool} {te : M RV} {f : ω → σ → Res (Option ψ × σ)} {I1 : ω → σ → List SD} {X' : Exc → Env → Prop} (I : σ → List SD) (hp : (own.all fun v => !pn.contains v) = true) (tg : ∀ x s, TG pn (I s) g (enc x) (I1 x s))
    (step : ∀ x s e, Has pn (I1 x s) e → Sm ((tt e).bind (cmpK te okK)) (f x s) (GC pn own I) X') : ∀ (xs : List ω) (s : σ) (acc : List ψ) (e : Env) ys s', Has pn (I s) e → acc.length + xs.length ≤ sizeLine → compGo f xs s acc = .ok (ys, s') → ∃ e', loopC own g tt te (xs.map enc) (acc.map enc) e = .ok (ys.map enc) e' ∧ Has pn (I s') e'
  | [], s, acc, e, ys, s', h, _, q => by cases q; exact ⟨e, rfl, h⟩
  | x :: xs, s, acc, e, ys, s', h, hl, q => by
    obtain ⟨e1, h1, h2⟩ := tg x s e h
    have st := step x s e1 h2
    rw [List.length_cons] at hl
    show ∃ e', loopC own g tt te (enc x :: xs.map enc) (acc.map enc) e = _ ∧ _
    unfold compGo at q
    unfold loopC
    simp only [h1]
    cases z : f x s with
    | st => rw [z] at q; cases q
    | ex x' => rw [z] at q; cases q
    | ok p =>
      rw [z] at q st
      obtain ⟨b, e4, h4, h5⟩ := st
      cases z2 : tt e1 with
      | st => rw [z2] at h4; cases h4
      | ex x' e5 => rw [z2] at h4; cases h4
      | ok t e2 =>
        rw [z2, bind_ok] at h4
        cases t with
        | false =>
          have h4' : okK (none : Option RV) e2 = .ok b e4 := h4
          cases h4'
          obtain ⟨o, s1⟩ := p
          cases o with
          | some v => exact h5.elim
          | none =>
            obtain ⟨S2, k1, k2⟩ := h5
            simp only at q ⊢
            rw [if_pos (noPn_of k1 hp)]
            exact comp_go I hp tg step xs s1 acc _ ys s' ((wipe_has k1 own).weak k2) (by omega) q
        | true =>
          have h4' : ((te e2).bind fun r e => okK (some r) e) = .ok b e4 := h4
          cases z3 : te e2 with
          | st => rw [z3] at h4'; cases h4'
          | ex x' e5 => rw [z3] at h4'; cases h4'
          | ok r e3 =>
            rw [z3, bind_ok] at h4'
            cases h4'
            obtain ⟨o, s1⟩ := p
            cases o with
            | none => exact h5.elim
            | some v =>
              obtain ⟨oo, S2, S3, k1, k2, k3, k4⟩ := h5
              obtain ⟨e5, k5, k6⟩ := k3.frz k1 k2
              simp only [z3, k5] at q ⊢
              rw [if_pos (by rw [noPn_of k6 hp, Bool.and_true]; exact decide_eq_true (by rw [List.length_map]; omega))]
              have := comp_go I hp tg step xs s1 (acc ++ [v]) _ ys s' ((wipe_has k6 own).weak k4) (by rw [List.length_append, List.length_singleton]; omega) q
              rwa [List.map_append] at this
theorem f_filS [Enc ω] [Enc ψ] {own : List Nat} {xs : List ω} {g : Tg} {tt : M Bool} {te : M RV} {f : ω → σ → Res (Option ψ × σ)} {I1 : ω → σ → List SD} {K : RV → M γ} {k : List ψ × σ → Res α} {s0 : σ} (I : σ → List SD) (h : Has pn S e) (w : W (wipeS own S) (I s0)) (tg : ∀ x s, TG pn (I s) g (enc x) (I1 x s))
    (step : ∀ x s e, Has pn (I1 x s) e → Sm ((tt e).bind (cmpK te okK)) (f x s) (GC pn own I) fun _ _ => True) (J : σ → List SD) (kk : ∀ ys s r e', ROk r (.w (encs ys)) → Has pn (J s) e' → Sm (K r e') (k (ys, s)) G X)
    (hp : (own.all fun v => !pn.contains v) = true := by decide) (hr : ∀ s, restB own S (I s) = true := by intro _; rfl) (hw : ∀ s, W (restS own S (I s)) (J s) := by exact fun _ => W.refl _) : Sm (compK own g tt te K (xs.map enc) e) ((filS f xs s0).bind k) G X := by
  unfold filS
  rw [okLe_eq]
  split
  · rename_i hz
    rw [decide_eq_true_iff] at hz
    cases q : compGo f xs s0 [] with
    | st => first | trivial | exact ⟨trivial⟩
    | ex x =>
      exfalso
      have : ∀ (xs : List ω) (s : σ) (acc : List ψ) x, compGo f xs s acc ≠ .ex x := by
        intro xs
        induction xs with
        | nil => intro s acc x h; cases h
        | cons y ys ih =>
          intro s acc x h
          unfold compGo at h
          split at h
          · exact ih _ _ _ h
          · exact ih _ _ _ h
          · cases h
      exact this _ _ _ _ q
    | ok p =>
      obtain ⟨ys, s'⟩ := p
      obtain ⟨e1, h1, h2⟩ := comp_go I hp tg step xs s0 [] _ ys s' ((wipe_has h own).weak w) (by simpa using hz) q
      obtain ⟨e2, h3, h4⟩ := rest_has h own (hr s') h2
      unfold compK
      rw [if_pos (noPn_of h hp)]
      have h1' : loopC own g tt te (xs.map enc) [] (wipeE own e) = .ok (ys.map enc) e1 := h1
      rw [h1']
      simp only [h3]
      exact kk ys s' _ e2 rfl (h4.weak (hw s'))
  · first | trivial | exact ⟨trivial⟩
def GE [Enc ψ] (pn : List Nat) (own : List Nat) (I : List SD) : ψ → RV → Env → Prop := fun v r e => ∃ o S2 S3, Has pn S2 e ∧ ROk r o ∧ Fz S2 o (enc v) S3 ∧ W (wipeS own S3) I
def GEo [Enc ψ] (pn : List Nat) (own : List Nat) (I : List SD) : Option ψ → Option RV → Env → Prop
  | some v, some r, e => ∃ o S2 S3, Has pn S2 e ∧ ROk r o ∧ Fz S2 o (enc v) S3 ∧ W (wipeS own S3) I
  | none, none, e => ∃ S2, Has pn S2 e ∧ W (wipeS own S2) I
  | _, _, _ => False
def GEs [Enc ψ] (pn : List Nat) (own : List Nat) (I : σ → List SD) : ψ × σ → RV → Env → Prop := fun v r e => ∃ o S2 S3, Has pn S2 e ∧ ROk r o ∧ Fz S2 o (enc v.1) S3 ∧ W (wipeS own S3) (I v.2)
theorem f_el [Enc ψ] {own : List Nat} {I S3 : List SD} {v : ψ} (h : Has pn S e) (kr : ROk r o) (da : Fz S o (enc v) S3 := by first | exact .f | exact .w | exact .y | exact .v rfl | exact .vz rfl | exact .u rfl) (w : W (wipeS own S3) I := by first | exact W.refl _ | (repeat (first | exact W.nil | refine W.rf ?_ | refine W.cz ?_ | refine W.cc ?_ | refine W.vz ?_ | refine W.vo ?_ | refine W.an ?_))) : Sm (okK r e) (.ok v) (GE pn own I) X := ⟨r, e, rfl, o, S, S3, h, kr, da, w⟩
theorem f_elS [Enc ψ] {own : List Nat} {I : σ → List SD} {S3 : List SD} {v : ψ} {s : σ} (h : Has pn S e) (kr : ROk r o) (da : Fz S o (enc v) S3 := by first | exact .f | exact .w | exact .y | exact .v rfl | exact .vz rfl | exact .u rfl) (w : W (wipeS own S3) (I s) := by first | exact W.refl _ | (repeat (first | exact W.nil | refine W.rf ?_ | refine W.cz ?_ | refine W.cc ?_ | refine W.vz ?_ | refine W.vo ?_ | refine W.an ?_))) : Sm (okK r e) (.ok (v, s)) (GEs pn own I) X := ⟨r, e, rfl, o, S, S3, h, kr, da, w⟩
theorem f_mapS [Enc ω] [Enc ψ] {own : List Nat} {xs : List ω} {g : Tg} {te : M RV} {f : ω → σ → Res (ψ × σ)} {I1 : ω → σ → List SD} {K : RV → M γ} {k : List ψ × σ → Res α} {s0 : σ} (I : σ → List SD) (h : Has pn S e) (w : W (wipeS own S) (I s0)) (tg : ∀ x s, TG pn (I s) g (enc x) (I1 x s))
    (step : ∀ x s e, Has pn (I1 x s) e → Sm ((te e).bind okK) (f x s) (GEs pn own I) fun _ _ => True) (J : σ → List SD) (kk : ∀ ys s r e', ROk r (.w (encs ys)) → Has pn (J s) e' → Sm (K r e') (k (ys, s)) G X)
    (hp : (own.all fun v => !pn.contains v) = true := by decide) (hr : ∀ s, restB own S (I s) = true := by intro _; rfl) (hw : ∀ s, W (restS own S (I s)) (J s) := by exact fun _ => W.refl _) : Sm (compK own g dYes te K (xs.map enc) e) ((mapS f xs s0).bind k) G X := by
  refine f_filS I h w tg (fun x s e he => ?_) J kk hp hr hw
  show Sm ((te e).bind fun r e => okK (some r) e) _ _ _
  refine (step x s e he).top.bind fun p r e' hj => ?_
  obtain ⟨o, S2, S3, k1, k2, k3, k4⟩ := hj
  exact ⟨some r, e', rfl, o, S2, S3, k1, k2, k3, k4⟩
theorem f_filC [Enc ω] [Enc ψ] {own : List Nat} {xs : List ω} {g : Tg} {tt : M Bool} {te : M RV} {f : ω → Res (Option ψ)} {I1 : ω → List SD} {K : RV → M γ} {k : List ψ → Res α} (h : Has pn S e) (tg : ∀ x, TG pn (wipeS own S) g (enc x) (I1 x))
    (step : ∀ x e, Has pn (I1 x) e → Sm ((tt e).bind (cmpK te okK)) (f x) (GEo pn own (wipeS own S)) fun _ _ => True) (kk : ∀ ys r e', ROk r (.w (encs ys)) → Has pn S e' → Sm (K r e') (k ys) G X)
    (hp : (own.all fun v => !pn.contains v) = true := by decide) (hr : restB own S (wipeS own S) = true := by rfl) (hw : W (restS own S (wipeS own S)) S := by exact W.refl _) : Sm (compK own g tt te K (xs.map enc) e) ((filC f xs).bind k) G X := by
  unfold filC
  rw [Res.bind_assoc]
  have w : ∀ S : List SD, W S S := fun S => by induction S with
    | nil => exact .nil
    | cons s S ih => exact .rf ih
  refine f_filS (σ := Unit) (I1 := fun x _ => I1 x) (fun _ => wipeS own S) h (w _) (fun x _ => tg x) (fun x s e he => ?_) (fun _ => S) (fun ys s r e' kr he => kk ys r e' kr he) hp (fun _ => hr) (fun _ => hw)
  have := step x e he
  cases z : f x with
  | st => first | trivial | exact ⟨trivial⟩
  | ex x' => rw [z] at this; exact ⟨this.run⟩
  | ok o =>
    rw [z] at this
    obtain ⟨b, e', h1, h2⟩ := this
    refine ⟨b, e', h1, ?_⟩
    cases o with
    | none => cases b with
      | none => exact h2
      | some r => exact h2.elim
    | some v => cases b with
      | none => exact h2.elim
      | some r => exact h2
theorem f_mapC [Enc ω] [Enc ψ] {own : List Nat} {xs : List ω} {g : Tg} {te : M RV} {f : ω → Res ψ} {I1 : ω → List SD} {K : RV → M γ} {k : List ψ → Res α} (h : Has pn S e) (tg : ∀ x, TG pn (wipeS own S) g (enc x) (I1 x))
    (step : ∀ x e, Has pn (I1 x) e → Sm ((te e).bind okK) (f x) (GE pn own (wipeS own S)) fun _ _ => True) (kk : ∀ ys r e', ROk r (.w (encs ys)) → Has pn S e' → Sm (K r e') (k ys) G X)
    (hp : (own.all fun v => !pn.contains v) = true := by decide) (hr : restB own S (wipeS own S) = true := by rfl) (hw : W (restS own S (wipeS own S)) S := by exact W.refl _) : Sm (compK own g dYes te K (xs.map enc) e) ((mapC f xs).bind k) G X := by
  unfold mapC
  refine f_filC h tg (fun x e he => ?_) kk hp hr hw
  show Sm ((te e).bind fun r e => okK (some r) e) _ _ _
  refine (step x e he).top.bind fun p r e' hj => ?_
  obtain ⟨o, S2, S3, k1, k2, k3, k4⟩ := hj
  exact ⟨some r, e', rfl, o, S2, S3, k1, k2, k3, k4⟩
inductive Ld : List SD → List Bool → List Opd → List SV → List SD → Prop
  | nil {S : List SD} : Ld S [] [] [] S
  | f {S S1 S2 : List SD} {md : List Bool} {o : Opd} {os : List Opd} {d : D} {ss : List SV} : Fz S o d S1 → Ld S1 md os ss S2 → Ld S (false :: md) (o :: os) (.fz d :: ss) S2
  | t {S S2 : List SD} {md : List Bool} {i : Nat} {os : List Opd} {ds : List D} {ss : List SV} : S[i]? = some (.ol ds) → Ld (S.set i .clr) md os ss S2 → Ld S (true :: md) (.v i :: os) (.ol (fzs ds) :: ss) S2
  | x {S S2 : List SD} {md : List Bool} {i : Nat} {os : List Opd} {s : SV} {ss : List SV} : S[i]? = some (.x s) → Ld (S.set i .clr) md os ss S2 → Ld S (true :: md) (.v i :: os) (s :: ss) S2
theorem Ld.load {md : List Bool} {os : List Opd} {ss : List SV} (q : Ld S md os ss S') : ∀ {e : Env} {rs : List RV}, Has pn S e → ROks rs os → ∃ e', load md rs e = some (ss, e') ∧ Has pn S' e' := by
  induction q with
  | nil => intro e rs h k; cases rs with
    | nil => exact ⟨e, rfl, h⟩
    | cons _ _ => exact k.elim
  | f q1 q2 ih => intro e rs h k; cases rs with
    | nil => exact k.elim
    | cons r rs =>
      obtain ⟨e1, h1, h2⟩ := q1.frz h k.1
      obtain ⟨e2, h3, h4⟩ := ih h2 k.2
      exact ⟨e2, by unfold VF.load loadOne; simp only [h1, h3], h4⟩
  | t q1 q2 ih => intro e rs h k; cases rs with
    | nil => exact k.elim
    | cons r rs =>
      obtain ⟨k1, k2⟩ := k
      cases k1
      obtain ⟨o, h1, h2⟩ := h.slot q1
      cases h2
      obtain ⟨e2, h3, h4⟩ := ih (h.clr _) k2
      exact ⟨e2, by unfold VF.load loadOne; simp only [h1, h3], h4⟩
  | x q1 q2 ih => intro e rs h k; cases rs with
    | nil => exact k.elim
    | cons r rs =>
      obtain ⟨k1, k2⟩ := k
      cases k1
      obtain ⟨o, h1, h2⟩ := h.slot q1
      cases h2
      obtain ⟨e2, h3, h4⟩ := ih (h.clr _) k2
      exact ⟨e2, by unfold VF.load loadOne; simp only [h1, h3], h4⟩
inductive Ul : List SD → List Bool → List Opd → List SV → List SD → Prop
  | nil {S : List SD} : Ul S [] [] [] S
  | f {S S2 : List SD} {md : List Bool} {o : Opd} {os : List Opd} {s : SV} {ss : List SV} : Ul S md os ss S2 → Ul S (false :: md) (o :: os) (s :: ss) S2
  | t {S S2 : List SD} {md : List Bool} {i : Nat} {os : List Opd} {ds : List D} {ss : List SV} : S[i]? = some .clr → Ul (S.set i (.ol ds)) md os ss S2 → Ul S (true :: md) (.v i :: os) (.ol (fzs ds) :: ss) S2
  | x {S S2 : List SD} {md : List Bool} {i : Nat} {os : List Opd} {s : SV} {ss : List SV} : S[i]? = some .clr → Ul (S.set i (.x s)) md os ss S2 → Ul S (true :: md) (.v i :: os) (s :: ss) S2
theorem Ul.unload {md : List Bool} {os : List Opd} {ss : List SV} (q : Ul S md os ss S') : ∀ {e : Env} {rs : List RV}, Has pn S e → ROks rs os → ∃ e', unload md rs ss e = some e' ∧ Has pn S' e' := by
  induction q with
  | nil => intro e rs h k; cases rs with
    | nil => exact ⟨e, rfl, h⟩
    | cons _ _ => exact k.elim
  | f q2 ih => intro e rs h k; cases rs with
    | nil => exact k.elim
    | cons r rs =>
      obtain ⟨e2, h3, h4⟩ := ih h k.2
      exact ⟨e2, by rw [ul_false]; exact h3, h4⟩
  | t q1 q2 ih => intro e rs h k; cases rs with
    | nil => exact k.elim
    | cons r rs =>
      obtain ⟨k1, k2⟩ := k
      cases k1
      obtain ⟨o, h1, h2⟩ := h.slot q1
      cases h2
      obtain ⟨e2, h3, h4⟩ := ih (h.setS _ (s := .ol _) rfl) k2
      refine ⟨e2, ?_, h4⟩
      rw [ul_true]
      rw [if_pos (by unfold isClr; rw [h1])]
      exact h3
  | x q1 q2 ih => intro e rs h k; cases rs with
    | nil => exact k.elim
    | cons r rs =>
      obtain ⟨k1, k2⟩ := k
      cases k1
      obtain ⟨o, h1, h2⟩ := h.slot q1
      cases h2
      obtain ⟨e2, h3, h4⟩ := ih (h.setS _ (s := .x _) rfl) k2
      refine ⟨e2, ?_, h4⟩
      rw [ul_true]
      rw [if_pos (by unfold isClr; rw [h1])]
      exact h3
def FSD (rz : Bool) (φr : FR) (p : Res τ) (ro : τ → SV) (au : τ → List SV) : Prop := match p with
  | .st => True
  | .ok t => φr = .ok (ro t) (au t)
  | .ex x => rz = true ∧ ∃ as, φr = .ex x as
structure FS (rz : Bool) (φr : FR) (p : Res τ) (ro : τ → SV) (au : τ → List SV) : Prop where
  run : FSD rz φr p ro au
def callK (md : List Bool) (φ : Fn) (K : RV → M γ) : List RV → M γ := fun rs e => match load md rs e with
  | some (ss, e1) => (match φ ss with
    | .st => .st
    | .ok r ss' => (match unload md rs ss' e1 with
      | some e2 => K (svR r) e2
      | none => .st)
    | .ex x ss' => (match unload md rs ss' e1 with
      | some e2 => .ex x e2
      | none => .st))
  | none => .st
theorem c_call {md : List Bool} {φ : Fn} {a : M (List RV)} {K : RV → M γ} (k : Sm ((a e).bind (callK md φ K)) P G X) : Sm ((dCall md φ a e).bind K) P G X := by
  have : (dCall md φ a e).bind K = (a e).bind (callK md φ K) := by
    rw [ev_call, rbind_assoc]
    congr 1; funext rs e
    unfold callK
    cases load md rs e with
    | none => rfl
    | some p =>
      simp only
      cases φ p.1 with
      | st => rfl
      | ok r ss' => simp only; cases unload md rs ss' p.2 <;> rfl
      | ex x ss' => simp only; cases unload md rs ss' p.2 <;> rfl
  rw [this]; exact k
theorem f_call {md : List Bool} {φ : Fn} {rs : List RV} {os : List Opd} {ss : List SV} {p : Res τ} {ro : τ → SV} {au : τ → List SV} {oo : τ → Opd} {S2 : τ → List SD} {K : RV → M γ} {k : τ → Res α} (h : Has pn S e) (kr : ROks rs os) (ld : Ld S md os ss S1) (hf : FS false (φ ss) p ro au) (ul : ∀ t, Ul S1 md os (au t) (S2 t)) (ho : ∀ t, ROk (svR (ro t)) (oo t))
    (kk : ∀ t r e', ROk r (oo t) → Has pn (S2 t) e' → Sm (K r e') (k t) G X) : Sm (callK md φ K rs e) (p.bind k) G X := by
  obtain ⟨e1, h1, h2⟩ := ld.load h kr
  unfold callK
  rw [h1]
  cases p with
  | st => first | trivial | exact ⟨trivial⟩
  | ex x => cases hf.run.1
  | ok t =>
    have hf' : φ ss = .ok (ro t) (au t) := hf.run
    obtain ⟨e2, h3, h4⟩ := (ul t).unload h2 kr
    simp only [hf', h3]
    exact kk t _ e2 (ho t) h4
def callBK (n : Nat) (φ : Fn) (K : RV → M γ) : List RV → M γ := fun rs e => match rs.mapM (view e) with
  | some ds => if ds.length = n then (match φ (ds.map .fz) with
    | .ok r _ => (match immS r with
      | some d => K (.fz d) e
      | none => .st)
    | .ex x _ => .ex x e
    | .st => .st) else .st
  | none => .st
theorem c_callB {n : Nat} {φ : Fn} {a : M (List RV)} {K : RV → M γ} (k : Sm ((a e).bind (callBK n φ K)) P G X) : Sm ((dCallB n φ a e).bind K) P G X := by
  have : (dCallB n φ a e).bind K = (a e).bind (callBK n φ K) := by
    rw [ev_callB, rbind_assoc]
    congr 1; funext rs e
    unfold callBK
    cases rs.mapM (view e) with
    | none => rfl
    | some ds =>
      simp only
      split
      · cases φ (ds.map .fz) with
        | st => rfl
        | ok r ss' => simp only; cases immS r <;> rfl
        | ex x ss' => rfl
      · rfl
  rw [this]; exact k
theorem f_callB [Enc τ] {n : Nat} {φ : Fn} {rs : List RV} {os : List Opd} {ds : List D} {p : Res τ} {au : τ → List SV} {K : RV → M γ} {k : τ → Res α} (h : Has pn S e) (kr : ROks rs os) (da : Dts S os ds) (hn : ds.length = n) (hf : FS false (φ (ds.map .fz)) p (fun t => .fz (enc t)) au) (hi : ∀ t : τ, immS (.fz (enc t)) = some (enc t))
    (kk : ∀ t r, ROk r (.f (enc t)) → Sm (K r e) (k t) G X) : Sm (callBK n φ K rs e) (p.bind k) G X := by
  unfold callBK
  rw [da.view h kr]
  simp only
  rw [if_pos hn]
  cases p with
  | st => first | trivial | exact ⟨trivial⟩
  | ex x => cases hf.run.1
  | ok t =>
    have hf' : φ (ds.map .fz) = .ok (.fz (enc t)) (au t) := hf.run
    rw [hf']
    simp only [hi t]
    exact kk t _ rfl
theorem imm_B (t : Bool) : immS (.fz (enc t)) = some (enc t) := (rfl)
theorem imm_S (t : Str) : immS (.fz (enc t)) = some (enc t) := (rfl)
theorem imm_OI (t : Option Int) : immS (.fz (enc t)) = some (enc t) := by cases t <;> rfl
inductive Rs (pn : List Nat) (S : List SD) : Opd → SV → List SD → Prop
  | f {d : D} : Rs pn S (.f d) (.fz d) S
  | w {ds : List D} : Rs pn S (.w ds) (.ol (fzs ds)) S
  | v {i : Nat} {ds : List D} : S[i]? = some (.ol ds) → i ∉ pn → Rs pn S (.v i) (.ol (fzs ds)) (S.set i .clr)
  | x {i : Nat} {s : SV} : S[i]? = some (.x s) → i ∉ pn → Rs pn S (.v i) s (S.set i .clr)
  | o {s : SV} : Rs pn S (.o s) s S
inductive Os : List SD → Nat → List Bool → List SV → List SV → Prop
  | nil {S : List SD} {i : Nat} : Os S i [] [] []
  | f {S : List SD} {i : Nat} {md : List Bool} {s : SV} {ss as : List SV} : Os S (i + 1) md ss as → Os S i (false :: md) (s :: ss) (s :: as)
  | t {S : List SD} {i : Nat} {md : List Bool} {s : SV} {ds : List D} {ss as : List SV} : S[i]? = some (.ol ds) → Os (S.set i .clr) (i + 1) md ss as → Os S i (true :: md) (s :: ss) (.ol (fzs ds) :: as)
  | x {S : List SD} {i : Nat} {md : List Bool} {s s' : SV} {ss as : List SV} : S[i]? = some (.x s') → Os (S.set i .clr) (i + 1) md ss as → Os S i (true :: md) (s :: ss) (s' :: as)
theorem Rs.res {s : SV} (q : Rs pn S o s S') (h : Has pn S e) (kr : ROk r o) : ∃ e', resOf (.rt r) e = some (s, e') ∧ Has pn S' e' := by
  cases q with
  | f => cases kr; exact ⟨e, rfl, h⟩
  | w => cases kr; exact ⟨e, rfl, h⟩
  | v q hi =>
    cases kr
    obtain ⟨o, h1, h2⟩ := h.slot q
    cases h2
    refine ⟨e.clr _, ?_, h.clr _⟩
    unfold resOf
    simp only [h1]
    rw [if_neg (by rw [h.pn]; exact hi)]
  | x q hi =>
    cases kr
    obtain ⟨o, h1, h2⟩ := h.slot q
    cases h2
    refine ⟨e.clr _, ?_, h.clr _⟩
    unfold resOf
    simp only [h1]
    rw [if_neg (by rw [h.pn]; exact hi)]
  | o => cases kr; exact ⟨e, rfl, h⟩
theorem Os.outs {i : Nat} {md : List Bool} {ss as : List SV} (q : Os S i md ss as) : ∀ {e : Env}, Has pn S e → outs i md ss e = some as := by
  induction q with
  | nil => intro e h; rfl
  | f q ih => intro e h; rw [out_false, ih h]
  | t q1 q2 ih =>
    intro e h
    obtain ⟨o, h1, h2⟩ := h.slot q1
    cases h2
    have := ih (h.clr _)
    show (match e.sl[_]? with | some (some s) => (match VF.outs _ _ _ (e.clr _) with | some r => some (s :: r) | none => none) | _ => none) = _
    rw [h1]
    simp only [this]
  | x q1 q2 ih =>
    intro e h
    obtain ⟨o, h1, h2⟩ := h.slot q1
    cases h2
    have := ih (h.clr _)
    show (match e.sl[_]? with | some (some s) => (match VF.outs _ _ _ (e.clr _) with | some r => some (s :: r) | none => none) | _ => none) = _
    rw [h1]
    simp only [this]
def GF (md : List Bool) (ss : List SV) (ro : τ → SV) (au : τ → List SV) : τ → Fl → Env → Prop := fun t f e => ∃ e1, resOf f e = some (ro t, e1) ∧ outs 0 md ss e1 = some (au t)
theorem f_rt {md : List Bool} {ss : List SV} {ro : τ → SV} {au : τ → List SV} {t : τ} (h : Has pn S e) (kr : ROk r o) (q : Rs pn S o (ro t) S1) (os : Os S1 0 md ss (au t)) : Sm (okK (Fl.rt r) e) (.ok t) (GF md ss ro au) X := by
  obtain ⟨e1, h1, h2⟩ := q.res h kr
  exact ⟨.rt r, e, rfl, e1, h1, os.outs h2⟩
theorem fs_mk0 {md : List Bool} {n : Nat} {m : M Fl} {ss : List SV} {p : Res τ} {ro : τ → SV} {au : τ → List SV} (S0 : List SD) (hok : okArgs md ss = true) (h0 : F2 S0 (env0 md n ss).sl) (hb : ∀ e, Has (pinIx 0 md) S0 e → Sm ((m e).bind okK) p (GF md ss ro au) fun _ _ => False) : FS false (mkFn0 md n m ss) p ro au := by
  have hb' := (hb (env0 md n ss) ⟨rfl, h0⟩).top
  cases p with
  | st => first | trivial | exact ⟨trivial⟩
  | ex x => obtain ⟨_, _, h⟩ := hb'; exact h.elim
  | ok t =>
    obtain ⟨f, e, h1, e1, h2, h3⟩ := hb'
    exact ⟨run_fn0 hok h1 h2 h3⟩
end
end VF
set_option maxRecDepth 100000
set_option maxHeartbeats 4000000
namespace VF
set_option autoImplicit false
open PySem L2
open Enc (enc)
theorem rk_f {d : D} : ROk (.fz d) (.f d) := rfl
theorem rks0 : ROks [] [] := trivial
theorem rks {r : RV} {o : Opd} {rs : List RV} {os : List Opd} (h : ROk r o) (hs : ROks rs os) : ROks (r :: rs) (o :: os) := ⟨h, hs⟩
theorem rk_w {ds : List D} : ROk (.own (.ol (fzs ds))) (.w ds) := rfl
section
variable {α β γ δ σ τ ω ψ : Type} {pn : List Nat} {S S' S1 S2 : List SD} {e : Env} {X : Exc → Env → Prop} {P : Res α} {G : α → γ → Env → Prop} {r q : RV} {o oa ob oc : Opd} {d x y z : D}
section
variable [Enc ω] [EqE ω] [DecidableEq ω] {u v : ω} {us : List ω} {K : RV → M γ} (h : Has pn S e) (k1 : ROk r oa) (k2 : ROk q ob)
include h k1 k2
theorem f_eq (k : Sm (K (.fz (.bl (decide (u = v)))) e) P G X) (da : Dt S oa (enc u) := by first | exact .f | exact .v rfl | exact .vz rfl | exact .w | exact .y | exact .u rfl) (db : Dt S ob (enc v) := by first | exact .f | exact .v rfl | exact .vz rfl | exact .w | exact .y | exact .u rfl) (hd : EqE.dep ω ≤ 64 := by decide) : Sm (opK2 fEq r K q e) P G X := f_op h k1 k2 da db (fEq_enc u v hd) k
theorem f_ne (k : Sm (K (.fz (.bl (decide (u ≠ v)))) e) P G X) (da : Dt S oa (enc u) := by first | exact .f | exact .v rfl | exact .vz rfl | exact .w | exact .y | exact .u rfl) (db : Dt S ob (enc v) := by first | exact .f | exact .v rfl | exact .vz rfl | exact .w | exact .y | exact .u rfl) (hd : EqE.dep ω ≤ 64 := by decide) : Sm (opK2 fNe r K q e) P G X := f_op h k1 k2 da db (fNe_enc u v hd) k
end
theorem f_isN [Enc ω] [NoN ω] {u : Option ω} {K : RV → M γ} (h : Has pn S e) (k1 : ROk r oa) (k2 : ROk q (.f .non)) (k : Sm (K (.fz (.bl u.isNone)) e) P G X) (da : Dt S oa (enc u) := by first | exact .f | exact .v rfl | exact .vz rfl | exact .w | exact .y | exact .u rfl) : Sm (opK2 fIsN r K q e) P G X := by
  refine f_op h k1 k2 da .f ?_ k
  cases u with
  | none => rfl
  | some z =>
    show fIsN (enc z) .non = _
    have := NoN.nn z
    cases q : enc z with
    | non => rw [q] at this; exact absurd rfl this
    | _ => rfl
theorem f_notN [Enc ω] [NoN ω] {u : Option ω} {K : RV → M γ} (h : Has pn S e) (k1 : ROk r oa) (k2 : ROk q (.f .non)) (k : Sm (K (.fz (.bl u.isSome)) e) P G X) (da : Dt S oa (enc u) := by first | exact .f | exact .v rfl | exact .vz rfl | exact .w | exact .y | exact .u rfl) : Sm (opK2 fNotN r K q e) P G X := by
  refine f_op h k1 k2 da .f ?_ k
  cases u with
  | none => rfl
  | some z =>
    show fNotN (enc z) .non = _
    have := NoN.nn z
    cases q : enc z with
    | non => rw [q] at this; exact absurd rfl this
    | _ => rfl
section
variable {K : RV → M γ} (h : Has pn S e) (k1 : ROk r oa)
include h k1
theorem f_toInt {i : Int} (k : Sm (K (.fz (.int i)) e) P G X) (da : Dt S oa (.int i) := by first | exact .f | exact .u rfl) : Sm (cbK intD K [r] e) P G X :=
  f_cb h (os := [oa]) ⟨k1, trivial⟩ (.cons da .nil) rfl k
end
theorem p_mulL {i j : Int} {a b : M RV} (ha : PJ pn S a oa) (hb : PJ pn S b ob) (da : Dt S oa (.int i) := by first | exact .f | exact .u rfl) (db : Dt S ob (.int j) := by first | exact .f | exact .u rfl) (h : inB i 64 = true := by decide) : PJ pn S (dOp fMul a b) (.f (.int (i * j))) := p_mulK ha hb da db (by rw [h, Bool.true_or])
theorem p_mulR {i j : Int} {a b : M RV} (ha : PJ pn S a oa) (hb : PJ pn S b ob) (da : Dt S oa (.int i) := by first | exact .f | exact .u rfl) (db : Dt S ob (.int j) := by first | exact .f | exact .u rfl) (h : inB j 64 = true := by decide) : PJ pn S (dOp fMul a b) (.f (.int (i * j))) := p_mulK ha hb da db (by rw [h, Bool.or_true])
section
variable {i j : Int} {K : RV → M γ} (h : Has pn S e) (k1 : ROk r oa) (k2 : ROk q ob) (k : Sm (K (.fz (.int (i * j))) e) P G X) (da : Dt S oa (.int i) := by first | exact .f | exact .u rfl) (db : Dt S ob (.int j) := by first | exact .f | exact .u rfl)
include h k1 k2 k da db
end
theorem f_truB {c : Bool} {K : Bool → M γ} (h : Has pn S e) (k1 : ROk r o) (k : Sm (K c e) P G X) (da : Dt S o (.bl c) := by first | exact .f | exact .u rfl) : Sm (truK K r e) P G X := f_tru h k1 da rfl k
theorem c_nx {b : M Fl} {K : Fl → M γ} (k : Sm ((b e).bind K) P G X) : Sm (seqK b K .nx e) P G X := k
theorem f_drop {K : Fl → M γ} (k : Sm (K .nx e) P G X) : Sm (dropK K r e) P G X := k
theorem f_ret {K : Fl → M γ} (k : Sm (K (.rt r) e) P G X) : Sm (retK K r e) P G X := k
theorem f_unO {u : Option ω} {k : ω → Res α} {r : R γ} (kk : ∀ v, u = some v → Sm r (k v) G X) : Sm r ((unO u).bind k) G X := by
  cases u with
  | none => first | trivial | exact ⟨trivial⟩
  | some v => exact kk v rfl
theorem f_setL {i : Nat} {v : ω} {k : ω → Res α} {K : Fl → M γ} (F : ω → SD) (h : Has pn S e) (ho : ROk r o) (s : St S i o (S1.set i (F v))) (hi : i ∉ pn) (kk : ∀ v e', Has pn (S1.set i (F v)) e' → Sm (K .nx e') (k v) G X) : Sm (setK i K r e) ((Res.ok v).bind k) G X := f_set h ho s hi (kk v)
theorem f_rng1' {rs : List RV} {j : Int} {K : List D → M γ} {k : List Int → Res α} (h : Has pn S e) (kr : ROks rs [o]) (kk : ∀ v : List Int, Sm (K (v.map enc) e) (k v) G X) (da : Dt S o (.int j) := by first | exact .f | exact .u rfl) : Sm (rg1K K rs e) ((rng1R j).bind k) G X := by
  match rs, kr with
  | [r], kr => exact f_rng1 h kr.1 kk da
theorem f_rng2' {rs : List RV} {i j : Int} {K : List D → M γ} {k : List Int → Res α} (h : Has pn S e) (kr : ROks rs [oa, ob]) (kk : ∀ v : List Int, Sm (K (v.map enc) e) (k v) G X) (da : Dt S oa (.int i) := by first | exact .f | exact .u rfl) (db : Dt S ob (.int j) := by first | exact .f | exact .u rfl) : Sm (rg2K K rs e) ((rngR i j).bind k) G X := by
  match rs, kr with
  | [r, q], kr => exact f_rng2 h kr.1 kr.2.1 kk da db
theorem f_ixTup {ds : List D} {i : Int} {K : RV → M γ} (h : Has pn S e) (k1 : ROk r (.f (.tup ds))) (k2 : ROk q (.f (.int i))) (hi : atI ds i = some d) (k : Sm (K (.fz d) e) P G X) : Sm (ixK2 r K q e) P G X := by
  cases k1; cases k2
  unfold ixK2
  simp only [view_fz, item_fz, itemD_tup, hi]
  exact k
end
structure Bx where
  ds : List Int
  at_ : Nat
def boxD (b : Bx) : List D := [enc b.ds, .int b.at_]
def p__law_draw (b : Bx) (many : Int) : Res (Int × Bx) := if 0 < many then .ok (drawV b.ds b.at_ many, ⟨b.ds, b.at_ + 1⟩) else .st
theorem ss__law_draw (b : Bx) (many : Int) : FS false (φ__law_draw [.ol (fzs (boxD b)), .fz (enc many)]) (p__law_draw b many) (fun t => .fz (enc t.1)) (fun t => [.ol (fzs (boxD t.2)), .fz (enc many)]) := by
  unfold p__law_draw
  split
  · rename_i h
    exact ⟨draw_ok b.ds b.at_ many h⟩
  · first | trivial | exact ⟨trivial⟩
theorem law_of {φ : Fn} {ns : List Int} {p : Res Bool} (h : FS false (φ [.fz (.scr ns)]) p (fun t => .fz (enc t)) (fun _ => [.fz (.scr ns)])) (hp : p = .ok true) : ∃ as', φ [.fz (.scr ns)] = .ok (.fz (.bl true)) as' := by
  rw [hp] at h
  exact ⟨_, h.run⟩
end VF
set_option maxRecDepth 100000
set_option maxHeartbeats 4000000
namespace VF
set_option autoImplicit false
open PySem L2
def Hd {α : Type} (p : Res α) (Q : α → Prop) : Prop := ∃ a, p = .ok a ∧ Q a
section
variable {α β γ σ τ : Type}
theorem Hd.bind {p : Res α} {q : α → Res β} {Q : β → Prop} {R : α → Prop} (h : Hd p R) (k : ∀ a, R a → Hd (q a) Q) : Hd (p.bind q) Q := by
  obtain ⟨a, rfl, h2⟩ := h
  exact k a h2
theorem Hd.ok {a : α} {Q : α → Prop} (h : Q a) : Hd (.ok a) Q := ⟨a, rfl, h⟩
theorem Hd.eq {p : Res α} {a : α} {Q : α → Prop} (h : p = .ok a) (k : Q a) : Hd p Q := ⟨a, h, k⟩
theorem Hd.true {p : Res Bool} (h : Hd p (· = true)) : p = .ok true := by obtain ⟨a, h1, rfl⟩ := h; exact h1
theorem Hd.mono {p : Res α} {Q R : α → Prop} (h : Hd p Q) (k : ∀ a, Q a → R a) : Hd p R := by obtain ⟨a, h1, h2⟩ := h; exact ⟨a, h1, k a h2⟩
@[simp] theorem bind_ok_self (p : Res α) : (p.bind fun a => .ok a) = p := by cases p <;> rfl
@[simp] theorem bind_ok_self' (p : Res α) : p.bind Res.ok = p := by cases p <;> rfl
theorem size_le {n : Nat} (h : n ≤ 1000000) : n ≤ sizeLine := size_ge (by omega)
theorem size_lt {n : Nat} (h : n ≤ 1000000) : n < sizeLine := size_gt (by omega)
theorem s62 {n : Int} (h : -1000000000 ≤ n) (h2 : n ≤ 1000000000) : small62 n = true := by
  rw [small62_def]; exact decide_eq_true (by omega)
theorem modR_ok {x y : Int} (h : 0 < y) : modR x y = .ok (x % y) := if_pos h
theorem appR_ok {xs : List α} {x : α} (h : xs.length ≤ 1000000) : appR xs x = .ok (xs ++ [x]) := by unfold appR; rw [okLt_eq]; exact if_pos (decide_eq_true (size_lt h))
theorem catR_ok {xs ys : List α} (h : xs.length + ys.length ≤ 1000000) : catR xs ys = .ok (xs ++ ys) := by unfold catR; rw [okLe_eq]; exact if_pos (decide_eq_true (size_le h))
theorem geti_nat {xs : List α} {i : Nat} (h : i < xs.length) : geti xs (i : Int) = .ok xs[i] := by
  unfold geti
  rw [atI_nonneg _ _ (by omega), Int.toNat_natCast, List.getElem?_eq_getElem h]
theorem geti_int {xs : List α} {i : Int} (h0 : 0 ≤ i) (h : i.toNat < xs.length) : geti xs i = .ok xs[i.toNat] := by
  unfold geti
  rw [atI_nonneg _ _ h0, List.getElem?_eq_getElem h]
theorem irng_len (lo : Int) (n : Nat) : (irng lo n).length = n := by simp [irng]
theorem rng1_ok {n : Int} (h : n ≤ 1000000) (h0 : -1000000 ≤ n) : rng1R n = .ok (irng 0 n.toNat) := by unfold rng1R; rw [ok62_eq]; exact if_pos (s62 (by omega) (by omega))
theorem rng_ok {a b : Int} (h : -1000000 ≤ a) (h1 : a ≤ 1000000) (h2 : -1000000 ≤ b) (h3 : b ≤ 1000000) : rngR a b = .ok (irng a (b - a).toNat) := by
  unfold rngR
  rw [if_pos]
  rw [ok62_eq, ok62_eq, s62 (by omega) (by omega), s62 (by omega) (by omega)]; rfl
theorem compGo_ok {f : α → σ → Res (Option β × σ)} {g : α → Option β} {s : σ} : ∀ (xs : List α) (acc : List β), (∀ x ∈ xs, f x s = .ok (g x, s)) → compGo f xs s acc = .ok (acc ++ xs.filterMap g, s)
  | [], acc, _ => by simp [compGo]
  | x :: xs, acc, h => by
    have hx := h x List.mem_cons_self
    have ht := fun y hy => h y (List.mem_cons_of_mem _ hy)
    unfold compGo
    rw [hx]
    cases q : g x with
    | none => simp only; rw [compGo_ok xs acc ht, List.filterMap_cons, q]
    | some y => simp only; rw [compGo_ok xs (acc ++ [y]) ht, List.filterMap_cons, q]; simp
theorem filC_some {f : α → Res (Option β)} {g : α → Option β} {xs : List α} (hl : xs.length ≤ 1000000) (h : ∀ x ∈ xs, f x = .ok (g x)) : filC f xs = .ok (xs.filterMap g) := by
  unfold filC filS
  rw [okLe_eq, if_pos (decide_eq_true (size_le hl)), compGo_ok (g := g) xs [] (fun x hx => by rw [h x hx]; rfl)]
  rfl
theorem mapC_ok {f : α → Res β} {g : α → β} {xs : List α} (hl : xs.length ≤ 1000000) (h : ∀ x ∈ xs, f x = .ok (g x)) : mapC f xs = .ok (xs.map g) := by
  unfold mapC
  rw [filC_some (g := fun x => some (g x)) hl (fun x hx => by rw [h x hx]; rfl)]
  simp
inductive All2 (Q : α → β → Prop) : List α → List β → Prop
  | nil : All2 Q [] []
  | cons {a : α} {b : β} {as : List α} {bs : List β} : Q a b → All2 Q as bs → All2 Q (a :: as) (b :: bs)
theorem All2.len {Q : α → β → Prop} {as : List α} {bs : List β} (h : All2 Q as bs) : bs.length = as.length := by
  induction h with
  | nil => rfl
  | cons _ _ ih => simp [ih]
theorem All2.mem {Q : α → β → Prop} {as : List α} {bs : List β} (h : All2 Q as bs) : ∀ b ∈ bs, ∃ a ∈ as, Q a b := by
  induction h with
  | nil => intro b hb; cases hb
  | cons q _ ih =>
    intro b hb
    rcases List.mem_cons.mp hb with rfl | hb
    · exact ⟨_, List.mem_cons_self, q⟩
    · obtain ⟨a, h1, h2⟩ := ih b hb
      exact ⟨a, List.mem_cons_of_mem _ h1, h2⟩
theorem All2.get {Q : α → β → Prop} {as : List α} {bs : List β} (h : All2 Q as bs) : ∀ (i : Nat) (h1 : i < as.length) (h2 : i < bs.length), Q as[i] bs[i] := by
  induction h with
  | nil => intro i h1; simp at h1
  | cons q _ ih =>
    intro i h1 h2
    cases i with
    | zero => exact q
    | succ i => exact ih i (by simpa using h1) (by simpa using h2)
theorem compGo_hd {f : α → σ → Res (Option β × σ)} {Q : α → β → Prop} : ∀ (xs : List α) (s : σ) (acc : List β), (∀ x ∈ xs, ∀ s, Hd (f x s) fun p => ∃ y, p.1 = some y ∧ Q x y) → Hd (compGo f xs s acc) fun p => ∃ ys, p.1 = acc ++ ys ∧ All2 Q xs ys
  | [], s, acc, _ => ⟨(acc, s), rfl, [], by simp, .nil⟩
  | x :: xs, s, acc, h => by
    obtain ⟨⟨o, s'⟩, h1, y, h2, h3⟩ := h x List.mem_cons_self s
    cases h2
    obtain ⟨p, h4, ys, h5, h6⟩ := compGo_hd xs s' (acc ++ [y]) (fun y hy => h y (List.mem_cons_of_mem _ hy))
    refine ⟨p, ?_, y :: ys, by rw [h5]; simp, .cons h3 h6⟩
    unfold compGo
    rw [h1]
    exact h4
theorem mapS_hd {f : α → σ → Res (β × σ)} {Q : α → β → Prop} {xs : List α} {s : σ} (hl : xs.length ≤ 1000000) (h : ∀ x ∈ xs, ∀ s, Hd (f x s) fun p => Q x p.1) : Hd (mapS f xs s) fun p => All2 Q xs p.1 := by
  unfold mapS filS
  rw [okLe_eq, if_pos (decide_eq_true (size_le hl))]
  refine (compGo_hd (Q := Q) xs s [] fun x hx s => ?_).mono fun p ⟨ys, h1, h2⟩ => by rw [h1]; simpa using h2
  obtain ⟨p, h1, h2⟩ := h x hx s
  exact ⟨(some p.1, p.2), by rw [h1]; rfl, p.1, rfl, h2⟩
theorem foldR_hd {f : α → σ → Res σ} {xs : List α} {s : σ} (I : Nat → σ → Prop) (h0 : I 0 s) (step : ∀ (i : Nat) (h : i < xs.length) s, I i s → Hd (f xs[i] s) (I (i + 1))) : Hd (foldR f xs s) (I xs.length) := by
  induction xs generalizing s I with
  | nil => exact ⟨s, rfl, h0⟩
  | cons x xs ih =>
    obtain ⟨s', h1, h2⟩ := step 0 (by simp) s h0
    unfold foldR
    rw [show f x s = .ok s' from h1]
    exact ih (fun i => I (i + 1)) h2 fun i h s hs => step (i + 1) (by simpa using h) s hs
theorem forR_go {f : α → σ → Res (Lp σ τ)} {k : σ → Res τ} {Q : τ → Prop} : ∀ {xs : List α} {s : σ} (I : Nat → σ → Prop), I 0 s → (∀ (i : Nat) (h : i < xs.length) s, I i s → Hd (f xs[i] s) fun l => ∃ s', l = .go s' ∧ I (i + 1) s') → (∀ s, I xs.length s → Hd (k s) Q) → Hd (forR f xs s k) Q
  | [], s, I, h0, _, hk => hk s h0
  | x :: xs, s, I, h0, step, hk => by
    obtain ⟨l, h1, s', rfl, h2⟩ := step 0 (by simp) s h0
    unfold forR
    rw [show f x s = .ok (.go s') from h1]
    exact forR_go (fun i => I (i + 1)) h2 (fun i h s hs => step (i + 1) (by simpa using h) s hs) hk
end
end VF
set_option maxRecDepth 100000
set_option maxHeartbeats 4000000
namespace V
set_option autoImplicit false
open PySem L2 VF
open Enc (enc)
end V
set_option maxRecDepth 100000
set_option maxHeartbeats 4000000
namespace V
set_option autoImplicit false
open PySem L2 VF
section
variable {α β γ : Type}
def Sg : Nat → (Nat → Int) → Int
  | 0, _ => 0
  | n + 1, f => Sg n f + f n
end
end V
set_option maxRecDepth 100000
set_option maxHeartbeats 4000000
namespace V
set_option autoImplicit false
open PySem L2 VF
section
variable {α β γ : Type}
end
def tb (t : List (List Int)) (k : Nat) (m : Int) : Int := (t.getD k []).getD m.toNat 0
def at3 (ps : List (List (List Int))) (a k h : Nat) : Int := ((ps.getD a []).getD k []).getD h 0
def newL (p : Int) (ps : List (List (List Int))) (m n : Nat) : List (List Int) :=
  (List.range n).map fun k => (List.range m).map fun j => (Sg ps.length fun h => at3 ps h k j) % p
end V
set_option maxRecDepth 100000
set_option maxHeartbeats 4000000
namespace VF
set_option autoImplicit false
open PySem L2
open Enc (enc)
def noX {α : Type} (p : Res α) : Res α := match p with
  | .ex _ => .st
  | .ok a => .ok a
  | .st => .st
@[simp] theorem noX_ok {α : Type} (a : α) : noX (.ok a) = .ok a := (rfl)
def tryR {σ τ : Type} (p : Res (Lp σ τ)) (h : Exc → Option τ) (k : σ → Res τ) : Res τ := match p with
  | .ok (.go s) => k s
  | .ok (.out t) => .ok t
  | .ok (.bk _) => .st
  | .ex x => (match h x with
    | some t => .ok t
    | none => .st)
  | .st => .st
@[simp] theorem tryR_go {σ τ : Type} (s : σ) (h : Exc → Option τ) (k : σ → Res τ) : tryR (.ok (.go s)) h k = k s := (rfl)
@[simp] theorem tryR_out {σ τ : Type} (t : τ) (h : Exc → Option τ) (k : σ → Res τ) : tryR (.ok (.out t)) h k = .ok t := (rfl)
class Dec (α : Type) extends Enc α where
  dec : D → Option α
  de : ∀ (d : D) (a : α), dec d = some a → d = Enc.enc a
  ed : ∀ a : α, dec (Enc.enc a) = some a
instance : Dec Int where
  dec := fun d => match d with | .int i => some i | _ => none
  de := fun d a h => by cases d <;> first | (cases h; rfl) | cases h
  ed := fun _ => rfl
instance : Dec Str where
  dec := fun d => match d with | .str i => some i | _ => none
  de := fun d a h => by cases d <;> first | (cases h; rfl) | cases h
  ed := fun _ => rfl
instance : Dec (Option Int) where
  dec := fun d => match d with | .int i => some (some i) | .non => some none | _ => none
  de := fun d a h => by cases d <;> first | (cases h; rfl) | cases h
  ed := fun a => by cases a <;> rfl
def decs {α : Type} (f : D → Option α) : List D → Option (List α)
  | [] => some []
  | d :: ds => match f d, decs f ds with
    | some a, some as => some (a :: as)
    | _, _ => none
theorem decs_de {α : Type} [Dec α] : ∀ (ds : List D) (as : List α), decs Dec.dec ds = some as → ds = as.map enc
  | [], as, h => by cases h; rfl
  | d :: ds, as, h => by
    unfold decs at h
    cases z1 : Dec.dec (α := α) d with
    | none => rw [z1] at h; cases h
    | some a =>
      cases z2 : decs (Dec.dec (α := α)) ds with
      | none => rw [z1, z2] at h; cases h
      | some as' =>
        rw [z1, z2] at h
        cases h
        rw [List.map_cons, ← decs_de ds as' z2, ← Dec.de d a z1]
theorem decs_ed {α : Type} [Dec α] : ∀ as : List α, decs (Dec.dec (α := α)) (as.map enc) = some as
  | [] => rfl
  | a :: as => by
    show decs _ (enc a :: as.map enc) = _
    unfold decs
    rw [Dec.ed, decs_ed as]
instance {α : Type} [Dec α] : Dec (List α) where
  dec := fun d => match d with | .lst ds => decs Dec.dec ds | _ => none
  de := fun d as h => by cases d <;> first | (show D.lst _ = D.lst _; rw [decs_de _ as h]) | cases h
  ed := fun as => decs_ed as
section
variable {α β τ : Type} [Dec α] [Dec β]
def ex0 (c : Str) (t : Option τ) (x : Exc) : Option τ := if x.c = c ∧ x.ns = [] then (match x.ds with
  | [] => t
  | _ => none) else none
def ex1 (c f : Str) (k : α → Option τ) (x : Exc) : Option τ := if x.c = c ∧ x.ns = [f] then (match x.ds with
  | [d] => (match Dec.dec (α := α) d with
    | some a => k a
    | none => none)
  | _ => none) else none
def ex2 (c f g : Str) (k : α → β → Option τ) (x : Exc) : Option τ := if x.c = c ∧ x.ns = [g, f] then (match x.ds with
  | [d', d] => (match Dec.dec (α := α) d, Dec.dec (α := β) d' with
    | some a, some b => k a b
    | _, _ => none)
  | _ => none) else none
@[simp] theorem ex1_at (c f : Str) (k : α → Option τ) (a : α) : ex1 c f k ⟨c, [f], [enc a]⟩ = k a := by unfold ex1; simp [Dec.ed]
@[simp] theorem ex2_at (c f g : Str) (k : α → β → Option τ) (a : α) (b : β) : ex2 c f g k ⟨c, [g, f], [enc b, enc a]⟩ = k a b := by unfold ex2; simp [Dec.ed]
@[simp] theorem ex0_at (c : Str) (t : Option τ) : ex0 c t ⟨c, [], []⟩ = t := by unfold ex0; simp
end
section
variable {α β γ δ σ τ ω : Type} {pn : List Nat} {S S' S1 : List SD} {e : Env} {X : Exc → Env → Prop} {P : Res α} {G : α → γ → Env → Prop} {r q : RV} {o oa ob : Opd}
instance : Enc VF.D := ⟨id⟩
def unD {τ : Type} [Dec τ] (d : VF.D) : Res τ := match Dec.dec d with
  | some a => .ok a
  | none => .st
@[simp] theorem unD_enc {τ : Type} [Dec τ] (a : τ) : unD (enc a) = .ok a := by unfold unD; rw [Dec.ed]
end
end VF
set_option maxRecDepth 100000
set_option maxHeartbeats 4000000
namespace V
set_option autoImplicit false
open PySem L2 VF
section
variable {α β γ σ τ : Type}
theorem forR_find {f : α → Unit → Res (Lp Unit τ)} {k : Unit → Res τ} {c : α → Bool} {g : α → τ} : ∀ {xs : List α}, (∀ x ∈ xs, f x () = if c x = true then .ok (.out (g x)) else .ok (.go ())) → forR f xs () k = (xs.find? c).elim (k ()) fun x => .ok (g x)
  | [], _ => rfl
  | x :: xs, h => by
    unfold forR
    rw [h x List.mem_cons_self, List.find?_cons]
    cases q : c x with
    | true => simp
    | false => exact forR_find fun y hy => h y (List.mem_cons_of_mem _ hy)
end
abbrev nt (L : List Int) (j : Nat) : Int := L.getD j 0
structure LM (L : List Int) (j : Nat) : Prop where
  lt : j < L.length
  le : ∀ i, i < L.length → nt L j ≤ nt L i
  last : ∀ i, i < L.length → j < i → nt L j < nt L i
structure FM (L : List Int) (j : Nat) : Prop where
  lt : j < L.length
  ge : ∀ i, i < L.length → nt L i ≤ nt L j
  first : ∀ i, i < j → nt L i < nt L j
end V
set_option maxRecDepth 100000
set_option maxHeartbeats 4000000
namespace V
set_option autoImplicit false
open PySem L2 VF
open Enc (enc)
def d__law_draw : M Fl := (dSeq (dSet 2 (dIx (dVar 0) (dC (.int 1))))
  (dSeq (dSetIx 0 (dC (.int 1)) (dOp (fI (· + ·)) (dVar 2) (dC (.int 1))))
  (dSeq (dIf (dT (dOp (fB fun i j => decide (i < j)) (dVar 2) (dCB lenD (dCons (dIx (dVar 0) (dC (.int 0))) dNil)))) (dRet (dOp fMod (dCB intD (dCons (dIx (dIx (dVar 0) (dC (.int 0))) (dVar 2)) dNil)) (dVar 1))) dNext)
  (dRet (dOp fMod (dCB intD (dCons (dOp (fI (· + ·)) (dOp fMul (dVar 2) (dC (.int 7))) (dC (.int 3))) dNil)) (dVar 1))))))
def φ__law_draw : Fn := mkFn0 [true, false] 3 d__law_draw
def drawW (ds : List Int) (at_ : Nat) (many : Int) : Int := match ds[at_]? with
  | some d => d % many
  | none => ((at_ : Int) * 7 + 3) % many
theorem mul7 (a : Int) : fMul (.int a) (.int 7) = some (.int (a * 7)) := if_pos (by rw [show inB 7 64 = true by decide, Bool.or_true])
def dDr (f : D → D → Option D) : M Fl := (dSeq (dSet 2 (dIx (dVar 0) (dC (.int 1))))
  (dSeq (dSetIx 0 (dC (.int 1)) (dOp (fI (· + ·)) (dVar 2) (dC (.int 1))))
  (dSeq (dIf (dT (dOp (fB fun i j => decide (i < j)) (dVar 2) (dCB lenD (dCons (dIx (dVar 0) (dC (.int 0))) dNil)))) (dRet (dOp fMod (dCB intD (dCons (dIx (dIx (dVar 0) (dC (.int 0))) (dVar 2)) dNil)) (dVar 1))) dNext)
  (dRet (dOp fMod (dCB intD (dCons (dOp (fI (· + ·)) (dOp f (dVar 2) (dC (.int 7))) (dC (.int 3))) dNil)) (dVar 1))))))
theorem drawW_okG (f : D → D → Option D) (hf : ∀ a : Int, f (.int a) (.int 7) = some (.int (a * 7))) (ds : List Int) (at_ : Nat) (many : Int) (hm : 0 < many) : mkFn0 [true, false] 3 (dDr f) [box ds at_, .fz (.int many)] = .ok (.fz (.int (drawW ds at_ many))) [box ds (at_ + 1), .fz (.int many)] := by
  have hb := hf at_
  cases h : ds[at_]? with
  | some d =>
    have h1 : (at_ : Int) < ds.length := by have := (List.getElem?_eq_some_iff.mp h).1; omega
    simp [mkFn0, mkFn, okArgs, env0, pinIx, dDr, box, List.replicate, h, h1, hm, drawW]
  | none =>
    have h1 : ¬ (at_ : Int) < ds.length := by have := List.getElem?_eq_none_iff.mp h; omega
    simp [mkFn0, mkFn, okArgs, env0, pinIx, dDr, box, List.replicate, h, h1, hm, drawW, hb]
theorem drawW_ok (ds : List Int) (at_ : Nat) (many : Int) (hm : 0 < many) : φ__law_draw [box ds at_, .fz (.int many)] = .ok (.fz (.int (drawW ds at_ many))) [box ds (at_ + 1), .fz (.int many)] := drawW_okG fMul mul7 ds at_ many hm
def p__law_draw (b : Bx) (many : Int) : Res (Int × Bx) := if 0 < many then .ok (drawW b.ds b.at_ many, ⟨b.ds, b.at_ + 1⟩) else .st
theorem ss__law_draw (b : Bx) (many : Int) : FS false (φ__law_draw [.ol (fzs (boxD b)), .fz (enc many)]) (p__law_draw b many) (fun t => .fz (enc t.1)) (fun t => [.ol (fzs (boxD t.2)), .fz (enc many)]) := by
  unfold p__law_draw
  split
  · rename_i h
    exact ⟨drawW_ok b.ds b.at_ many h⟩
  · exact ⟨trivial⟩
noncomputable def cellC (ns : List Int) (k : Nat) : Int := Classical.choose (cell_ok ns k)
noncomputable def p__law_cell (ns : List Int) (k : Int) : Res Int := if 0 ≤ k then .ok (cellC ns k.toNat) else .st
theorem ss__law_cell (ns : List Int) (k : Int) : FS false (φ__law_cell [.fz (.scr ns), .fz (enc k)]) (p__law_cell ns k) (fun t => .fz (enc t)) (fun _ => [.fz (.scr ns), .fz (enc k)]) := by
  unfold p__law_cell
  split
  · rename_i h
    obtain ⟨j, rfl⟩ := Int.eq_ofNat_of_zero_le h
    exact ⟨Classical.choose_spec (cell_ok ns j)⟩
  · exact ⟨trivial⟩
theorem drawW_lt (ds : List Int) (a : Nat) (m : Int) (h : 0 < m) : 0 ≤ drawW ds a m ∧ drawW ds a m < m := by
  unfold drawW
  split <;> exact ⟨Int.emod_nonneg _ (by omega), Int.emod_lt_of_pos _ h⟩
theorem hd_drw {β : Type} {b : Bx} {m : Int} {q : Int × Bx → Res β} {Q : β → Prop} (h : 0 < m) (k : ∀ v b, 0 ≤ v → v < m → Hd (q (v, b)) Q) : Hd ((p__law_draw b m).bind q) Q := by
  unfold p__law_draw
  rw [if_pos h, Res.bind_ok]
  exact k _ _ (drawW_lt _ _ _ h).1 (drawW_lt _ _ _ h).2
end V
set_option maxRecDepth 100000
set_option maxHeartbeats 4000000
namespace V
set_option autoImplicit false
open PySem L2 VF
open Enc (enc)
def d__law_row : M Fl := (dSeq (dSet 3 (dLst dNil))
  (dSeq (dIf (dT (dOp (fB fun i j => decide (i < j)) (dVar 0) (dC (.int 0)))) (dSet 0 (dOp (fI (· - ·)) (dC (.int 1)) (dOp fMul (dC (.int 2)) (dVar 0)))) dNext)
  (dSeq (dIf (dT (dOp (fB fun i j => decide (j ≤ i)) (dVar 0) (dOp fPow (dC (.int 10)) (dC (.int 18))))) (dSeq (dFor (dRng1 (dCons (dC (.int 60)) dNil)) (gN 5) (dIf (dAnd (dT (dOp (fB fun i j => decide (j < i)) (dVar 0) (dC (.int 0)))) (dT (dOp (fB fun i j => decide (i < j)) (dCB lenD (dCons (dVar 3) dNil)) (dVar 2)))) (dSeq (dDrop (dApp 3 (dOp fMod (dCB intD (dCons (dVar 0) dNil)) (dC (.int 1000)))))
  (dSet 0 (dOp fDiv (dVar 0) (dC (.int 1000))))) dNext))
  (dRet (dVar 3))) dNext)
  (dSeq (dSet 4 (dOp fMod (dCB intD (dCons (dOp (fI (· + ·)) (dOp (fI (· + ·)) (dOp fMul (dVar 0) (dC (.int 48271))) (dOp fMul (dVar 1) (dC (.int 69621)))) (dC (.int 11))) dNil)) (dC (.int 2147483647))))
  (dSeq (dFor (dRng1 (dCons (dVar 2) dNil)) (gN 5) (dSeq (dSet 4 (dOp fMod (dCB intD (dCons (dOp (fI (· + ·)) (dOp (fI (· + ·)) (dOp fMul (dVar 4) (dC (.int 16807))) (dOp fMul (dC (.int 7)) (dVar 5))) (dC (.int 1))) dNil)) (dC (.int 2147483647))))
  (dDrop (dApp 3 (dOp fMod (dCB intD (dCons (dOp fDiv (dVar 4) (dC (.int 997))) dNil)) (dC (.int 1000)))))))
  (dRet (dVar 3)))))))
def φ__law_row : Fn := mkFn0 [false, false, false] 6 d__law_row
def d__law_box : M Fl := (dSeq (dSet 3 (dLst dNil))
  (dSeq (dFor (dRng2 (dCons (dVar 1) (dCons (dVar 2) dNil))) (gN 4) (dSet 3 (dAddL (dVar 3) (dCall [false, false, false] φ__law_row (dCons (dCall [false, false] φ__law_cell (dCons (dVar 0) (dCons (dVar 4) dNil))) (dCons (dVar 4) (dCons (dC (.int 12)) dNil)))))))
  (dRet (dLst (dCons (dVar 3) (dCons (dC (.int 0)) dNil))))))
def φ__law_box : Fn := mkFn0 [false, false, false] 5 d__law_box
def p__law_row (cellH : Int) (k' : Int) (many : Int) : Res (List Int) :=
(Res.ok (([] : List Int) : List Int)).bind fun rowH =>
(if (decide (cellH < 0)) = true then
(Res.ok ((1 - (2 * cellH)) : Int)).bind fun cellH =>
Res.ok cellH
else
Res.ok cellH).bind fun cellH =>
(powR 10 18).bind fun t19 =>
if (decide (t19 ≤ cellH)) = true then
(rng1R 60).bind fun xs22 =>
(foldR (fun turn (cellH, rowH) =>
(if ((decide (0 < cellH)) && (decide ((rowH.length : Int) < many))) = true then
(appR rowH ((cellH % 1000))).bind fun rowH =>
(Res.ok ((cellH / 1000) : Int)).bind fun cellH =>
Res.ok (cellH, rowH)
else
Res.ok (cellH, rowH)).bind fun (cellH, rowH) =>
Res.ok (cellH, rowH)) xs22 (cellH, rowH)).bind fun (cellH, rowH) =>
Res.ok rowH
else
(Res.ok (((((cellH * 48271) + (k' * 69621)) + 11) % 2147483647) : Int)).bind fun seed =>
(rng1R many).bind fun xs70 =>
(foldR (fun turn (rowH, seed) =>
(Res.ok (((((seed * 16807) + (7 * turn)) + 1) % 2147483647) : Int)).bind fun seed =>
(appR rowH (((seed / 997) % 1000))).bind fun rowH =>
Res.ok (rowH, seed)) xs70 (rowH, seed)).bind fun (rowH, seed) =>
Res.ok rowH
theorem ss__law_row (cellH : Int) (k' : Int) (many : Int) : FS false (φ__law_row [.fz (enc cellH), .fz (enc k'), .fz (enc many)]) (p__law_row cellH k' many) (fun t => .ol (fzs (encs t))) (fun t => [.fz (enc cellH), .fz (enc k'), .fz (enc many)]) := by
  refine fs_mk0 [.fz (enc cellH), .fz (enc k'), .fz (enc many), .clr, .clr, .clr] rfl (by repeat (first | exact trivial | refine ⟨rfl, ?_⟩)) fun e0 h0 => ?_
  unfold p__law_row
  unfold d__law_row
  refine c_seq ?_
  refine c_set ?_
  refine c_pure h0 (p_lst pa_nil' .nil) fun r1 k2 => ?_
  refine f_setL (v := (([] : List Int) : List Int)) (fun v => .ol (encs v)) h0 k2 .w (by decide) fun rowH _ h3 => ?_
  try dsimp only [List.set_cons_zero, List.set_cons_succ] at h3
  refine c_nx ?_
  refine c_seq ?_
  refine c_if ?_
  refine c_pureB h3 (b_t (p_cmp (p_fz rfl) (p_c))) ?_
  refine f_ifJ h3 (fun (s : Int) => [.fz (enc s), .fz (enc k'), .fz (enc many), .ol (encs rowH), .clr, .clr]) (fun _ => ?_) (fun _ => ?_) ?_
  · refine c_set ?_
    refine c_pure h3 (p_int (p_c) (p_mulL (p_c) (p_fz rfl))) fun r8 k9 => ?_
    refine f_setL (v := ((1 - (2 * cellH)) : Int)) (fun v => .fz (enc v)) h3 k9 .f (by decide) fun cellH _ h10 => ?_
    try dsimp only [List.set_cons_zero, List.set_cons_succ] at h10
    exact f_jn h10
  · refine c_next ?_
    exact f_jn h3
  rintro cellH _ h12
  try dsimp only [List.set_cons_zero, List.set_cons_succ] at h12 ⊢
  refine c_nx ?_
  refine c_seq ?_
  refine c_if ?_
  refine c_t ?_
  refine c_op ?_
  refine c_pure h12 (p_fz rfl) fun r13 k14 => ?_
  refine c_op2 ?_
  refine c_op ?_
  refine c_pure h12 (p_c) fun r15 k16 => ?_
  refine c_op2 ?_
  refine c_pure h12 (p_c) fun r17 k18 => ?_
  refine f_pow h12 k16 k18 (kk := fun t19 => ?_)
  refine f_cmp h12 k14 rk_f (kk := ?_)
  refine f_t h12 rk_f ?_
  refine f_if (fun _ => ?_) (fun _ => ?_)
  · refine c_seq ?_
    refine c_for ?_
    refine c_rng1 ?_
    refine c_pureA h12 (pa_cons' (p_c) pa_nil') fun r20 k21 => ?_
    refine f_rng1' h12 k21 fun xs22 => ?_
    refine f_fold (fun (s : Int × List Int) => [.fz (enc s.1), .fz (enc k'), .fz (enc many), .ol (encs s.2), .clr, .cf]) (fun _ _ => tg_n) ?_ ?_ h12
    · rintro turn ⟨cellH, rowH⟩ _ h42
      try dsimp only [List.set_cons_zero, List.set_cons_succ] at h42 ⊢
      refine c_if ?_
      refine c_pureB h42 (b_and (b_t (p_cmp (p_fz rfl) (p_c))) (b_t (p_cmp (p_len (p_ol rfl)) (p_fz rfl)))) ?_
      refine f_ifJ h42 (fun (s : Int × List Int) => [.fz (enc s.1), .fz (enc k'), .fz (enc many), .ol (encs s.2), .clr, .fz (enc turn)]) (fun _ => ?_) (fun _ => ?_) ?_
      · refine c_seq ?_
        refine c_drop ?_
        refine c_app (ds := encs rowH) h42 rfl ?_
        refine c_pure h42 (p_modK (p_toInt (p_fz rfl)) (p_c) (h := by decide)) fun r52 k53 => ?_
        refine f_app (xs := rowH) (v := (cellH % 1000)) h42 k53 .f rfl fun rowH r54 _ k55 h56 => ?_
        try dsimp only [List.set_cons_zero, List.set_cons_succ] at h56
        refine f_drop ?_
        refine c_nx ?_
        refine c_set ?_
        refine c_pure h56 (p_divK (p_fz rfl) (p_c) (h := by decide)) fun r57 k58 => ?_
        refine f_setL (v := ((cellH / 1000) : Int)) (fun v => .fz (enc v)) h56 k58 .f (by decide) fun cellH _ h59 => ?_
        try dsimp only [List.set_cons_zero, List.set_cons_succ] at h59
        exact f_jn h59
      · refine c_next ?_
        exact f_jn h42
      rintro ⟨cellH, rowH⟩ _ h61
      try dsimp only [List.set_cons_zero, List.set_cons_succ] at h61 ⊢
      exact f_jc h61
    rintro ⟨cellH, rowH⟩ _ h62
    try dsimp only [List.set_cons_zero, List.set_cons_succ] at h62 ⊢
    refine c_nx ?_
    refine c_ret ?_
    refine c_pure h62 (p_ol rfl) fun r63 k64 => ?_
    refine f_ret ?_
    exact f_rt h62 k64 (.v rfl (by decide)) (.f (.f (.f .nil)))
  · refine c_next ?_
    refine c_nx ?_
    refine c_seq ?_
    refine c_set ?_
    refine c_pure h12 (p_modK (p_toInt (p_int (p_int (p_mulR (p_fz rfl) (p_c)) (p_mulR (p_fz rfl) (p_c))) (p_c))) (p_c) (h := by decide)) fun r65 k66 => ?_
    refine f_setL (v := (((((cellH * 48271) + (k' * 69621)) + 11) % 2147483647) : Int)) (fun v => .fz (enc v)) h12 k66 .f (by decide) fun seed _ h67 => ?_
    try dsimp only [List.set_cons_zero, List.set_cons_succ] at h67
    refine c_nx ?_
    refine c_seq ?_
    refine c_for ?_
    refine c_rng1 ?_
    refine c_pureA h67 (pa_cons' (p_fz rfl) pa_nil') fun r68 k69 => ?_
    refine f_rng1' h67 k69 fun xs70 => ?_
    refine f_fold (fun (s : List Int × Int) => [.fz (enc cellH), .fz (enc k'), .fz (enc many), .ol (encs s.1), .fz (enc s.2), .cf]) (fun _ _ => tg_n) ?_ ?_ h67
    · rintro turn ⟨rowH, seed⟩ _ h80
      try dsimp only [List.set_cons_zero, List.set_cons_succ] at h80 ⊢
      refine c_seq ?_
      refine c_set ?_
      refine c_pure h80 (p_modK (p_toInt (p_int (p_int (p_mulR (p_fz rfl) (p_c)) (p_mulL (p_c) (p_fz rfl))) (p_c))) (p_c) (h := by decide)) fun r81 k82 => ?_
      refine f_setL (v := (((((seed * 16807) + (7 * turn)) + 1) % 2147483647) : Int)) (fun v => .fz (enc v)) h80 k82 .f (by decide) fun seed _ h83 => ?_
      try dsimp only [List.set_cons_zero, List.set_cons_succ] at h83
      refine c_nx ?_
      refine c_drop ?_
      refine c_app (ds := encs rowH) h83 rfl ?_
      refine c_pure h83 (p_modK (p_toInt (p_divK (p_fz rfl) (p_c) (h := by decide))) (p_c) (h := by decide)) fun r84 k85 => ?_
      refine f_app (xs := rowH) (v := ((seed / 997) % 1000)) h83 k85 .f rfl fun rowH r86 _ k87 h88 => ?_
      try dsimp only [List.set_cons_zero, List.set_cons_succ] at h88
      refine f_drop ?_
      exact f_jc h88
    rintro ⟨rowH, seed⟩ _ h90
    try dsimp only [List.set_cons_zero, List.set_cons_succ] at h90 ⊢
    refine c_nx ?_
    refine c_ret ?_
    refine c_pure h90 (p_ol rfl) fun r91 k92 => ?_
    refine f_ret ?_
    exact f_rt h90 k92 (.v rfl (by decide)) (.f (.f (.f .nil)))
noncomputable def p__law_box (script : List Int) (first : Int) (last : Int) : Res Bx :=
(Res.ok (([] : List Int) : List Int)).bind fun rowH =>
(rngR first last).bind fun xs6 =>
(foldR (fun k' rowH =>
(p__law_cell script k').bind fun t36 =>
(p__law_row t36 k' 12).bind fun t44 =>
(catR rowH t44).bind fun t48 =>
(Res.ok (t48 : List Int)).bind fun rowH =>
Res.ok rowH) xs6 rowH).bind fun rowH =>
Res.ok (Bx.mk rowH 0)
theorem ss__law_box (script : List Int) (first : Int) (last : Int) : FS false (φ__law_box [.fz (.scr script), .fz (enc first), .fz (enc last)]) (p__law_box script first last) (fun t => .ol (fzs (boxD t))) (fun t => [.fz (.scr script), .fz (enc first), .fz (enc last)]) := by
  refine fs_mk0 [.fz (.scr script), .fz (enc first), .fz (enc last), .clr, .clr] rfl (by repeat (first | exact trivial | refine ⟨rfl, ?_⟩)) fun e0 h0 => ?_
  unfold p__law_box
  unfold d__law_box
  refine c_seq ?_
  refine c_set ?_
  refine c_pure h0 (p_lst pa_nil' .nil) fun r1 k2 => ?_
  refine f_setL (v := (([] : List Int) : List Int)) (fun v => .ol (encs v)) h0 k2 .w (by decide) fun rowH _ h3 => ?_
  try dsimp only [List.set_cons_zero, List.set_cons_succ] at h3
  refine c_nx ?_
  refine c_seq ?_
  refine c_for ?_
  refine c_rng2 ?_
  refine c_pureA h3 (pa_cons' (p_fz rfl) (pa_cons' (p_fz rfl) pa_nil')) fun r4 k5 => ?_
  refine f_rng2' h3 k5 fun xs6 => ?_
  refine f_fold (fun (s : List Int) => [.fz (.scr script), .fz (enc first), .fz (enc last), .ol (encs s), .cf]) (fun _ _ => tg_n) ?_ ?_ h3
  · rintro k' rowH _ h30
    try dsimp only [List.set_cons_zero, List.set_cons_succ] at h30 ⊢
    refine c_set ?_
    refine c_addL ?_
    refine c_pure h30 (p_ol rfl) fun r31 k32 => ?_
    refine f_addL1 (xs := rowH) h30 k32 (.v rfl) fun _ h33 => ?_
    refine c_call ?_
    refine c_cons ?_
    refine c_call ?_
    refine c_pureA h33 (pa_cons' (p_fz rfl) (pa_cons' (p_fz rfl) pa_nil')) fun r34 k35 => ?_
    refine f_call h33 k35 (.f .f (.f .f .nil)) (ss__law_cell script k') (fun _ => (.f (.f .nil))) (fun _ => rk_f) fun t36 r37 _ k38 h39 => ?_
    try dsimp only [List.set_cons_zero, List.set_cons_succ] at h39
    refine c_cons2 ?_
    refine c_cons ?_
    refine c_pure h39 (p_fz rfl) fun r40 k41 => ?_
    refine c_cons2 ?_
    refine c_cons ?_
    refine c_pure h39 (p_c) fun r42 k43 => ?_
    refine c_cons2 ?_
    refine c_nil ?_
    refine f_cons ?_
    refine f_cons ?_
    refine f_cons ?_
    refine f_call h39 (rks k38 (rks k41 (rks k43 rks0))) (.f .f (.f .f (.f .f .nil))) (ss__law_row t36 k' 12) (fun _ => (.f (.f (.f .nil)))) (fun _ => rk_w) fun t44 r45 _ k46 h47 => ?_
    try dsimp only [List.set_cons_zero, List.set_cons_succ] at h47
    refine f_addL2 h47 k46 .w fun t48 r49 _ k50 h51 => ?_
    refine f_setL (v := (t48 : List Int)) (fun v => .ol (encs v)) h51 k50 .w (by decide) fun rowH _ h52 => ?_
    try dsimp only [List.set_cons_zero, List.set_cons_succ] at h52
    exact f_jc h52
  rintro rowH _ h54
  try dsimp only [List.set_cons_zero, List.set_cons_succ] at h54 ⊢
  refine c_nx ?_
  refine c_ret ?_
  refine c_lst ?_
  refine c_pureA h54 (pa_cons' (p_ol rfl) (pa_cons' (p_c) pa_nil')) fun r55 k56 => ?_
  refine f_lst h54 k56 (.cons (.v rfl) (.cons .f .nil)) (Nat.le_of_ble_eq_true rfl) fun r57 _ k58 h59 => ?_
  refine f_ret ?_
  exact f_rt h59 k58 .w (.f (.f (.f .nil)))
end V
set_option maxRecDepth 100000
set_option maxHeartbeats 4000000
namespace V
set_option autoImplicit false
open PySem L2 VF
theorem p18 : powR 10 18 = .ok (10 ^ 18) := by unfold powR; rw [okPow_eq]; rfl
theorem row_hd (c k : Int) : Hd (p__law_row c k 12) fun L => L.length ≤ 60 := by
  unfold p__law_row
  rw [Res.bind_ok]
  refine Hd.bind (R := fun _ => True) (by split <;> exact ⟨_, rfl, trivial⟩) fun c _ => ?_
  rw [p18, Res.bind_ok]
  split
  · rw [rng1_ok (by omega) (by omega), Res.bind_ok]
    refine (foldR_hd (fun i (s : Int × List Int) => s.2.length ≤ i) (Nat.le_refl _) fun i hi s hs => ?_).bind fun s hs => Hd.ok (by rw [irng_len] at hs; exact hs)
    obtain ⟨c, L⟩ := s
    rw [irng_len] at hi
    dsimp only at hs ⊢
    have hi' : i < 60 := hi
    split
    · rw [appR_ok (by omega), Res.bind_ok, Res.bind_ok, Res.bind_ok]
      exact Hd.ok (by simp; omega)
    · rw [Res.bind_ok]
      exact Hd.ok (by dsimp only; omega)
  · rw [Res.bind_ok, rng1_ok (by omega) (by omega), Res.bind_ok]
    refine (foldR_hd (fun i (s : List Int × Int) => s.1.length ≤ i) (Nat.le_refl _) fun i hi s hs => ?_).bind fun s hs => Hd.ok (by rw [irng_len] at hs; exact Nat.le_trans hs (by decide))
    obtain ⟨L, c⟩ := s
    rw [irng_len] at hi
    dsimp only at hs ⊢
    have hi' : i < 12 := hi
    rw [Res.bind_ok, appR_ok (by omega), Res.bind_ok]
    exact Hd.ok (by simp; omega)
theorem box_hd (ns : List Int) {j : Int} (h0 : 0 ≤ j) (h1 : j ≤ 1000) : Hd (p__law_box ns 0 j) fun _ => True := by
  unfold p__law_box
  rw [Res.bind_ok, rng_ok (by omega) (by omega) (by omega) (by omega), Res.bind_ok]
  refine (foldR_hd (fun i (L : List Int) => L.length ≤ 60 * i) (Nat.le_refl _) fun i hi L hL => ?_).bind fun L _ => Hd.ok trivial
  rw [irng_len] at hi
  have ex : (irng 0 (j - 0).toNat)[i]'(by rw [irng_len]; exact hi) = (i : Int) := by simp [irng]
  rw [ex]
  have hc : p__law_cell ns (i : Int) = .ok (cellC ns i) := by unfold p__law_cell; rw [if_pos (by omega), Int.toNat_natCast]
  rw [hc, Res.bind_ok]
  refine (row_hd _ _).bind fun M hM => ?_
  rw [catR_ok (by omega), Res.bind_ok, Res.bind_ok]
  exact Hd.ok (by simp; omega)
end V
set_option maxRecDepth 100000
set_option maxHeartbeats 4000000
namespace V
set_option autoImplicit false
open PySem L2 VF
open Enc (enc)
section
variable {α γ ω ψ : Type} {pn : List Nat} {S S' S1 : List SD} {e : VF.Env} {X : Exc → VF.Env → Prop} {P : Res α} {G : α → γ → VF.Env → Prop} {oa ob : Opd}
end
def d__law_same : M Fl := (dRet (dOp fEqS (dCB reprD (dCons (dVar 0) dNil)) (dCB reprD (dCons (dVar 1) dNil))))
def φ__law_same : Fn := mkFn0 [false, false] 2 d__law_same
def showD (d : D) : Option Str := (toP d).bind fun p => if shownOk p = true then some p.shown else none
theorem reprD_show (d : D) : reprD [d] = (showD d).map D.str := by
  show (match toP d with | some p => if shownOk p = true then some (D.str p.shown) else none | none => none) = _
  unfold showD
  cases toP d with
  | none => rfl
  | some p => simp only [Option.bind_some]; split <;> rfl
def p__law_same {α β : Type} [Enc α] [Enc β] (a : α) (b : β) : Res Bool := match showD (enc a), showD (enc b) with
  | some x, some y => .ok (decide (x = y))
  | _, _ => .st
theorem same_ok (f g : D → D → Option D) (r : List D → Option D) (da db : D) (x y : Str) (c : Bool) (h1 : r [da] = some (.str x)) (h2 : r [db] = some (.str y)) (h3 : f (.str x) (.str y) = some (.bl c)) : mkFn0 [false, false] 2 (dRet (dOp f (dCB r (dCons (dVar 0) dNil)) (dCB r (dCons (dVar 1) dNil)))) [.fz da, .fz db] = .ok (.fz (.bl c)) [.fz da, .fz db] := by
  simp [mkFn0, mkFn, okArgs, env0, pinIx, List.replicate, h1, h2, h3]
theorem ss__law_same {α β : Type} [Enc α] [Enc β] (a : α) (b : β) : FS false (φ__law_same [.fz (enc a), .fz (enc b)]) (p__law_same a b) (fun t => .fz (enc t)) (fun _ => [.fz (enc a), .fz (enc b)]) := by
  unfold p__law_same
  cases h1 : showD (enc a) with
  | none => exact ⟨trivial⟩
  | some x =>
    cases h2 : showD (enc b) with
    | none => exact ⟨trivial⟩
    | some y => exact ⟨same_ok fEqS fEqS reprD _ _ x y (decide (x = y)) (by rw [reprD_show, h1]; rfl) (by rw [reprD_show, h2]; rfl) rfl⟩
theorem same_eq {α β : Type} [Enc α] [Enc β] {a : α} {b : β} {x : Str} (h : showD (enc a) = some x) (e : enc a = enc b) : p__law_same a b = .ok true := by
  unfold p__law_same
  rw [← e, h]
  simp
end V
set_option maxRecDepth 100000
set_option maxHeartbeats 4000000
namespace VF
set_option autoImplicit false
open PySem PySem.Spec PyProof.Rows L2
open AT (cells cellsL er ers)
section
variable {X : Cx} {xA xB n : Str} {cA cB : Value} {i : Nat} {body rA rB : List Stmt} {sA sB : Stmt} {pA pB qA qB pos : Pos} {tb : L2.WX → TS} {tA tB : Addr → Value → Option Addr → TS} {Wo : L2.WX}
end
section
variable {X : Cx} {E : XS}
end
inductive CatF (K : PySem.W.Frag) (mg : Str → Option Value) (cA cB : Value) : List Str → Prop
  | nil : CatF K mg cA cB []
  | cons {y : Str} {C : Addr} {t : List Str} (g : mg y = some (.ref C)) (f : PySem.W.exmOne K (.ref C) cA = some false) (m : PySem.W.exmOne K (.ref C) cB = some true) (r : CatF K mg cA cB t) : CatF K mg cA cB (y :: t)
theorem CatF.at {K : PySem.W.Frag} {mg : Str → Option Value} {cA cB : Value} {t : List Str} (T : CatF K mg cA cB t) {y : Str} {C : Addr} (h : y ∈ t) (g : mg y = some (.ref C)) : PySem.W.exmOne K (.ref C) cA = some false ∧ PySem.W.exmOne K (.ref C) cB = some true := by
  induction T with
  | nil => cases h
  | @cons y' C' t g' f m r ih =>
    rcases List.mem_cons.mp h with q | q
    · subst q
      rw [g] at g'
      cases g'
      exact ⟨f, m⟩
    · exact ih q
theorem CatF.hm {K : PySem.W.Frag} {mg : Str → Option Value} {cA cB : Value} {t : List Str} (T : CatF K mg cA cB t) (h : Exc → Option SV) : ∀ (y : Exc) (s : SV) (C : Addr), gOn t h y = some s → mg y.c = some (.ref C) → PySem.W.exmOne K (.ref C) cA = some false ∧ PySem.W.exmOne K (.ref C) cB = some true := fun y s C q g => by
  unfold gOn at q
  by_cases z : y.c ∈ t
  · exact T.at z g
  · rw [if_neg z] at q; cases q
section
variable {X : Cx} {E : XS}
end
end VF
set_option maxRecDepth 100000
set_option maxHeartbeats 4000000
namespace VF
set_option autoImplicit false
open PySem PySem.Spec PyProof.Rows L2
open AT (cells cellsL er ers)
section
variable {K : PySem.W.Frag} {mg : Str → Option Value} {F : Hp} {E : XS}
end
end VF
set_option maxRecDepth 100000
set_option maxHeartbeats 4000000
namespace VF
set_option autoImplicit false
open PySem PySem.Spec PyProof.Rows L2
open AT (cells cellsL er ers)
def fAddS : D → D → Option D := fun a b => match a, b with
  | .str i, .str j => if i.length + j.length ≤ sizeLine then some (.str (i ++ j)) else none
  | _, _ => none
def strD : List D → Option D
  | [.int i] => if i.natAbs.log2 < 1920 then some (.str (toString i)) else none
  | _ => none
def intSD : List D → Option D
  | [.str a] => if a.length ≤ 640 then (PySem.intText? a).map .int else none
  | _ => none
def strsD (ys : List Str) : List D := ys.map .str
def strsOf : List D → Option (List Str)
  | [] => some []
  | .str y :: ds => (strsOf ds).map (y :: ·)
  | _ => none
def dSplit (a b : M RV) : M RV := a.bind fun r e => match view e r with
  | some (.str x) => (b e).bind fun q e2 => (match view e2 q with
    | some (.str y) => if (y.length == 0) = false ∧ x.length + 2 ≤ sizeLine then .ok (.own (.ol ((strsD (Txt.split x y)).map .fz))) e2 else .st
    | _ => .st)
  | _ => .st
def dJoin (a b : M RV) : M RV := a.bind fun r e => match view e r with
  | some (.str x) => (b e).bind fun q e2 => (match view e2 q with
    | some (.lst ds) => (match strsOf ds with
      | some ys => if (ys.map (·.length)).sum + ys.length * x.length ≤ 16777216 then .ok (.fz (.str (Txt.join x ys))) e2 else .st
      | none => .st)
    | _ => .st)
  | _ => .st
def dSlS (a : M RV) (l h : M (Option Int)) : M RV := a.bind fun r e => match view e r with
  | some (.str z) => if z.length ≤ sizeLine then (l e).bind fun lo e2 => (h e2).bind fun hi e3 => .ok (.fz (.str (cutS z lo hi))) e3 else .st
  | _ => .st
section
variable {K : PySem.W.Frag} {mg : Str → Option Value} {E : XS}
theorem opd_addS : OpD (fun x y H Q => ∃ i j, x = .str i ∧ y = .str j ∧ i.length + j.length ≤ sizeLine ∧ Q (.str (i ++ j)) H) K mg fAddS := by
  intro H x y a b d ra rb q
  cases a <;> first | (cases b <;> cases q; done) | skip
  cases b <;> first | (cases q; done) | skip
  rename_i i j
  have q' : (if i.length + j.length ≤ sizeLine then some (D.str (i ++ j)) else none) = some d := q
  split at q'
  · rename_i hl
    cases q'
    exact ⟨_, rfl, fun Q k => ⟨i, j, ra, rb, hl, k⟩⟩
  · cases q'
theorem cbd_str : CbD (fun xs H Q => ∃ i, xs = [.int i] ∧ i.natAbs.log2 < 1920 ∧ Q (.str (toString i)) H) K mg strD := by
  intro H xs as d r q
  match as, r with
  | [a], r =>
    obtain ⟨v, e, rv⟩ := reps1 r
    subst e
    cases a with
    | int i =>
      have q' : (if i.natAbs.log2 < 1920 then some (D.str (toString i)) else none) = some d := q
      split at q'
      · rename_i hl
        cases q'
        exact ⟨_, rfl, fun Q k => ⟨i, by rw [show v = .int i from rv], hl, k⟩⟩
      · cases q'
    | _ => cases q
  | [], _ => simp [strD] at q
  | _ :: _ :: _, _ => simp [strD] at q
theorem cbd_intS : CbD (fun xs H Q => ∃ a n, xs = [.str a] ∧ PySem.intText? a = some n ∧ a.length ≤ 640 ∧ Q (.int n) H) K mg intSD := by
  intro H xs as d r q
  match as, r with
  | [a], r =>
    obtain ⟨v, e, rv⟩ := reps1 r
    subst e
    cases a with
    | str a =>
      have q' : (if a.length ≤ 640 then (PySem.intText? a).map D.int else none) = some d := q
      split at q'
      · rename_i hl
        cases z : PySem.intText? a with
        | none => rw [z] at q'; cases q'
        | some n =>
          rw [z] at q'
          cases q'
          exact ⟨_, rfl, fun Q k => ⟨a, n, by rw [show v = .str a from rv], z, hl, k⟩⟩
      · cases q'
    | _ => cases q
  | [], _ => simp [intSD] at q
  | _ :: _ :: _, _ => simp [intSD] at q
theorem reps_strs {F : Hp} : ∀ ys : List Str, Reps K mg F (ys.map V.str) (strsD ys)
  | [] => trivial
  | y :: ys => ⟨rfl, reps_strs ys⟩
theorem strs_reps {F : Hp} : ∀ {ds : List D} {vs : List V} {ys : List Str}, Reps K mg F vs ds → strsOf ds = some ys → vs = ys.map V.str
  | [], [], ys, _, h => by cases h; rfl
  | d :: ds, v :: vs, ys, ⟨h1, h2⟩, h => by
    cases d with
    | str y =>
      have h' : (strsOf ds).map (y :: ·) = some ys := h
      cases z : strsOf ds with
      | none => rw [z] at h'; cases h'
      | some zs =>
        rw [z] at h'
        cases h'
        rw [show v = .str y from h1, strs_reps h2 z]; rfl
    | _ => cases h
  | [], _ :: _, _, h, _ => h.elim
  | _ :: _, [], _, h, _ => h.elim
theorem se_split {ta tb : TE} {ma mb : M RV} (ha : SE K mg E ta ma) (hb : SE K mg E tb mb) : SE K mg E (tM1 (fun x xs H Q => ∃ a b, x = .str a ∧ xs = [.str b] ∧ (b.length == 0) = false ∧ a.length + 2 ≤ sizeLine ∧ rNewStrs (Txt.split a b) H Q) ta tb) (dSplit ma mb) := by
  intro pv F H σ e as held Q c w
  refine ha pv F H σ e as held _ c (WE.bindE (W := WE K mg pv F held σ Q E) (fun z => z) w (fun _ _ z => z) fun r1 e1 v1 F1 H1 as1 tr1 s1 c1 rr1 w1 => ?_)
  cases q1 : view e1 r1 with
  | none => simp only [q1] at w1; exact w1.elim
  | some d1 =>
    cases d1 with
    | str x =>
      simp only [q1] at w1
      have ev : v1 = .str x := c1.seen rr1 (fun t ht => List.mem_append_left _ ht) q1
      subst ev
      refine ⟨⟨x, rfl⟩, hb pv F1 H1 σ e1 as1 (tr1 ++ held) _ c1 (WE.bindE (W := WE K mg pv F held σ Q E) (fun z => z) w1 (fun _ _ z => (WX.mono s1 z).drop) fun r2 e2 v2 F2 H2 as2 tr2 s2 c2 rr2 w2 => ?_)⟩
      cases q2 : view e2 r2 with
      | none => simp only [q2] at w2; exact w2.elim
      | some d2 =>
        cases d2 with
        | str y =>
          simp only [q2] at w2
          have ev2 : v2 = .str y := c2.seen rr2 (fun t ht => List.mem_append_left _ ht) q2
          subst ev2
          split at w2
          · rename_i hh
            refine ⟨x, y, rfl, rfl, hh.1, hh.2, fun p hp => ?_⟩
            obtain ⟨t, t1, t2, c3⟩ := c2.drop.drop.newL (vs := (Txt.split x y).map V.str) (ds := strsD (Txt.split x y)) (reps_strs _) hp
            exact w2 (.ref p) F2 _ as2 [t] (s1.trans s2) c3 ⟨t, rfl, t1, t2⟩
          · exact w2.elim
        | _ => simp only [q2] at w2; exact w2.elim
    | _ => simp only [q1] at w1; exact w1.elim
theorem se_join {ta tb : TE} {ma mb : M RV} (ha : SE K mg E ta ma) (hb : SE K mg E tb mb) : SE K mg E (tM1 (fun x xs H Q => ∃ a p, ∃ ys : List Str, x = .str a ∧ xs = [.ref p] ∧ (SqL K H p (ys.map V.str) ∨ SqT K H p (ys.map V.str)) ∧
      (ys.map (·.length)).sum + ys.length * a.length ≤ 16777216 ∧ Q (.str (Txt.join a ys)) H) ta tb) (dJoin ma mb) := by
  intro pv F H σ e as held Q c w
  refine ha pv F H σ e as held _ c (WE.bindE (W := WE K mg pv F held σ Q E) (fun z => z) w (fun _ _ z => z) fun r1 e1 v1 F1 H1 as1 tr1 s1 c1 rr1 w1 => ?_)
  cases q1 : view e1 r1 with
  | none => simp only [q1] at w1; exact w1.elim
  | some d1 =>
    cases d1 with
    | str x =>
      simp only [q1] at w1
      have ev : v1 = .str x := c1.seen rr1 (fun t ht => List.mem_append_left _ ht) q1
      subst ev
      refine ⟨⟨x, rfl⟩, hb pv F1 H1 σ e1 as1 (tr1 ++ held) _ c1 (WE.bindE (W := WE K mg pv F held σ Q E) (fun z => z) w1 (fun _ _ z => (WX.mono s1 z).drop) fun r2 e2 v2 F2 H2 as2 tr2 s2 c2 rr2 w2 => ?_)⟩
      cases q2 : view e2 r2 with
      | none => simp only [q2] at w2; exact w2.elim
      | some d2 =>
        cases d2 with
        | lst ds =>
          simp only [q2] at w2
          cases q3 : strsOf ds with
          | none => simp only [q3] at w2; exact w2.elim
          | some ys =>
            simp only [q3] at w2
            obtain ⟨p, vs, ev2, h1, h2⟩ := c2.seen rr2 (fun t ht => List.mem_append_left _ ht) q2
            have es := strs_reps h2 q3
            subst ev2 es
            split at w2
            · rename_i hh
              exact ⟨x, p, ys, rfl, rfl, .inl (SqL.of h1), hh, w2 _ F2 H2 as2 _ (s1.trans s2) (c2.drop.drop.fz (show Rep K mg F2 (.str _) (.str _) from rfl)) rfl⟩
            · exact w2.elim
        | _ => simp only [q2] at w2; exact w2.elim
    | _ => simp only [q1] at w1; exact w1.elim
theorem se_slS {te : TE} {tl th : TO} {ma : M RV} {ml mh : M (Option Int)} (ha : SE K mg E te ma) (hl : SO K mg E tl ml) (hh : SO K mg E th mh) : SE K mg E (tSl rSlS te tl th) (dSlS ma ml mh) := by
  intro pv F H σ e as held Q c w
  refine ha pv F H σ e as held _ c (WE.bindE (W := WE K mg pv F held σ Q E) (fun z => z) w (fun _ _ z => z) fun r e1 v F1 H1 as1 tr s1 c1 rr w1 => ?_)
  cases q : view e1 r with
  | none => simp only [q] at w1; exact w1.elim
  | some d =>
    cases d with
    | str z =>
      simp only [q] at w1
      have ev : v = .str z := c1.seen rr (fun t ht => List.mem_append_left _ ht) q
      subst ev
      split at w1
      · rename_i hz
        refine hl pv F1 H1 σ e1 as1 held _ c1.drop (WO.bindO (W := WE K mg pv F held σ Q E) (fun z => z) w1 (fun _ _ z => WX.mono s1 z) fun lo e3 F3 H3 as3 s3 c3 w3 => ?_)
        refine hh pv F3 H3 σ e3 as3 held _ c3 (WO.bindO (W := WE K mg pv F held σ Q E) (fun z => z) w3 (fun _ _ z => WX.mono (s1.trans s3) z) fun hi e4 F4 H4 as4 s4 c4 w4 => ?_)
        exact ⟨z, rfl, hz, w4 _ F4 H4 as4 _ ((s1.trans s3).trans s4) (c4.fz (show Rep K mg F4 (.str _) (.str _) from rfl)) rfl⟩
      · exact w1.elim
    | _ => simp only [q] at w1; exact w1.elim
end
section
variable {X : Cx} {E : XS} {a b c : Expr} {ma mb mc : M RV} {pos : Pos} {es : List Expr} {mr : M (List RV)}
theorem v_addS (ha : VE X E a ma) (hb : VE X E b mb) : VE X E (.BinOp a .Add b pos) (dOp fAddS ma mb) := .mk (pe_op op_add_str ha hb) (se_op opd_addS se_w se_w)
theorem v_strI {p : Pos} (hg : Gl X "str") (hm : X.mg "str" = none) (ha : VA X E (a :: es) mr) (he : starEach (a :: es) X.env = (false, eval a X.env) :: starEach es X.env := by rfl) (hpl : (backTo pos (starEach es X.env)).any (·.1) = false := by rfl) :
    VE X E (.Call (.Name "str" p) (a :: es) [] pos) (dCB strD mr) := .mk (pe_callTy call_str_int hg hm (by decide +kernel) ha (by decide) (by decide) he hpl) (se_cb cbd_str sa_w)
theorem v_intS {p : Pos} (hg : Gl X "int") (hm : X.mg "int" = none) (ha : VA X E (a :: es) mr) (he : starEach (a :: es) X.env = (false, eval a X.env) :: starEach es X.env := by rfl) (hpl : (backTo pos (starEach es X.env)).any (·.1) = false := by rfl) :
    VE X E (.Call (.Name "int" p) (a :: es) [] pos) (dCB intSD mr) := .mk (pe_callTy call_int_str hg hm (by decide +kernel) ha (by decide) (by decide) he hpl) (se_cb cbd_intS sa_w)
theorem v_split {p1 : Pos} (ha : VE X E a ma) (hb : VE X E b mb) (hs : starEach [b] X.env = [(false, eval b X.env)] := by rfl) (hbase : attributeBase a "split" X.env (eval a X.env) = eval a X.env := by rfl) (hline : (p1.endLine == pos.line) = true := by rfl) :
    VE X E (.Call (.Attribute a "split" p1) [b] [] pos) (dSplit ma mb) := .mk (pe_split ha hb hs hbase hline) (se_split se_w se_w)
theorem v_join {p1 : Pos} (ha : VE X E a ma) (hb : VE X E b mb) (hs : starEach [b] X.env = [(false, eval b X.env)] := by rfl) (hbase : attributeBase a "join" X.env (eval a X.env) = eval a X.env := by rfl) (hline : (p1.endLine == pos.line) = true := by rfl) :
    VE X E (.Call (.Attribute a "join" p1) [b] [] pos) (dJoin ma mb) := .mk (pe_join ha hb hs hbase hline) (se_join se_w se_w)
theorem v_slSTo {p2 : Pos} (ha : VE X E a ma) (hb : VE X E b mb) : VE X E (.Subscript a (.Slice none (some b) none p2) pos) (dSlS ma dNoPart (dPart mb)) := .mk (pe_slice sl_str ha po_none (po_some hb)) (se_slS se_w so_none (so_some se_w))
theorem v_slSFrom {p2 : Pos} (ha : VE X E a ma) (hb : VE X E b mb) : VE X E (.Subscript a (.Slice (some b) none none p2) pos) (dSlS ma (dPart mb) dNoPart) := .mk (pe_slice sl_str ha (po_some hb) po_none) (se_slS se_w (so_some se_w) so_none)
end
end VF
set_option maxRecDepth 100000
set_option maxHeartbeats 4000000
namespace VF
set_option autoImplicit false
open PySem PySem.Spec PyProof.Rows L2
open AT (cells cellsL er ers)
theorem strsAre_ok : ∀ {vs : List Value} {zs : List Str}, strsAre vs zs = true → Vals (zs.map V.str) vs
  | [], [], _ => .nil
  | v :: vs, z :: zs, h => by
    cases v with
    | str y t =>
      obtain ⟨h1, h2⟩ := Bool.and_eq_true_iff.mp (show (decide (y = z) && strsAre vs zs) = true from h)
      rw [← of_decide_eq_true h1]
      exact .cons ⟨t, rfl⟩ (strsAre_ok h2)
    | _ => cases h
  | [], _ :: _, h => by cases h
  | v :: _, [], h => by cases v <;> cases h
def GTup (K : PySem.W.Frag) (mg : Str → Option Value) (x : Str) (zs : List Str) : Prop := ∃ a, mg x = some (.ref a) ∧ ∀ H, SqT K H a (zs.map V.str)
theorem gtup_ok {K : PySem.W.Frag} {h : Heap} {mg : Str → Option Value} (X : K.In h) (G : h.Ns mainGlobals mg) {x : Str} {zs : List Str} (c : gtupB K x zs = true) : GTup K mg x zs := by
  unfold gtupB at c
  cases e : PySem.W.nsIn K mainGlobals x with
  | none => rw [e] at c; cases c
  | some o =>
    rw [e] at c
    cases o with
    | none => cases c
    | some v =>
      cases v with
      | ref a =>
        simp only at c
        cases q : K.lookup a with
        | none => rw [q] at c; cases c
        | some ob =>
          obtain ⟨oc, od, dt, sl⟩ := ob
          rw [q] at c
          cases oc with
          | type t =>
            cases dt with
            | seq its n =>
              obtain ⟨c1, c2⟩ := Bool.and_eq_true_iff.mp (show (decide (t = "tuple") && (decide (its.size ≤ sizeLine) && strsAre its.toList zs)) = true from c)
              obtain ⟨c3, c4⟩ := Bool.and_eq_true_iff.mp c2
              refine ⟨a, PySem.W.mg_of X G e, fun H => .inr ⟨_, its, n, q, ?_, rfl, of_decide_eq_true c3, strsAre_ok c4⟩⟩
              rw [of_decide_eq_true c1]
            | _ => cases c
          | _ => cases dt <;> cases c
      | _ => cases c
theorem reps_strT {K : PySem.W.Frag} {mg : Str → Option Value} {F : Hp} : ∀ ys : List Str, Reps K mg F (ys.map V.str) (ys.map D.str)
  | [] => trivial
  | _ :: ys => ⟨rfl, reps_strT ys⟩
theorem v_gtup {X : Cx} {E : XS} {x : Str} {zs : List Str} {p : Pos} (hg : Gl X x) (T : GTup X.K X.mg x zs) (hd : (x == ("__debug__" : Str)) = false := by decide) : VE X E (.Name x p) (dC (.tup (zs.map .str))) := by
  obtain ⟨a, hm, hS⟩ := T
  refine .mk (pe_glob (v := .ref a) hg hm rfl hd) fun pv F H σ e as held Q c w => ?_
  exact w _ F H as _ (Same.refl _) (c.fz (show Rep X.K X.mg F (.ref a) (.tup (zs.map .str)) from ⟨a, _, rfl, hS F, reps_strT zs⟩)) rfl
instance {x : Str} {n : Int} : Decidable (MulOk x n) := by unfold MulOk; infer_instance
def fMulS : D → D → Option D := fun a b => match a, b with
  | .str x, .int n => if MulOk x n then some (.str (Txt.mul x n)) else none
  | _, _ => none
section
variable {X : Cx} {K : PySem.W.Frag} {mg : Str → Option Value} {E : XS}
theorem op_mulS : OpR X (binaryOp .Mult) (fun x y H Q => ∃ i j, x = .str i ∧ y = .int j ∧ MulOk i j ∧ Q (.str (Txt.mul i j)) H) := by
  intro pins s σ H x y v u Q I rx ry h
  obtain ⟨i, j, rfl, rfl, hok, q⟩ := h
  obtain ⟨t, rfl⟩ := rx
  obtain ⟨t', rfl⟩ := ry
  exact PySem.SB.mul hok fun t k => ⟨.str _, H, I.tok _, ⟨_, rfl⟩, q⟩
theorem opd_mulS : OpD (fun x y H Q => ∃ i j, x = .str i ∧ y = .int j ∧ MulOk i j ∧ Q (.str (Txt.mul i j)) H) K mg fMulS := by
  intro H x y a b d ra rb q
  cases a <;> first | (cases b <;> cases q; done) | skip
  cases b <;> first | (cases q; done) | skip
  rename_i i j
  have q' : (if MulOk i j then some (D.str (Txt.mul i j)) else none) = some d := q
  split at q'
  · rename_i hl
    cases q'
    exact ⟨_, rfl, fun Q k => ⟨i, j, ra, rb, hl, k⟩⟩
  · cases q'
end
def dGetR (a b : M RV) : M RV := a.bind fun r => b.bind fun q e => match view e q with
  | some (.str k) => (match getKR (.inr k) e r with
    | some d => .ok (.fz d) e
    | none => .st)
  | _ => .st
section
variable {K : PySem.W.Frag} {mg : Str → Option Value} {E : XS}
theorem se_getR {ta tb : TE} {ma mb : M RV} (ha : SE K mg E ta ma) (hb : SE K mg E tb mb) : SE K mg E (tDGet ta tb) (dGetR ma mb) := by
  intro pv F H σ e as held Q c w
  refine ha pv F H σ e as held _ c (WE.bindE (W := WE K mg pv F held σ Q E) (fun z => z) w (fun _ _ z => z) fun r1 e1 v1 F1 H1 as1 tr1 s1 c1 rr1 w1 => ?_)
  refine hb pv F1 H1 σ e1 as1 (tr1 ++ held) _ c1 (WE.bindE (W := WE K mg pv F held σ Q E) (fun z => z) w1 (fun _ _ z => (WX.mono s1 z).drop) fun r2 e2 v2 F2 H2 as2 tr2 s2 c2 rr2 w2 => ?_)
  cases q2 : view e2 r2 with
  | none => simp only [q2] at w2; exact w2.elim
  | some d2 =>
    cases d2 with
    | str k =>
      simp only [q2] at w2
      have ev2 : v2 = .str k := c2.seen rr2 (fun t ht => List.mem_append_left _ ht) q2
      subst ev2
      cases q : getKR (.inr k) e2 r1 with
      | none => simp only [q] at w2; exact w2.elim
      | some x =>
        simp only [q] at w2
        obtain ⟨a, y, ev, ry, hg⟩ := c2.getK rr1 (fun t ht => List.mem_append_right _ (List.mem_append_left _ ht)) q
        exact ⟨a, y, ev, hg, w2 y F2 H2 as2 _ (s1.trans s2) (c2.drop.drop.fz ry) rfl⟩
    | _ => simp only [q2] at w2; exact w2.elim
end
section
variable {X : Cx} {E : XS} {a b : Expr} {ma mb : M RV} {pos : Pos}
theorem v_mulS (ha : VE X E a ma) (hb : VE X E b mb) : VE X E (.BinOp a .Mult b pos) (dOp fMulS ma mb) := .mk (pe_op op_mulS ha hb) (se_op opd_mulS se_w se_w)
theorem v_getR (hu : X.A.units + 1 < cLine) (ha : VE X E a ma) (hb : VE X E b mb) (hs : NoSl b) : VE X E (.Subscript a b pos) (dGetR ma mb) := .mk (pe_dget hu ha hb hs) (se_getR se_w se_w)
end
def dNotT (a : M RV) : M RV := fun e => match dTru a e with
  | .ok b e1 => .ok (.fz (.bl (!b))) e1
  | .st => .st
  | .ex x e1 => .ex x e1
section
variable {K : PySem.W.Frag} {mg : Str → Option Value} {E : XS}
theorem se_notT {ta : TE} {ma : M RV} (ha : SE K mg E ta ma) : SE K mg E (tNotT K ta) (dNotT ma) := by
  intro pv F H σ e as held Q c w
  refine st_tru ha pv F H σ e as held (fun k H' => Q (.bl (!k)) H') c ?_
  unfold dNotT at w
  cases q : dTru ma e with
  | st => rw [q] at w; exact w.elim
  | ex x e1 => rw [q] at w; exact w
  | ok b e1 =>
    rw [q] at w
    intro F' H' as' s' c'
    exact w _ F' H' as' _ s' (c'.fz (show Rep K mg F' (.bl (!b)) (.bl (!b)) from rfl)) rfl
end
theorem v_notT {X : Cx} {E : XS} {a : Expr} {ma : M RV} {pos : Pos} (ha : VE X E a ma) : VE X E (.UnaryOp .Not a pos) (dNotT ma) := .mk (pe_notT ha) (se_notT se_w)
end VF
set_option maxRecDepth 100000
set_option maxHeartbeats 4000000
namespace VF
set_option autoImplicit false
open PySem L2
open Enc (enc)
section
variable {α β γ δ σ τ ω : Type} {pn : List Nat} {S S' S1 : List SD} {e : Env} {X : Exc → Env → Prop} {P : Res α} {G : α → γ → Env → Prop} {r q : RV} {o oa ob : Opd}
end
end VF
set_option maxRecDepth 100000
set_option maxHeartbeats 4000000
namespace VF
set_option autoImplicit false
open PySem L2
open Enc (enc)
section
variable {α β γ δ σ τ : Type} {pn : List Nat} {S : List SD} {e : Env} {G : α → γ → Env → Prop} {X : Exc → Env → Prop}
end
end VF
set_option maxRecDepth 100000
set_option maxHeartbeats 4000000
namespace VF
set_option autoImplicit false
open PySem L2
open Enc (enc)
def at_ (f : Str) : List Str → Option Nat
  | [] => none
  | n :: ns => if n = f then some 0 else (at_ f ns).map (· + 1)
section
variable {α β γ δ σ τ ω : Type} {pn : List Nat} {S S' S1 : List SD} {e : Env} {X : Exc → Env → Prop} {P : Res α} {G : α → γ → Env → Prop} {r q : RV} {o oa ob : Opd}
end
end VF
set_option maxRecDepth 100000
set_option maxHeartbeats 4000000
namespace VF
set_option autoImplicit false
open PySem L2
open Enc (enc)
section
variable {α β γ δ σ τ ω : Type} {pn : List Nat} {S S' S1 : List SD} {e : Env} {X : Exc → Env → Prop} {P : Res α} {G : α → γ → Env → Prop} {r q : RV} {o oa ob : Opd}
end
end VF
set_option maxRecDepth 100000
set_option maxHeartbeats 4000000
namespace VF
set_option autoImplicit false
open PySem L2
open Enc (enc)
section
variable {α β γ δ σ τ ω : Type} {pn : List Nat} {S S' S1 : List SD} {e : Env} {X : Exc → Env → Prop} {P : Res α} {G : α → γ → Env → Prop} {r q : RV} {o oa ob : Opd}
def XP (ix : List Nat) : Exc → Env → Prop := fun _ e => ∀ i ∈ ix, ∃ s, e.sl[i]? = some (some s)
inductive Ux : List SD → List Bool → List Opd → Prop
  | nil {S : List SD} : Ux S [] []
  | f {S : List SD} {md : List Bool} {o : Opd} {os : List Opd} : Ux S md os → Ux S (false :: md) (o :: os)
  | t {S : List SD} {md : List Bool} {i : Nat} {os : List Opd} : S[i]? = some .clr → Ux (S.set i .any) md os → Ux S (true :: md) (.v i :: os)
theorem Ux.unload {md : List Bool} {os : List Opd} (q : Ux S md os) : ∀ {e : Env} {rs : List RV} {ss : List SV}, Has pn S e → ROks rs os → ss.length = md.length → ∃ e', unload md rs ss e = some e' := by
  induction q with
  | nil => intro e rs ss h k hl
           cases rs with
           | nil => cases ss with
             | nil => exact ⟨e, rfl⟩
             | cons _ _ => cases hl
           | cons _ _ => exact k.elim
  | f q ih => intro e rs ss h k hl
              cases rs with
              | nil => exact k.elim
              | cons r rs => cases ss with
                | nil => cases hl
                | cons s ss =>
                  obtain ⟨e', h1⟩ := ih h k.2 (by simpa using hl)
                  exact ⟨e', by rw [ul_false]; exact h1⟩
  | t q1 q2 ih => intro e rs ss h k hl
                  cases rs with
                  | nil => exact k.elim
                  | cons r rs => cases ss with
                    | nil => cases hl
                    | cons s ss =>
                      obtain ⟨k1, k2⟩ := k
                      cases k1
                      obtain ⟨o, h1, h2⟩ := h.slot q1
                      cases h2
                      obtain ⟨e', h3⟩ := ih (h.setS _ (s := .any) (v := s) trivial) k2 (by simpa using hl)
                      refine ⟨e', ?_⟩
                      rw [ul_true]
                      rw [if_pos (by unfold isClr; rw [h1])]
                      exact h3
end
end VF
set_option maxRecDepth 100000
set_option maxHeartbeats 4000000
namespace VF
set_option autoImplicit false
open PySem L2
open Enc (enc)
structure So {α β : Type} (r : R β) (p : Res α) (G : α → β → Env → Prop) : Prop where
  run : ∀ a, p = .ok a → ∃ b e, r = .ok b e ∧ G a b e
section
variable {α β γ δ σ τ ω ψ : Type} {pn : List Nat} {S S' S1 : List SD} {e : Env} {X : Exc → Env → Prop} {P : Res α} {G : α → γ → Env → Prop} {r q : RV} {o oa ob : Opd}
end
end VF
set_option maxRecDepth 100000
set_option maxHeartbeats 4000000
namespace VF
set_option autoImplicit false
open PySem L2
open Enc (enc)
section
variable {α β γ δ σ τ ω ψ : Type} {pn : List Nat} {S S' S1 : List SD} {e : Env} {X : Exc → Env → Prop} {P : Res α} {G : α → γ → Env → Prop} {r q : RV} {o oa ob : Opd}
end
end VF
set_option maxRecDepth 100000
set_option maxHeartbeats 4000000
namespace VF
set_option autoImplicit false
open PySem L2
open Enc (enc)
section
variable {α β γ δ σ τ ω ψ : Type} {pn : List Nat} {S S' S1 : List SD} {e : Env} {X : Exc → Env → Prop} {P : Res α} {G : α → γ → Env → Prop} {r q : RV} {o oa ob : Opd}
end
end VF
set_option maxRecDepth 100000
set_option maxHeartbeats 4000000
namespace VF
set_option autoImplicit false
open PySem L2
open Enc (enc)
structure W5 (α β γ δ ε : Type) where
  a : α
  b : β
  c : γ
  d : δ
  e : ε
  deriving DecidableEq, Inhabited
section
variable {α β γ δ ε : Type} [Enc α] [Enc β] [Enc γ] [Enc δ] [Enc ε]
def W5.l (x : W5 α β γ δ ε) : List D := [enc x.a, enc x.b, enc x.c, enc x.d, enc x.e]
instance : Enc (W5 α β γ δ ε) := ⟨fun x => .lst x.l⟩
end
section
variable {pn : List Nat} {S S' S1 : List SD} {d : D}
end
@[reducible] def memD {α : Type} [DecidableEq α] (x : α) (xs : List α) : Bool := decide (x ∈ xs)
@[reducible] def notMemD {α : Type} [DecidableEq α] (x : α) (xs : List α) : Bool := decide (x ∉ xs)
end VF
set_option maxRecDepth 100000
set_option maxHeartbeats 4000000
namespace VF
set_option autoImplicit false
open PySem L2
open Enc (enc)
instance {α β γ δ ε : Type} [Enc α] [EqE α] [Enc β] [EqE β] [Enc γ] [EqE γ] [Enc δ] [EqE δ] [Enc ε] [EqE ε] : EqE (T5 α β γ δ ε) where
  dep := max (max (EqE.dep α) (EqE.dep δ)) (max (EqE.dep β) (max (EqE.dep γ) (EqE.dep ε))) + 1
  lay := fun x => by
    obtain ⟨p, h1, h2, h3⟩ := EqE.lay x.a
    obtain ⟨q, k1, k2, k3⟩ := EqE.lay x.b
    obtain ⟨r, l1, l2, l3⟩ := EqE.lay x.c
    obtain ⟨s, m1, m2, m3⟩ := EqE.lay x.d
    obtain ⟨u, n1, n2, n3⟩ := EqE.lay x.e
    refine ⟨.tuple [p, q, r, s, u], toP_tup2 (by simp [toPs, h1, k1, l1, m1, n1]), by simp [PyData.plain, PyData.plainAll, h2, k2, l2, m2, n2], ?_⟩
    simp only [PyData.depth, PyData.depthAll]; omega
  eqv := fun x y p q h1 h2 => by
    obtain ⟨p1, a1, _⟩ := EqE.lay x.a
    obtain ⟨p2, a2, _⟩ := EqE.lay x.b
    obtain ⟨p3, a3, _⟩ := EqE.lay x.c
    obtain ⟨p4, a4, _⟩ := EqE.lay x.d
    obtain ⟨p5, a5, _⟩ := EqE.lay x.e
    obtain ⟨q1, b1, _⟩ := EqE.lay y.a
    obtain ⟨q2, b2, _⟩ := EqE.lay y.b
    obtain ⟨q3, b3, _⟩ := EqE.lay y.c
    obtain ⟨q4, b4, _⟩ := EqE.lay y.d
    obtain ⟨q5, b5, _⟩ := EqE.lay y.e
    have e1 : toP (enc x) = some (.tuple [p1, p2, p3, p4, p5]) := toP_tup2 (by simp [toPs, a1, a2, a3, a4, a5])
    have e2 : toP (enc y) = some (.tuple [q1, q2, q3, q4, q5]) := toP_tup2 (by simp [toPs, b1, b2, b3, b4, b5])
    rw [e1] at h1; rw [e2] at h2; cases h1; cases h2
    simp only [PyData.eqv, PyData.eqvAll, Bool.and_true, Bool.and_eq_true, EqE.eqv _ _ _ _ a1 b1, EqE.eqv _ _ _ _ a2 b2, EqE.eqv _ _ _ _ a3 b3, EqE.eqv _ _ _ _ a4 b4, EqE.eqv _ _ _ _ a5 b5]
    cases x; cases y; simp
instance {α β γ δ ε : Type} [Enc α] [Enc β] [Enc γ] [Enc δ] [Enc ε] : NoN (T5 α β γ δ ε) := ⟨fun a h => by
  have h' : (toPs [enc a.a, enc a.b, enc a.c, enc a.d, enc a.e]).map PyData.tuple = some .none := h
  cases z : toPs [enc a.a, enc a.b, enc a.c, enc a.d, enc a.e] <;> rw [z] at h' <;> cases h'⟩
section
variable {α β γ δ σ τ ω ψ : Type} {pn : List Nat} {S S' S1 : List SD} {e : Env} {X : Exc → Env → Prop} {P : Res α} {G : α → γ → Env → Prop} {r q : RV} {o oa ob : Opd}
def dispK (ks : List Key) (md : List Bool) (K : RV → M γ) : List RV → M γ := fun rs e => match load md rs e with
  | some (ss, e1) => if ks.length = ss.length ∧ ks.length ≤ 15 ∧ ks.Nodup then K (.own (.od ks ss)) e1 else .st
  | none => .st
theorem c_disp {ks : List Key} {md : List Bool} {a : M (List RV)} {K : RV → M γ} (h : Sm ((a e).bind (dispK ks md K)) P G X) : Sm ((dDisp ks md a e).bind K) P G X := by
  have : (dDisp ks md a e).bind K = (a e).bind (dispK ks md K) := by
    unfold dDisp
    rw [mbind, rbind_assoc]
    congr 1; funext rs e
    unfold dispK
    cases load md rs e with
    | none => rfl
    | some p =>
      obtain ⟨ss, e1⟩ := p
      simp only
      split <;> rfl
  rw [this]; exact h
theorem f_disp {ks : List Key} {md : List Bool} {rs : List RV} {os : List Opd} {ss : List SV} {K : RV → M γ} (h : Has pn S e) (kr : ROks rs os) (ld : Ld S md os ss S1) (hc : ks.length = ss.length ∧ ks.length ≤ 15 ∧ ks.Nodup) (kk : ∀ r e', ROk r (.o (.od ks ss)) → Has pn S1 e' → Sm (K r e') P G X) : Sm (dispK ks md K rs e) P G X := by
  obtain ⟨e1, h1, h2⟩ := ld.load h kr
  unfold dispK
  rw [h1]
  simp only
  rw [if_pos hc]
  exact kk _ _ rfl h2
end
end VF
set_option maxRecDepth 100000
set_option maxHeartbeats 4000000
namespace VF
set_option autoImplicit false
open PySem L2
open Enc (enc)
section
variable {α β γ δ σ τ ω ψ : Type} {pn : List Nat} {S S' S1 : List SD} {e : Env} {X : Exc → Env → Prop} {P : Res α} {G : α → γ → Env → Prop} {r q : RV} {o oa ob : Opd}
end
end VF
set_option maxRecDepth 100000
set_option maxHeartbeats 4000000
namespace VF
set_option autoImplicit false
open PySem L2
open Enc (enc)
open PySem.W (alike AllAlike Sortable dataLe dataLt EachIs keyToks alikeAll)
class SrtE (α : Type) [Enc α] where
  al : ∀ (a b : α) p q, toP (enc a) = some p → toP (enc b) = some q → alike p q = true
  kd : Bool
  isT : ∀ (a : α) p, toP (enc a) = some p → cond kd (isTup1 p) (noTup p) = true
instance : SrtE Int where
  al := fun a b p q h1 h2 => by cases h1; cases h2; rfl
  kd := false
  isT := fun a p h => by cases h; rfl
instance : SrtE Str where
  al := fun a b p q h1 h2 => by cases h1; cases h2; rfl
  kd := false
  isT := fun a p h => by cases h; rfl
section
variable {α β γ : Type} [Enc α] [SrtE α] [Enc β] [SrtE β] [Enc γ] [SrtE γ]
theorem al_list : ∀ (xs ys : List α) ps qs, toPs (xs.map enc) = some ps → toPs (ys.map enc) = some qs → alikeAll ps qs = true
  | [], _, ps, qs, h1, h2 => by cases h1; simp [alikeAll]
  | _ :: _, [], ps, qs, h1, h2 => by cases h2; cases ps <;> simp [alikeAll]
  | x :: xs, y :: ys, ps, qs, h1, h2 => by
    have h1' : (match toP (enc x), toPs (xs.map enc) with | some p, some ps => some (p :: ps) | _, _ => none) = some ps := h1
    have h2' : (match toP (enc y), toPs (ys.map enc) with | some p, some ps => some (p :: ps) | _, _ => none) = some qs := h2
    cases z1 : toP (enc x) with
    | none => rw [z1] at h1'; cases h1'
    | some p => cases z2 : toPs (xs.map enc) with
      | none => rw [z1, z2] at h1'; cases h1'
      | some ps' =>
        rw [z1, z2] at h1'; cases h1'
        cases z3 : toP (enc y) with
        | none => rw [z3] at h2'; cases h2'
        | some q => cases z4 : toPs (ys.map enc) with
          | none => rw [z3, z4] at h2'; cases h2'
          | some qs' =>
            rw [z3, z4] at h2'; cases h2'
            rw [alikeAll, SrtE.al x y p q z1 z3, al_list xs ys ps' qs' z2 z4]; rfl
instance : SrtE (List α) where
  al := fun a b p q h1 h2 => by
    have h1' : (toPs (a.map enc)).map PyData.list = some p := h1
    have h2' : (toPs (b.map enc)).map PyData.list = some q := h2
    cases z1 : toPs (a.map enc) with
    | none => rw [z1] at h1'; cases h1'
    | some ps => cases z2 : toPs (b.map enc) with
      | none => rw [z2] at h2'; cases h2'
      | some qs =>
        rw [z1] at h1'; rw [z2] at h2'; cases h1'; cases h2'
        rw [alike]; exact al_list a b ps qs z1 z2
  kd := false
  isT := fun a p h => by
    have h' : (toPs (a.map enc)).map PyData.list = some p := h
    cases z : toPs (a.map enc) with
    | none => rw [z] at h'; cases h'
    | some ps => rw [z] at h'; cases h'; rfl
theorem toPs_two {a b : D} {ps : List PyData} (h : toPs [a, b] = some ps) : ∃ p q, toP a = some p ∧ toP b = some q ∧ ps = [p, q] := by
  cases z1 : toP a with
  | none => simp [toPs, z1] at h
  | some p => cases z2 : toP b with
    | none => simp [toPs, z1, z2] at h
    | some q => simp [toPs, z1, z2] at h; exact ⟨p, q, rfl, rfl, h.symm⟩
theorem toPs_three {a b c : D} {ps : List PyData} (h : toPs [a, b, c] = some ps) : ∃ p q r, toP a = some p ∧ toP b = some q ∧ toP c = some r ∧ ps = [p, q, r] := by
  cases z1 : toP a with
  | none => simp [toPs, z1] at h
  | some p => cases z2 : toP b with
    | none => simp [toPs, z1, z2] at h
    | some q => cases z3 : toP c with
      | none => simp [toPs, z1, z2, z3] at h
      | some r => simp [toPs, z1, z2, z3] at h; exact ⟨p, q, r, rfl, rfl, rfl, h.symm⟩
theorem toP_tupO {ds : List D} {p : PyData} (h : toP (.tup ds) = some p) : ∃ ps, toPs ds = some ps ∧ p = .tuple ps := by
  have h' : (toPs ds).map PyData.tuple = some p := h
  cases z : toPs ds with
  | none => rw [z] at h'; cases h'
  | some ps => rw [z] at h'; cases h'; exact ⟨ps, rfl, rfl⟩
instance : SrtE (α × β) where
  al := fun a b p q h1 h2 => by
    obtain ⟨ps, e1, rfl⟩ := toP_tupO h1
    obtain ⟨qs, e2, rfl⟩ := toP_tupO h2
    obtain ⟨p1, p2, a1, a2, rfl⟩ := toPs_two e1
    obtain ⟨q1, q2, b1, b2, rfl⟩ := toPs_two e2
    simp only [alike, alikeAll, SrtE.al _ _ _ _ a1 b1, SrtE.al _ _ _ _ a2 b2, Bool.and_self]
  kd := true
  isT := fun a p h => by
    obtain ⟨ps, e1, rfl⟩ := toP_tupO h
    obtain ⟨p1, p2, a1, a2, rfl⟩ := toPs_two e1
    rfl
instance : SrtE (T3 α β γ) where
  al := fun a b p q h1 h2 => by
    obtain ⟨ps, e1, rfl⟩ := toP_tupO h1
    obtain ⟨qs, e2, rfl⟩ := toP_tupO h2
    obtain ⟨p1, p2, p3, a1, a2, a3, rfl⟩ := toPs_three e1
    obtain ⟨q1, q2, q3, b1, b2, b3, rfl⟩ := toPs_three e2
    simp only [alike, alikeAll, SrtE.al _ _ _ _ a1 b1, SrtE.al _ _ _ _ a2 b2, SrtE.al _ _ _ _ a3 b3, Bool.and_self]
  kd := true
  isT := fun a p h => by
    obtain ⟨ps, e1, rfl⟩ := toP_tupO h
    obtain ⟨p1, p2, p3, a1, a2, a3, rfl⟩ := toPs_three e1
    rfl
end
section
variable {α : Type} [Enc α]
end
section
variable {pn : List Nat} {S : List SD} {a : M RV} {oa : Opd}
end
section
variable {α : Type} [Enc α] [EqE α] [SrtE α]
omit [SrtE α] in
omit [SrtE α] in
omit [SrtE α] [EqE α] in
omit [SrtE α] in
end
end VF
set_option maxRecDepth 100000
set_option maxHeartbeats 4000000
namespace VF
set_option autoImplicit false
open PySem L2
open Enc (enc)
section
variable {α β γ δ σ τ ω ψ : Type} {pn : List Nat} {S S' S1 S2 : List SD} {e : Env} {X : Exc → Env → Prop} {P : Res α} {G : α → γ → Env → Prop} {r q : RV} {o oa ob oc : Opd} {d : D}
end
end VF
set_option maxRecDepth 100000
set_option maxHeartbeats 4000000
namespace VF
set_option autoImplicit false
open PySem PySem.Spec PyProof.Rows L2
open Enc (enc)
def addSR (a b : Str) : Res Str := if a.length + b.length ≤ sizeLine then .ok (a ++ b) else .st
def strR (i : Int) : Res Str := if i.natAbs.log2 < 1920 then .ok (toString i : String) else .st
def intSR (a : Str) : Res Int := if a.length ≤ 640 then (match PySem.intText? a with
  | some n => .ok n
  | none => .st) else .st
def mulSR (a : Str) (n : Int) : Res Str := if MulOk a n then .ok (Txt.mul a n) else .st
def lenSR (z : Str) : Res Int := if z.length ≤ sizeLine then .ok (z.length : Nat) else .st
def sign1 (c : Nat) : Str := ⟨#[c]⟩
def getiS (z : Str) (i : Int) : Res Str := if z.length ≤ sizeLine then (match atI z.cps.toList i with
  | some c => .ok (sign1 c)
  | none => .st) else .st
def signsT (z : Str) : List Str := z.cps.toList.map sign1
def inS (y z : Str) : Bool := !(Builtin.Str.occurrences z y 0 z.length 1).isEmpty
def splitR (x y : Str) : Res (List Str) := if (y.length == 0) = false ∧ x.length + 2 ≤ sizeLine then .ok (Txt.split x y) else .st
def joinR (x : Str) (ys : List Str) : Res Str := if (ys.map (·.length)).sum + ys.length * x.length ≤ 16777216 then .ok (Txt.join x ys) else .st
def pickO : List (Str × Int) → Str → Option Int
  | [], _ => none
  | (k, v) :: r, w => if k = w then some v else pickO r w
def pickS (l : List (Str × Int)) (w : Str) : Res Int := match pickO l w with
  | some v => .ok v
  | none => .st
theorem encs_signs (z : Str) : signs z = (signsT z).map enc := by
  show z.cps.toList.map _ = (z.cps.toList.map sign1).map enc
  rw [List.map_map]; rfl
theorem strsOf_enc (ys : List Str) : strsOf (ys.map enc) = some ys := by
  induction ys with
  | nil => rfl
  | cons y ys ih =>
    show (strsOf (ys.map enc)).map (y :: ·) = _
    rw [ih]; rfl
section
variable {α γ : Type} {P : Res α} {pn : List Nat} {S S1 S' : List SD} {e : Env} {K : RV → M γ} {X : Exc → Env → Prop} {G : α → γ → Env → Prop} {r q : RV} {oa ob : Opd} {x y : Str}
theorem f_addS {k : Str → Res α} (h : Has pn S e) (k1 : ROk r oa) (k2 : ROk q ob) (kk : ∀ t : Str, Sm (K (.fz (enc t)) e) (k t) G X) (da : Dt S oa (enc x) := by first | exact .f | exact .vz rfl | exact .u rfl) (db : Dt S ob (enc y) := by first | exact .f | exact .vz rfl | exact .u rfl) : Sm (opK2 fAddS r K q e) ((addSR x y).bind k) G X := by
  unfold addSR
  by_cases c : x.length + y.length ≤ sizeLine
  · rw [if_pos c]; exact f_op h k1 k2 da db (if_pos c) (kk _)
  · rw [if_neg c]; first | trivial | exact ⟨trivial⟩
theorem f_mulS {n : Int} {k : Str → Res α} (h : Has pn S e) (k1 : ROk r oa) (k2 : ROk q ob) (kk : ∀ t : Str, Sm (K (.fz (enc t)) e) (k t) G X) (da : Dt S oa (enc x) := by first | exact .f | exact .vz rfl | exact .u rfl) (db : Dt S ob (.int n) := by first | exact .f | exact .vz rfl | exact .u rfl) : Sm (opK2 fMulS r K q e) ((mulSR x n).bind k) G X := by
  unfold mulSR
  by_cases c : MulOk x n
  · rw [if_pos c]; exact f_op h k1 k2 da db (if_pos c) (kk _)
  · rw [if_neg c]; first | trivial | exact ⟨trivial⟩
theorem f_strI {i : Int} {k : Str → Res α} (h : Has pn S e) (k1 : ROk r oa) (kk : ∀ t : Str, Sm (K (.fz (enc t)) e) (k t) G X) (da : Dt S oa (.int i) := by first | exact .f | exact .vz rfl | exact .u rfl) : Sm (cbK strD K [r] e) ((strR i).bind k) G X := by
  unfold strR
  by_cases c : i.natAbs.log2 < 1920
  · rw [if_pos c]; exact f_cb h (os := [oa]) ⟨k1, trivial⟩ (.cons da .nil) (if_pos c) (kk _)
  · rw [if_neg c]; first | trivial | exact ⟨trivial⟩
theorem f_intS {k : Int → Res α} (h : Has pn S e) (k1 : ROk r oa) (kk : ∀ t : Int, Sm (K (.fz (enc t)) e) (k t) G X) (da : Dt S oa (enc x) := by first | exact .f | exact .vz rfl | exact .u rfl) : Sm (cbK intSD K [r] e) ((intSR x).bind k) G X := by
  unfold intSR
  by_cases c : x.length ≤ 640
  · rw [if_pos c]
    cases z : PySem.intText? x with
    | none => first | trivial | exact ⟨trivial⟩
    | some n => exact f_cb h (os := [oa]) ⟨k1, trivial⟩ (.cons da .nil) (d := .int n) (by show (if _ then _ else _) = _; rw [if_pos c, z]; rfl) (kk n)
  · rw [if_neg c]; first | trivial | exact ⟨trivial⟩
theorem f_lenS {k : Int → Res α} (h : Has pn S e) (k1 : ROk r oa) (kk : ∀ t : Int, Sm (K (.fz (enc t)) e) (k t) G X) (da : Dt S oa (enc x) := by first | exact .f | exact .vz rfl | exact .u rfl) : Sm (cbK lenD K [r] e) ((lenSR x).bind k) G X := by
  unfold lenSR
  by_cases c : x.length ≤ sizeLine
  · rw [if_pos c]; exact f_cb h (os := [oa]) ⟨k1, trivial⟩ (.cons da .nil) (if_pos c) (kk _)
  · rw [if_neg c]; first | trivial | exact ⟨trivial⟩
theorem p_notInS {a b : M RV} (ha : PJ pn S a oa) (hb : PJ pn S b ob) (da : Dt S oa (enc x) := by first | exact .f | exact .vz rfl | exact .u rfl) (db : Dt S ob (enc y) := by first | exact .f | exact .vz rfl | exact .u rfl) : PJ pn S (dOp fNotIn a b) (.f (.bl (!inS x y))) := p_op ha hb da db rfl
theorem inD_tup (x : Str) (xs : List Str) : inD (.str x) (.tup (xs.map .str)) = some (decide (x ∈ xs)) := by
  have h1 : (xs.map D.str).all flatD = true := List.all_eq_true.mpr fun d hd => by
    obtain ⟨y, _, rfl⟩ := List.mem_map.mp hd
    rfl
  show (if (flatD (.str x) && (xs.map D.str).all flatD) = true then some ((xs.map D.str).any fun y => eqF y (.str x)) else none) = _
  rw [if_pos (by rw [h1]; rfl)]
  congr 1
  rw [Bool.eq_iff_iff, List.any_eq_true, decide_eq_true_iff]
  constructor
  · rintro ⟨d, hd, e⟩
    obtain ⟨y, hy, rfl⟩ := List.mem_map.mp hd
    have : y = x := of_decide_eq_true (show decide (y = x) = true from e)
    rw [← this]; exact hy
  · intro hx
    exact ⟨.str x, List.mem_map.mpr ⟨x, hx, rfl⟩, show decide (x = x) = true by simp⟩
theorem f_notInT {xs : Tup Str} (h : Has pn S e) (k1 : ROk r oa) (k2 : ROk q ob) (kk : Sm (K (.fz (.bl (decide (x ∉ xs.l)))) e) P G X) (da : Dt S oa (enc x) := by first | exact .f | exact .vz rfl | exact .u rfl) (db : Dt S ob (enc xs) := by first | exact .f | exact .vz rfl | exact .u rfl) : Sm (opK2 fNotIn r K q e) P G X :=
  f_op h k1 k2 da db (by show (inD (.str x) (.tup (xs.l.map .str))).map (fun k => D.bl (!k)) = _; rw [inD_tup, decide_not]; rfl) kk
def split1 (b : M RV) (K : RV → M γ) : RV → M γ := fun r e => match view e r with
  | some (.str x) => (b e).bind fun q e2 => (match view e2 q with
    | some (.str y) => if (y.length == 0) = false ∧ x.length + 2 ≤ sizeLine then K (.own (.ol ((strsD (Txt.split x y)).map .fz))) e2 else .st
    | _ => .st)
  | _ => .st
def split2 (x : Str) (K : RV → M γ) : RV → M γ := fun q e2 => match view e2 q with
  | some (.str y) => if (y.length == 0) = false ∧ x.length + 2 ≤ sizeLine then K (.own (.ol ((strsD (Txt.split x y)).map .fz))) e2 else .st
  | _ => .st
theorem c_split {a b : M RV} (k : Sm ((a e).bind (split1 b K)) P G X) : Sm ((dSplit a b e).bind K) P G X := by
  have : (dSplit a b e).bind K = (a e).bind (split1 b K) := by
    unfold dSplit
    rw [mbind, rbind_assoc]
    congr 1; funext r e
    unfold split1
    cases view e r with
    | none => rfl
    | some d =>
      cases d <;> first | rfl | skip
      simp only
      rw [rbind_assoc]
      congr 1; funext q e2
      cases view e2 q with
      | none => rfl
      | some d2 => cases d2 <;> first | rfl | (simp only; split <;> rfl)
  rw [this]; exact k
theorem f_split1 {b : M RV} (h : Has pn S e) (k1 : ROk r oa) (k : Sm ((b e).bind (split2 x K)) P G X) (da : Dt S oa (enc x) := by first | exact .f | exact .vz rfl | exact .u rfl) : Sm (split1 b K r e) P G X := by
  unfold split1
  rw [da.view h k1]
  exact k
theorem f_split2 {k : List Str → Res α} (h : Has pn S e) (k1 : ROk q ob) (kk : ∀ ys r, ROk r (.w (encs ys)) → Sm (K r e) (k ys) G X) (da : Dt S ob (enc y) := by first | exact .f | exact .vz rfl | exact .u rfl) : Sm (split2 x K q e) ((splitR x y).bind k) G X := by
  unfold split2
  rw [da.view h k1]
  show Sm (if _ then _ else _) _ G X
  unfold splitR
  by_cases c : (y.length == 0) = false ∧ x.length + 2 ≤ sizeLine
  · rw [if_pos c, if_pos c]; exact kk _ _ rfl
  · rw [if_neg c, if_neg c]; first | trivial | exact ⟨trivial⟩
def join1 (b : M RV) (K : RV → M γ) : RV → M γ := fun r e => match view e r with
  | some (.str x) => (b e).bind fun q e2 => (match view e2 q with
    | some (.lst ds) => (match strsOf ds with
      | some ys => if (ys.map (·.length)).sum + ys.length * x.length ≤ 16777216 then K (.fz (.str (Txt.join x ys))) e2 else .st
      | none => .st)
    | _ => .st)
  | _ => .st
def join2 (x : Str) (K : RV → M γ) : RV → M γ := fun q e2 => match view e2 q with
  | some (.lst ds) => (match strsOf ds with
    | some ys => if (ys.map (·.length)).sum + ys.length * x.length ≤ 16777216 then K (.fz (.str (Txt.join x ys))) e2 else .st
    | none => .st)
  | _ => .st
theorem c_join {a b : M RV} (k : Sm ((a e).bind (join1 b K)) P G X) : Sm ((dJoin a b e).bind K) P G X := by
  have : (dJoin a b e).bind K = (a e).bind (join1 b K) := by
    unfold dJoin
    rw [mbind, rbind_assoc]
    congr 1; funext r e
    unfold join1
    cases view e r with
    | none => rfl
    | some d =>
      cases d <;> first | rfl | skip
      simp only
      rw [rbind_assoc]
      congr 1; funext q e2
      cases view e2 q with
      | none => rfl
      | some d2 =>
        cases d2 <;> first | rfl | skip
        simp only
        cases strsOf _ with
        | none => rfl
        | some ys => simp only; split <;> rfl
  rw [this]; exact k
theorem f_join1 {b : M RV} (h : Has pn S e) (k1 : ROk r oa) (k : Sm ((b e).bind (join2 x K)) P G X) (da : Dt S oa (enc x) := by first | exact .f | exact .vz rfl | exact .u rfl) : Sm (join1 b K r e) P G X := by
  unfold join1
  rw [da.view h k1]
  exact k
theorem f_join2 {ys : List Str} {k : Str → Res α} (h : Has pn S e) (k1 : ROk q ob) (kk : ∀ t : Str, Sm (K (.fz (enc t)) e) (k t) G X) (da : Dt S ob (enc ys) := by first | exact .f | exact .v rfl | exact .vz rfl | exact .w | exact .y | exact .u rfl) : Sm (join2 x K q e) ((joinR x ys).bind k) G X := by
  unfold join2
  rw [da.view h k1]
  show Sm (match strsOf (ys.map enc) with
    | some ys => if (ys.map (·.length)).sum + ys.length * x.length ≤ 16777216 then K (.fz (.str (Txt.join x ys))) e else .st
    | none => .st) _ G X
  rw [strsOf_enc]
  simp only
  unfold joinR
  by_cases c : (ys.map (·.length)).sum + ys.length * x.length ≤ 16777216
  · rw [if_pos c, if_pos c]; exact kk _
  · rw [if_neg c, if_neg c]; first | trivial | exact ⟨trivial⟩
theorem item_str {z : Str} {i : Int} {o : Opd} (h : Has pn S e) (k : ROk r o) (q : Dt S o (.str z)) : itemR e r i = itemD (.str z) i := by
  cases q with
  | f => cases k; rfl
  | y => rcases k with rfl | ⟨ds', e1, rfl⟩
         · rfl
         · cases e1
  | vz q =>
    cases k
    obtain ⟨o, h1, h2⟩ := h.slot q
    cases h2
    show (match e.sl[_]? with | some (some s) => itemS s i | _ => none) = _
    rw [h1]; rfl
  | u q =>
    rcases k with rfl | rfl
    · rfl
    · obtain ⟨o, h1, h2⟩ := h.slot q
      rcases h2 with rfl | ⟨ds, e1, _⟩
      · show (match e.sl[_]? with | some (some s) => itemS s i | _ => none) = _
        rw [h1]; rfl
      · cases e1
  | o q => simp [SV.toD] at q
  | x _ q => simp [SV.toD] at q
theorem f_ixS {i : Int} {k : Str → Res α} (h : Has pn S e) (k1 : ROk r oa) (k2 : ROk q ob) (kk : ∀ t : Str, Sm (K (.fz (enc t)) e) (k t) G X) (da : Dt S oa (enc x) := by first | exact .f | exact .vz rfl | exact .u rfl) (db : Dt S ob (.int i) := by first | exact .f | exact .u rfl) : Sm (ixK2 r K q e) ((getiS x i).bind k) G X := by
  unfold ixK2
  rw [db.view h k2]
  simp only
  rw [item_str h k1 da]
  show Sm (match (if x.length ≤ sizeLine then (atI x.cps.toList i).map (fun c => D.str ⟨#[c]⟩) else none) with
    | some d => K (.fz d) e
    | none => .st) _ G X
  unfold getiS
  by_cases c : x.length ≤ sizeLine
  · rw [if_pos c, if_pos c]
    cases atI x.cps.toList i with
    | none => first | trivial | exact ⟨trivial⟩
    | some v => exact kk _
  · rw [if_neg c, if_neg c]; first | trivial | exact ⟨trivial⟩
theorem f_itS {o : Opd} {K : List D → M γ} (h : Has pn S e) (kr : ROk r o) (da : Fz S o (enc x) S') (k : ∀ e', Has pn S' e' → Sm (K ((signsT x).map enc) e') P G X) : Sm (itK K r e) P G X := by
  obtain ⟨e', h1, h2⟩ := da.frz h kr
  unfold itK; rw [h1]
  show Sm (K (signs x) e') P G X
  rw [encs_signs]
  exact k _ h2
def cutSR (z : Str) (lo hi : Option Int) : Res Str := if z.length ≤ sizeLine then .ok (cutS z lo hi) else .st
def slSK (l h : M (Option Int)) (K : RV → M γ) : RV → M γ := fun r e => match view e r with
  | some (.str z) => if z.length ≤ sizeLine then (l e).bind fun lo e2 => (h e2).bind fun hi e3 => K (.fz (.str (cutS z lo hi))) e3 else .st
  | _ => .st
theorem c_slS {a : M RV} {l h : M (Option Int)} (k : Sm ((a e).bind (slSK l h K)) P G X) : Sm ((dSlS a l h e).bind K) P G X := by
  have : (dSlS a l h e).bind K = (a e).bind (slSK l h K) := by
    unfold dSlS
    rw [mbind, rbind_assoc]
    congr 1; funext r e
    unfold slSK
    cases view e r with
    | none => rfl
    | some d =>
      cases d <;> first | rfl | skip
      simp only
      split
      · simp only [rbind_assoc]; rfl
      · rfl
  rw [this]; exact k
theorem f_slS {ml mh : M (Option Int)} {lo hi : Option Int} {k : Str → Res α} (h : Has pn S e) (kr : ROk r oa) (hl : PP pn S ml lo) (hh : PP pn S mh hi) (kk : ∀ t : Str, Sm (K (.fz (enc t)) e) (k t) G X) (da : Dt S oa (enc x) := by first | exact .f | exact .vz rfl | exact .u rfl) : Sm (slSK ml mh K r e) ((cutSR x lo hi).bind k) G X := by
  unfold slSK
  rw [da.view h kr]
  show Sm (if x.length ≤ sizeLine then (ml e).bind fun lo e2 => (mh e2).bind fun hi e3 => K (.fz (.str (cutS x lo hi))) e3 else .st) _ G X
  unfold cutSR
  by_cases c : x.length ≤ sizeLine
  · rw [if_pos c, if_pos c, hl e h, bind_ok, hh e h, bind_ok]
    exact kk _
  · rw [if_neg c, if_neg c]; first | trivial | exact ⟨trivial⟩
def getR2 (r : RV) (K : RV → M γ) : RV → M γ := fun q e => match view e q with
  | some (.str k) => (match getKR (.inr k) e r with
    | some d => K (.fz d) e
    | none => .st)
  | _ => .st
def getR1 (b : M RV) (K : RV → M γ) : RV → M γ := fun r e => (b e).bind (getR2 r K)
theorem c_getR {a b : M RV} (k : Sm ((a e).bind (getR1 b K)) P G X) : Sm ((dGetR a b e).bind K) P G X := by
  have : (dGetR a b e).bind K = (a e).bind (getR1 b K) := by
    unfold dGetR
    rw [mbind, rbind_assoc]
    congr 1; funext r e
    unfold getR1
    rw [mbind, rbind_assoc]
    congr 1; funext q e
    unfold getR2
    cases view e q with
    | none => rfl
    | some x => cases x <;> first | rfl | (simp only; cases getKR (.inr _) e r <;> rfl)
  rw [this]; exact k
theorem c_getR2 {b : M RV} (k : Sm ((b e).bind (getR2 r K)) P G X) : Sm (getR1 b K r e) P G X := k
theorem getK_pick : ∀ (ks : List Str) (vs : List Int) (w : Str), ks.length = vs.length → getKS (.inr w) (.od (ks.map .inr) (fzs (vs.map enc))) = (pickO (ks.zip vs) w).map enc
  | [], [], w, _ => rfl
  | k :: ks, v :: vs, w, h => by
    have ih := getK_pick ks vs w (by simpa using h)
    unfold getKS at ih ⊢
    simp only [List.map_cons, List.zip_cons_cons, pickO] at ih ⊢
    have e0 : kIx (.inr w) (.inr k :: ks.map .inr) = if k = w then some 0 else (kIx (.inr w) (ks.map .inr)).map (· + 1) := by
      unfold kIx
      rw [List.findIdx?_cons]
      by_cases c : k = w
      · rw [if_pos (by rw [c]; simp), if_pos c]
      · rw [if_neg (by simpa using c), if_neg c]
    rw [e0]
    by_cases c : k = w
    · rw [if_pos c, if_pos c]; rfl
    · rw [if_neg c, if_neg c]
      cases z : kIx (.inr w) (ks.map .inr) with
      | none => rw [z] at ih; exact ih
      | some j => rw [z] at ih; exact ih
  | [], _ :: _, _, h => by cases h
  | _ :: _, [], _, h => by cases h
theorem f_getR {ks : List Str} {vs : List Int} {w : Str} {k : Int → Res α} (h : Has pn S e) (k1 : ROk r (.o (.od (ks.map .inr) (fzs (vs.map enc))))) (hl : ks.length = vs.length) (k2 : ROk q ob) (kk : ∀ i : Int, Sm (K (.fz (enc i)) e) (k i) G X) (db : Dt S ob (enc w) := by first | exact .f | exact .vz rfl | exact .u rfl) : Sm (getR2 r K q e) ((pickS (ks.zip vs) w).bind k) G X := by
  unfold getR2
  rw [db.view h k2]
  cases k1
  show Sm (match getKS (.inr w) (.od (ks.map .inr) (fzs (vs.map enc))) with
    | some d => K (.fz d) e
    | none => .st) _ G X
  rw [getK_pick ks vs w hl]
  unfold pickS
  cases pickO (ks.zip vs) w with
  | some i => exact kk i
  | none => first | trivial | exact ⟨trivial⟩
end
def unOs {ω : Type} (xs : List (Option ω)) : Res (List ω) := match xs.mapM id with
  | some ys => .ok ys
  | none => .st
theorem mapM_id_some {ω : Type} : ∀ {xs : List (Option ω)} {ys : List ω}, xs.mapM id = some ys → xs = ys.map some
  | [], ys, h => by cases h; rfl
  | x :: xs, ys, h => by
    rw [List.mapM_cons] at h
    cases x with
    | none => cases h
    | some y =>
      cases z : xs.mapM id with
      | none => rw [z] at h; cases h
      | some zs =>
        rw [z] at h
        cases h
        rw [mapM_id_some z]; rfl
theorem f_unOs {ω α γ : Type} {G : α → γ → Env → Prop} {X : Exc → Env → Prop} {xs : List (Option ω)} {m : R γ} {k : List ω → Res α} (kk : ∀ ys, xs = ys.map some → Sm m (k ys) G X) : Sm m ((unOs xs).bind k) G X := by
  unfold unOs
  cases z : xs.mapM id with
  | none => exact ⟨trivial⟩
  | some ys => exact kk ys (mapM_id_some z)
theorem encs_some {ω : Type} [Enc ω] (ys : List ω) : encs (ys.map some) = encs ys := by
  show (ys.map some).map enc = ys.map enc
  rw [List.map_map]; rfl
theorem p_notL {α : Type} [Enc α] {pn : List Nat} {S : List SD} {a : M RV} {oa : Opd} {xs : List α} (ha : PJ pn S a oa) (da : Dt S oa (enc xs) := by first | exact .f | exact .v rfl | exact .vz rfl | exact .w | exact .y | exact .u rfl) : PJ pn S (dNotT a) (.f (.bl xs.isEmpty)) := fun e h => by
  have h1 := b_truL (xs := xs) ha da e h
  refine ⟨_, ?_, rfl⟩
  unfold dNotT
  rw [h1]
  simp
end VF
set_option maxRecDepth 100000
set_option maxHeartbeats 4000000
namespace V
set_option autoImplicit false
open PySem L2 VF
open Enc (enc)
open TL (tl spl joinL)
theorem pre1 (s c : Nat) (r : List Nat) : TL.pre [s] (c :: r) = true ↔ c = s := by
  unfold TL.pre
  simp
theorem spl_ne (s : Nat) : ∀ (L acc : List Nat), spl [s] 0 acc L ≠ []
  | [], acc => by rw [TL.spl_nil]; simp
  | c :: r, acc => by
    by_cases h : TL.pre [s] (c :: r) = true
    · rw [TL.spl_hit h]; simp
    · rw [TL.spl_miss (by simpa using h)]; exact spl_ne s r _
theorem joinL_cons {S p : List Nat} {l : List (List Nat)} (h : l ≠ []) : joinL S (p :: l) = p ++ (S ++ joinL S l) := by
  cases l with
  | nil => exact absurd rfl h
  | cons q r => rfl
theorem join_spl (s : Nat) : ∀ (L acc : List Nat), joinL [s] (spl [s] 0 acc L) = acc ++ L
  | [], acc => by rw [TL.spl_nil]; simp [joinL]
  | c :: r, acc => by
    by_cases h : TL.pre [s] (c :: r) = true
    · rw [TL.spl_hit h]
      show joinL [s] (acc :: spl [s] 0 [] r) = _
      rw [joinL_cons (spl_ne s r []), join_spl s r [], (pre1 s c r).mp h]; simp
    · rw [TL.spl_miss (by simpa using h), join_spl s r]; simp
theorem joinL_len (s : Nat) : ∀ l : List (List Nat), l ≠ [] → (joinL [s] l).length + 1 = (l.map (·.length)).sum + l.length
  | [], h => absurd rfl h
  | [p], _ => by simp [joinL]
  | p :: q :: r, _ => by
    rw [joinL_cons (by simp), List.length_append, List.length_append]
    have := joinL_len s (q :: r) (by simp)
    simp only [List.map_cons, List.sum_cons, List.length_cons, List.length_nil] at this ⊢
    omega
theorem len_tl (x : Str) : x.length = (tl x).length := TL.len_tl x
structure Sep (y : Str) (s : Nat) : Prop where
  e : tl y = [s]
  k : y.cps.all (· < 256) = true
theorem Sep.len {y : Str} {s : Nat} (h : Sep y s) : y.length = 1 := by rw [len_tl, h.e]; rfl
theorem sp_sep : Sep (" " : Str) 32 := ⟨by decide +kernel, by decide +kernel⟩
theorem split_tl {x y : Str} {s : Nat} (h : Sep y s) : (Txt.split x y).map tl = spl [s] 0 [] (tl x) := by
  rw [TL.split_spl x y (by rw [h.e]; simp) (TL.kind_ok h.k), h.e]
theorem split_ne {x y : Str} {s : Nat} (h : Sep y s) : Txt.split x y ≠ [] := fun e => by
  have := split_tl (x := x) h
  rw [e] at this
  exact spl_ne s _ _ this.symm
theorem join_tl {y : Str} {s : Nat} (h : Sep y s) (ps : List Str) : tl (Txt.join y ps) = joinL [s] (ps.map tl) := by rw [TL.join_eq, TL.tl_join, h.e]
theorem join_split {x y : Str} {s : Nat} (h : Sep y s) : Txt.join y (Txt.split x y) = x := by
  refine TL.ext_tl ?_
  rw [join_tl h, split_tl h, join_spl, List.nil_append]
theorem split_join {y : Str} {s : Nat} (h : Sep y s) {ps : List Str} (hne : ps ≠ []) (hp : ∀ p ∈ ps, s ∉ tl p) : Txt.split (Txt.join y ps) y = ps := TL.split_join h.e h.k hne hp
theorem sums_tl (ps : List Str) : (ps.map (·.length)).sum = ((ps.map tl).map (·.length)).sum := by
  rw [List.map_map]
  rfl
theorem join_len {y : Str} {s : Nat} (h : Sep y s) {ps : List Str} (hne : ps ≠ []) : (Txt.join y ps).length + 1 = (ps.map (·.length)).sum + ps.length := by
  rw [len_tl, join_tl h, joinL_len s _ (by simpa using hne), sums_tl, List.length_map]
theorem part_len {x y : Str} {s : Nat} (h : Sep y s) {p : Str} (hp : p ∈ Txt.split x y) : p.length ≤ x.length := by
  have e := join_len h (split_ne (x := x) h)
  rw [join_split h] at e
  have l1 : 1 ≤ (Txt.split x y).length := List.length_pos_of_mem hp
  have : ∀ (ps : List Str), p ∈ ps → p.length + ps.length ≤ (ps.map (·.length)).sum + ps.length ∧ p.length ≤ (ps.map (·.length)).sum := fun ps => by
    induction ps with
    | nil => intro h; cases h
    | cons q qs ih =>
      intro h
      simp only [List.map_cons, List.sum_cons]
      rcases List.mem_cons.mp h with rfl | h
      · omega
      · have := ih h; simp only [List.length_cons]; omega
  have h3 := (this _ hp).2
  have h2 : ∀ (ps : List Str), p ∈ ps → p.length + (ps.length - 1) * 0 ≤ (ps.map (·.length)).sum := fun ps hh => by have := (this ps hh).2; omega
  omega
theorem parts_len {x y : Str} {s : Nat} (h : Sep y s) : (Txt.split x y).length ≤ x.length + 1 := by
  have e := join_len h (split_ne (x := x) h)
  rw [join_split h] at e
  omega
theorem splitR_ok {x y : Str} {s : Nat} (h : Sep y s) (hl : x.length ≤ 1000000) : splitR x y = .ok (Txt.split x y) := by
  unfold splitR
  rw [if_pos ⟨by rw [h.len]; rfl, by rw [sizeLine_eq]; omega⟩]
theorem joinR_ok {y : Str} {s : Nat} (h : Sep y s) {ps : List Str} (hl : (ps.map (·.length)).sum + ps.length ≤ 1000000) : joinR y ps = .ok (Txt.join y ps) := by
  unfold joinR
  rw [if_pos (by rw [h.len]; omega)]
def numT (n : Nat) : Str := Str.ofString (toString ((n : Nat) : Int))
theorem numT_tl (n : Nat) : tl (numT n) = TL.numL n := TL.tl_num n
theorem numT_len (n : Nat) : (numT n).length = (TL.numL n).length := by rw [len_tl, numT_tl]
theorem strR_ok {n : Nat} (h : n < 10 ^ 400) : strR (n : Int) = .ok (numT n) := by
  unfold strR
  have h2 : (n : Int).natAbs.log2 < 1920 := by
    rw [Int.natAbs_natCast]
    by_cases c : n = 0
    · subst c; decide
    · exact (Nat.log2_lt c).mpr (Nat.lt_trans h (by decide +kernel))
  rw [if_pos h2]
  rfl
theorem rev_ind {P : List Nat → Prop} (h0 : P []) (h1 : ∀ l c, P l → P (l ++ [c])) : ∀ (n : Nat) (l : List Nat), l.length = n → P l
  | 0, l, h => by rw [List.eq_nil_of_length_eq_zero h]; exact h0
  | n + 1, l, h => by
    have hne : l ≠ [] := fun e => by rw [e] at h; cases h
    rw [← List.dropLast_concat_getLast hne]
    exact h1 _ _ (rev_ind h0 h1 n _ (by rw [List.length_dropLast]; omega))
theorem val_app (l : List Nat) (c : Nat) : NumText.digitsVal (l ++ [c]) = NumText.digitsVal l * 10 + (c - 48) := by
  unfold NumText.digitsVal
  rw [List.foldl_append]; rfl
theorem val_lt : ∀ (l : List Nat), NumText.AllDigits l → NumText.digitsVal l < 10 ^ l.length := by
  intro l
  refine rev_ind (P := fun l => NumText.AllDigits l → NumText.digitsVal l < 10 ^ l.length) (fun _ => by decide) (fun l c ih h => ?_) _ l rfl
  · skip
    have hc := h c (List.mem_append_right _ List.mem_cons_self)
    have := ih fun x hx => h x (List.mem_append_left _ hx)
    rw [val_app, List.length_append, List.length_singleton, Nat.pow_succ]
    omega
def NoZ (l : List Nat) : Prop := l.length = 1 ∨ l.head? ≠ some 48
theorem val_pos : ∀ (l : List Nat), NumText.AllDigits l → l ≠ [] → l.head? ≠ some 48 → 1 ≤ NumText.digitsVal l := by
  intro l
  refine rev_ind (P := fun l => NumText.AllDigits l → l ≠ [] → l.head? ≠ some 48 → 1 ≤ NumText.digitsVal l) (fun _ h => absurd rfl h) (fun l c ih h _ hh => ?_) _ l rfl
  · skip
    have hc := h c (List.mem_append_right _ List.mem_cons_self)
    rw [val_app]
    by_cases e : l = []
    · subst e
      have : c ≠ 48 := fun z => hh (by rw [z]; rfl)
      omega
    · have : l.head? ≠ some 48 := fun z => hh (by
        cases l with
        | nil => exact absurd rfl e
        | cons a b => exact z)
      have := ih (fun x hx => h x (List.mem_append_left _ hx)) e this
      omega
theorem numL_val' : ∀ (l : List Nat), NumText.AllDigits l → l ≠ [] → NoZ l → TL.numL (NumText.digitsVal l) = l := by
  intro l
  refine rev_ind (P := fun l => NumText.AllDigits l → l ≠ [] → NoZ l → TL.numL (NumText.digitsVal l) = l) (fun _ h => absurd rfl h) (fun l c ih h _ hz => ?_) _ l rfl
  · skip
    have hc := h c (List.mem_append_right _ List.mem_cons_self)
    rw [val_app]
    by_cases e : l = []
    · subst e
      rw [TL.numL_lt (by simp [NumText.digitsVal]; omega)]
      simp [NumText.digitsVal]; omega
    · have hd : l.head? ≠ some 48 := fun z => by
        rcases hz with q | q
        · rw [List.length_append, List.length_singleton] at q
          exact e (List.eq_nil_of_length_eq_zero (by omega))
        · refine q ?_
          cases l with
          | nil => exact absurd rfl e
          | cons a b => exact z
      have hl : NumText.AllDigits l := fun x hx => h x (List.mem_append_left _ hx)
      have p := val_pos l hl e hd
      rw [TL.numL_step (by omega), show (NumText.digitsVal l * 10 + (c - 48)) / 10 = NumText.digitsVal l by omega, show (NumText.digitsVal l * 10 + (c - 48)) % 10 = c - 48 by omega, ih hl e (.inr hd)]
      congr 2
      omega
theorem numL_noz (n : Nat) : NoZ (TL.numL n) := by
  induction n using Nat.strongRecOn with
  | _ n ih =>
    by_cases h : n < 10
    · rw [TL.numL_lt h]; exact .inl rfl
    · rw [TL.numL_step (by omega)]
      refine .inr fun z => ?_
      have hne := TL.numL_ne (n / 10)
      have hz : (TL.numL (n / 10)).head? = some 48 := by
        cases e : TL.numL (n / 10) with
        | nil => exact absurd e hne
        | cons a b => rw [e] at z; exact z
      rcases ih (n / 10) (by omega) with q | q
      · have v := TL.numL_val (n / 10)
        cases e : TL.numL (n / 10) with
        | nil => exact absurd e hne
        | cons a b =>
          rw [e] at q hz v
          have : b = [] := List.eq_nil_of_length_eq_zero (by simpa using q)
          subst this
          have : a = 48 := by simpa using hz
          subst this
          have : n / 10 = 0 := by rw [← v]; rfl
          omega
      · exact q hz
end V
set_option maxRecDepth 100000
set_option maxHeartbeats 4000000
set_option synthInstance.maxHeartbeats 400000
set_option synthInstance.maxSize 2000
namespace V
set_option autoImplicit false
open PySem L2 VF
open Enc (enc)
def d_read_number : M Fl := (dSeq (dIf (dNot (dT (dChain (fB fun i j => decide (i ≤ j)) (fB fun i j => decide (i ≤ j)) (dC (.int 1)) (dCB lenD (dCons (dVar 0) dNil)) (dC (.int 60))))) (dRet (dC .non)) dNext)
  (dSeq (dFor (dIt (dVar 0)) (gN 1) (dIf (dT (dOp fNotIn (dVar 1) (dC (.str "0123456789")))) (dRet (dC .non)) dNext))
  (dSeq (dIf (dAnd (dT (dOp (fB fun i j => decide (j < i)) (dCB lenD (dCons (dVar 0) dNil)) (dC (.int 1)))) (dT (dOp fEq (dIx (dVar 0) (dC (.int 0))) (dC (.str "0"))))) (dRet (dC .non)) dNext)
  (dRet (dCB intSD (dCons (dVar 0) dNil))))))
def φ_read_number : Fn := mkFn0 [false] 2 d_read_number
def p_read_number (text : Str) : Res (Option Int) :=
(lenSR text).bind fun t5 =>
if (!(decide (1 ≤ t5) && decide (t5 ≤ 60))) = true then
Res.ok (none : Option Int)
else
forR (fun (sign : Str) _ =>
if (!inS sign (("0123456789" : Str))) = true then
Res.ok (Lp.out (none : Option Int))
else
Res.ok (Lp.go ())) (signsT text) () fun _ =>
(lenSR text).bind fun t19 =>
(if (decide (1 < t19)) = true then
(getiS text 0).bind fun t33 =>
Res.ok (decide (t33 = ("0" : Str)))
else Res.ok false).bind fun t36 =>
if t36 = true then
Res.ok (none : Option Int)
else
(intSR text).bind fun t42 =>
Res.ok (some t42)
theorem ss_read_number (text : Str) : FS false (φ_read_number [.fz (enc text)]) (p_read_number text) (fun t => .fz (enc t)) (fun t => [.fz (enc text)]) := by
  refine fs_mk0 [.fz (enc text), .clr] rfl (by repeat (first | exact trivial | refine ⟨rfl, ?_⟩)) fun e0 h0 => ?_
  unfold p_read_number
  unfold d_read_number
  refine c_seq ?_
  refine c_if ?_
  refine c_not ?_
  refine c_t ?_
  refine c_chain ?_
  refine c_pure h0 (p_c) fun r1 k2 => ?_
  refine c_chain2 ?_
  refine c_cb ?_
  refine c_cons ?_
  refine c_pure h0 (p_fz rfl) fun r3 k4 => ?_
  refine c_cons2 ?_
  refine c_nil ?_
  refine f_cons ?_
  refine f_lenS (x := text) h0 k4 (fun t5 => ?_)
  refine f_chain h0 k2 rk_f (p_c) ?_
  refine f_t h0 rk_f ?_
  refine f_not ?_
  refine f_if (fun _ => ?_) (fun _ => ?_)
  · refine c_ret ?_
    refine c_pure h0 (p_c) fun r6 k7 => ?_
    refine f_ret ?_
    exact f_rt h0 k7 .f (.f .nil)
  · refine c_next ?_
    refine c_nx ?_
    refine c_seq ?_
    refine c_for ?_
    refine c_it ?_
    refine c_pure h0 (p_fz rfl) fun r8 k9 => ?_
    refine f_itS (x := text) h0 k9 .f fun _ h10 => ?_
    refine f_for (fun (s : Unit) => [.fz (enc text), .cf]) (fun _ _ => tg_n) ?_ ?_ h10
    · rintro sign _ _ h13
      try dsimp only [List.set_cons_zero, List.set_cons_succ] at h13 ⊢
      refine c_if ?_
      refine c_pureB h13 (b_t (p_notInS (x := sign) (y := ("0123456789" : Str)) (p_fz rfl) (p_c))) ?_
      refine f_if (fun _ => ?_) (fun _ => ?_)
      · refine c_ret ?_
        refine c_pure h13 (p_c) fun r14 k15 => ?_
        refine f_ret ?_
        refine f_out ?_
        exact f_rt h13 k15 .f (.f .nil)
      · refine c_next ?_
        exact f_go h13
    rintro _ _ h16
    try dsimp only [List.set_cons_zero, List.set_cons_succ] at h16 ⊢
    refine c_nx ?_
    refine c_seq ?_
    refine c_if ?_
    refine c_and ?_
    refine c_t ?_
    refine c_op ?_
    refine c_cb ?_
    refine c_cons ?_
    refine c_pure h16 (p_fz rfl) fun r17 k18 => ?_
    refine c_cons2 ?_
    refine c_nil ?_
    refine f_cons ?_
    refine f_lenS (x := text) h16 k18 (fun t19 => ?_)
    refine c_op2 ?_
    refine c_pure h16 (p_c) fun r20 k21 => ?_
    refine f_cmp h16 rk_f k21 (kk := ?_)
    refine f_t h16 rk_f ?_
    refine f_and h16 (fun _ => ?_) fun t36 _ h37 => ?_
    · refine c_t ?_
      refine c_op ?_
      refine c_ix ?_
      refine c_pure h16 (p_fz rfl) fun r29 k30 => ?_
      refine c_ix2 ?_
      refine c_pure h16 (p_c) fun r31 k32 => ?_
      refine f_ixS (x := text) (i := 0) h16 k30 k32 (fun t33 => ?_)
      refine c_op2 ?_
      refine c_pure h16 (p_c) fun r34 k35 => ?_
      refine f_eq (u := t33) (v := ("0" : Str)) h16 rk_f k35 ?_
      refine f_t h16 rk_f ?_
      exact f_tb (h16.weak (by first | exact W.refl _ | (repeat (first | exact W.nil | refine W.rf ?_ | refine W.cz ?_ | refine W.cc ?_ | refine W.vz ?_ | refine W.vo ?_ | refine W.an ?_))))
    refine f_if (fun _ => ?_) (fun _ => ?_)
    · refine c_ret ?_
      refine c_pure h37 (p_c) fun r38 k39 => ?_
      refine f_ret ?_
      exact f_rt h37 k39 .f (.f .nil)
    · refine c_next ?_
      refine c_nx ?_
      refine c_ret ?_
      refine c_cb ?_
      refine c_cons ?_
      refine c_pure h37 (p_fz rfl) fun r40 k41 => ?_
      refine c_cons2 ?_
      refine c_nil ?_
      refine f_cons ?_
      refine f_intS (x := text) h37 k41 (fun t42 => ?_)
      refine f_ret ?_
      exact f_rt h37 rk_f .f (.f .nil)
end V
set_option maxRecDepth 100000
set_option maxHeartbeats 4000000
namespace V
set_option autoImplicit false
open PySem L2 VF
open Enc (enc)
open TL (tl spl joinL)
theorem lenSR_ok {z : Str} (h : z.length ≤ 1000000) : lenSR z = .ok (z.length : Nat) := by unfold lenSR; rw [if_pos (by rw [sizeLine_eq]; omega)]
theorem addSR_ok {a b : Str} (h : a.length + b.length ≤ 1000000) : addSR a b = .ok (a ++ b) := by unfold addSR; rw [if_pos (by rw [sizeLine_eq]; omega)]
theorem cutSR_ok {z : Str} {lo hi : Option Int} (h : z.length ≤ 1000000) : cutSR z lo hi = .ok (cutS z lo hi) := by unfold cutSR; rw [if_pos (by rw [sizeLine_eq]; omega)]
theorem app_len (a b : Str) : (a ++ b).length = a.length + b.length := by rw [len_tl, TL.tl_append, List.length_append, ← len_tl, ← len_tl]
theorem getiS_ok {z : Str} {i : Int} (h : z.length ≤ 1000000) (h0 : 0 ≤ i) (h1 : i.toNat < (tl z).length) : getiS z i = .ok (sign1 (tl z)[i.toNat]) := by
  have e := geti_int (xs := tl z) h0 h1
  unfold geti at e
  unfold getiS
  rw [if_pos (by rw [sizeLine_eq]; omega)]
  show (match atI (tl z) i with
    | some c => Res.ok (sign1 c)
    | none => .st) = _
  cases q : atI (tl z) i with
  | none => rw [q] at e; cases e
  | some c =>
    rw [q] at e
    have : c = (tl z)[i.toNat] := by injection e
    rw [this]
theorem inS_one (c : Nat) (z : Str) : inS (sign1 c) z = decide (c ∈ tl z) := StrLaws.found_one z c
theorem figs : tl ("0123456789" : Str) = [48, 49, 50, 51, 52, 53, 54, 55, 56, 57] := by decide +kernel
theorem inS_fig (c : Nat) : inS (sign1 c) ("0123456789" : Str) = decide (48 ≤ c ∧ c ≤ 57) := by
  rw [inS_one, figs, decide_eq_decide]
  simp only [List.mem_cons, List.not_mem_nil, or_false]
  omega
theorem sign_inj {c d : Nat} (h : sign1 c = sign1 d) : c = d := by
  have : tl (sign1 c) = tl (sign1 d) := by rw [h]
  simpa [TL.tl_mk, sign1, tl] using this
theorem zero_sign : ("0" : Str) = sign1 48 := by decide +kernel
def digB (l : List Nat) : Bool := l.all fun c => decide (48 ≤ c ∧ c ≤ 57)
theorem digB_iff {l : List Nat} : digB l = true ↔ NumText.AllDigits l := by
  unfold digB NumText.AllDigits
  rw [List.all_eq_true]
  exact ⟨fun h c hc => of_decide_eq_true (h c hc), fun h c hc => decide_eq_true (h c hc)⟩
def goodB (t : Str) : Bool := (decide (1 ≤ t.length ∧ t.length ≤ 60) && digB (tl t)) && !(decide (1 < t.length) && decide ((tl t).head? = some 48))
def rnO (t : Str) : Option Int := if goodB t = true then some (NumText.digitsVal (tl t) : Nat) else none
theorem intSR_ok {t : Str} (h : NumText.AllDigits (tl t)) (h1 : 1 ≤ t.length) (h2 : t.length ≤ 640) : intSR t = .ok (NumText.digitsVal (tl t) : Nat) := by
  unfold intSR
  rw [if_pos h2, PySem.intText_digits (x := t) h (fun e => by
    have : (tl t).length = 0 := by rw [show tl t = [] from e]; rfl
    rw [len_tl] at h1; omega) (by omega)]
theorem rn_ok {t : Str} (h : t.length ≤ 1000000) : p_read_number t = .ok (rnO t) := by
  unfold p_read_number rnO goodB
  rw [lenSR_ok h, Res.bind_ok]
  by_cases c1 : 1 ≤ t.length ∧ t.length ≤ 60
  · have c1' : (decide (1 ≤ ((t.length : Nat) : Int)) && decide (((t.length : Nat) : Int) ≤ 60)) = true := by
      rw [Bool.and_eq_true, decide_eq_true_iff, decide_eq_true_iff]; omega
    rw [if_neg (by rw [c1']; decide), forR_find (c := fun s => !inS s ("0123456789" : Str)) (g := fun _ => (none : Option Int)) fun x _ => rfl, decide_eq_true c1, Bool.true_and]
    cases e : (signsT t).find? (fun s => !inS s ("0123456789" : Str)) with
    | some s =>
      have hs := List.find?_some e
      have hm := List.mem_of_find?_eq_some e
      obtain ⟨c, hc, rfl⟩ := List.mem_map.mp (show s ∈ (tl t).map sign1 from hm)
      have nd : digB (tl t) = false := by
        rw [Bool.eq_false_iff]
        intro q
        have := digB_iff.mp q c hc
        simp only [inS_fig] at hs
        rw [decide_eq_true this] at hs
        cases hs
      rw [nd]; rfl
    | none =>
      have ad : NumText.AllDigits (tl t) := fun c hc => by
        have := List.find?_eq_none.mp e (sign1 c) (List.mem_map.mpr ⟨c, hc, rfl⟩)
        rw [inS_fig] at this
        simpa using this
      rw [digB_iff.mpr ad, Bool.true_and, Option.elim_none, Res.bind_ok]
      have l1 : 0 < (tl t).length := by rw [← len_tl]; omega
      have hh : (tl t).head? = some (tl t)[0] := by rw [List.head?_eq_getElem?, List.getElem?_eq_getElem l1]
      by_cases c2 : 1 < t.length
      · rw [if_pos (decide_eq_true (by omega)), getiS_ok (i := 0) h (by omega) l1, Res.bind_ok, Res.bind_ok, decide_eq_true c2, Bool.true_and, hh]
        have e2 : decide (sign1 (tl t)[(0 : Int).toNat] = ("0" : Str)) = decide (some (tl t)[0] = some 48) := by
          rw [decide_eq_decide, zero_sign]
          exact ⟨fun q => by rw [show (tl t)[0] = 48 from sign_inj q], fun q => by rw [show (tl t)[(0 : Int).toNat] = 48 from Option.some.inj q]⟩
        rw [e2]
        by_cases c3 : some (tl t)[0] = some 48
        · rw [decide_eq_true c3]; rfl
        · rw [decide_eq_false c3, if_neg (by decide), intSR_ok ad c1.1 (by omega), Res.bind_ok]; rfl
      · rw [if_neg (by rw [decide_eq_true_iff]; omega), Res.bind_ok, if_neg (by decide), intSR_ok ad c1.1 (by omega), Res.bind_ok, decide_eq_false c2]; rfl
  · have c1' : (decide (1 ≤ ((t.length : Nat) : Int)) && decide (((t.length : Nat) : Int) ≤ 60)) = false := by
      rw [Bool.eq_false_iff]
      intro q
      rw [Bool.and_eq_true, decide_eq_true_iff, decide_eq_true_iff] at q
      omega
    rw [if_pos (by rw [c1']; rfl), decide_eq_false c1]; rfl
theorem rn_some {t : Str} {v : Int} (h : rnO t = some v) : ∃ n : Nat, v = n ∧ t = numT n ∧ n < 10 ^ 60 := by
  unfold rnO at h
  by_cases c : goodB t = true
  · rw [if_pos c] at h
    unfold goodB at c
    simp only [Bool.and_eq_true, decide_eq_true_eq, Bool.not_eq_true', Bool.and_eq_false_iff, decide_eq_false_iff_not] at c
    obtain ⟨⟨c1, c2⟩, c3⟩ := c
    have ad := digB_iff.mp c2
    have l0 : 0 < (tl t).length := by rw [← len_tl]; omega
    have nz : NoZ (tl t) := by
      rcases c3 with q | q
      · exact .inl (by rw [← len_tl]; omega)
      · exact .inr q
    refine ⟨NumText.digitsVal (tl t), (Option.some.inj h).symm, TL.ext_tl ?_, ?_⟩
    · rw [numT_tl, numL_val' _ ad (List.length_pos_iff.mp l0) nz]
    · refine Nat.lt_of_lt_of_le (val_lt _ ad) (Nat.pow_le_pow_right (by decide) ?_)
      rw [← len_tl]; omega
  · rw [if_neg c] at h; cases h
theorem numT_len60 {n : Nat} (h : n < 10 ^ 60) : (numT n).length ≤ 60 := by rw [numT_len]; exact TL.numL_len (by decide) h
theorem rn_num {n : Nat} (h : n < 10 ^ 60) : rnO (numT n) = some (n : Int) := by
  have l := numT_len60 h
  have hne := TL.numL_ne n
  have l1 : 1 ≤ (numT n).length := by rw [numT_len]; exact List.length_pos_iff.mpr hne
  have g : goodB (numT n) = true := by
    unfold goodB
    simp only [Bool.and_eq_true, decide_eq_true_eq, Bool.not_eq_true', Bool.and_eq_false_iff, decide_eq_false_iff_not]
    refine ⟨⟨⟨l1, l⟩, digB_iff.mpr (by rw [numT_tl]; exact TL.numL_digits n)⟩, ?_⟩
    rcases numL_noz n with q | q
    · exact .inl (by rw [numT_len]; omega)
    · exact .inr (by rw [numT_tl]; exact q)
  unfold rnO
  rw [if_pos g, numT_tl, TL.numL_val]
theorem rn_zero (n : Nat) : rnO (("0" : Str) ++ numT n) = none := by
  have hne := TL.numL_ne n
  have e : tl (("0" : Str) ++ numT n) = 48 :: TL.numL n := by rw [TL.tl_append, numT_tl]; rfl
  have l : 1 < (("0" : Str) ++ numT n).length := by rw [len_tl, e, List.length_cons]; have := List.length_pos_iff.mpr hne; omega
  unfold rnO
  rw [if_neg]
  unfold goodB
  rw [decide_eq_true l, e]
  simp
theorem shown_num {n : Nat} (h : n < 10 ^ 15) : (PyData.shown (.int (n : Int))).length ≤ 20 := by
  have e : PyData.shown (.int (n : Int)) = numT n := PyData.shown_int _
  rw [e, numT_len]
  exact Nat.le_trans (TL.numL_len (k := 15) (by decide) h) (by decide)
theorem show_of {d : VF.D} {p : PyData} (e : toP d = some p) (h1 : p.showable = true) (h2 : p.hasDict = false) (h3 : p.depth ≤ 60) (h4 : p.canLay0 = true) (h5 : p.weight ≤ 10000) (h6 : p.intsShort 20 = true) : ∃ t, showD d = some t := by
  have l : p.shown.length ≤ sizeLine := by
    have := PyData.shown_le 20 (by decide) p (PyData.leavesShort_of_canLay0 20 p h4 h6)
    rw [sizeLine_eq]
    have h7 : (20 + 2) * p.weight ≤ 22 * 10000 := Nat.mul_le_mul (by decide) h5
    omega
  refine ⟨p.shown, ?_⟩
  unfold showD
  rw [e]
  show (if shownOk _ = true then some _ else none) = _
  rw [if_pos]
  unfold shownOk
  rw [h1, h2, decide_eq_true h3, decide_eq_true l]
  rfl
theorem strOk_of {s : Str} (h : ∀ c ∈ tl s, c < 0x110000) : PyData.canLay0 (.str s) = true := by
  simp only [PyData.canLay0, PyData.strOk]
  rw [Array.all_eq_true_iff_forall_mem]
  intro c hc
  exact decide_eq_true (h c (Array.mem_toList_iff.mpr hc))
theorem show_str {s : Str} (h : ∀ c ∈ tl s, c < 0x110000) (hl : s.length ≤ 10000) : ∃ t, showD (enc s) = some t :=
  show_of (p := .str s) rfl rfl rfl (Nat.zero_le _) (strOk_of h) hl rfl
end V
set_option maxHeartbeats 4000000
set_option synthInstance.maxHeartbeats 400000
set_option synthInstance.maxSize 2000
namespace V
section
set_option autoImplicit false
open PySem L2 VF
open Enc (enc)
def d_write_deed : M Fl := (dRet (dJoin (dC (.str " ")) (dAddL (dLst (dCons (dIx (dVar 0) (dC (.int 0))) dNil)) (dComp [1] (dIt (dIx (dVar 0) (dC (.int 1)))) (gN 1) dYes (dCB strD (dCons (dVar 1) dNil))))))
def φ_write_deed : Fn := mkFn0 [false] 2 d_write_deed
def d_fits : M Fl := (dSeq (dIf (dT (dOp fEq (dVar 0) (dC (.str "cast")))) (dRet (dOp (fB fun i j => decide (j ≤ i)) (dCB lenD (dCons (dVar 1) dNil)) (dC (.int 2)))) dNext)
  (dSeq (dIf (dT (dOp fEq (dVar 0) (dC (.str "withdraw")))) (dRet (dOp fEq (dCB lenD (dCons (dVar 1) dNil)) (dC (.int 1)))) dNext)
  (dRet (dOrV (dOp fEq (dVar 0) (dC (.str "mix"))) (dNotT (dVar 1))))))
def φ_fits : Fn := mkFn0 [false, false] 2 d_fits
def d_read_deed : M Fl := (dSeq (dSet 1 (dSplit (dVar 0) (dC (.str " "))))
  (dSeq (dIf (dT (dOp fNotIn (dIx (dVar 1) (dC (.int 0))) (dC (.tup [.str "cast", .str "withdraw", .str "close", .str "mix"])))) (dRet (dC .non)) dNext)
  (dSeq (dSet 2 (dComp [3] (dIt (dSl (dVar 1) (dPart (dC (.int 1))) dNoPart)) (gN 3) dYes (dCallB 1 φ_read_number (dCons (dVar 3) dNil))))
  (dSeq (dIf (dOr (dT (dOp fIn (dC .non) (dVar 2))) (dNot (dTru (dCallB 2 φ_fits (dCons (dIx (dVar 1) (dC (.int 0))) (dCons (dVar 2) dNil)))))) (dRet (dC .non)) dNext)
  (dRet (dTup (dCons (dIx (dVar 1) (dC (.int 0))) (dCons (dVar 2) dNil))))))))
def φ_read_deed : Fn := mkFn0 [false] 4 d_read_deed
def d__law_line : M Fl := (dRet (dJoin (dC (.str " ")) (dAddL (dLst (dCons (dIx (dVar 0) (dC (.int 0))) dNil)) (dComp [1] (dIt (dIx (dVar 0) (dC (.int 1)))) (gN 1) dYes (dCB strD (dCons (dVar 1) dNil))))))
def φ__law_line : Fn := mkFn0 [false] 2 d__law_line
def d__law_number : M Fl := (dSeq (dSet 1 (dCall [true, false] φ__law_draw (dCons (dVar 0) (dCons (dC (.int 30)) dNil))))
  (dSeq (dFor (dRng1 (dCons (dCall [true, false] φ__law_draw (dCons (dVar 0) (dCons (dC (.int 5)) dNil))) dNil)) (gN 2) (dSet 1 (dOp (fI (· + ·)) (dOp fMul (dVar 1) (dC (.int 1000))) (dCall [true, false] φ__law_draw (dCons (dVar 0) (dCons (dC (.int 1000)) dNil))))))
  (dRet (dVar 1))))
def φ__law_number : Fn := mkFn0 [true] 3 d__law_number
def d__law_near : M Fl := (dSeq (dSet 2 (dOp fMod (dCB intD (dCons (dCall [true, false] φ__law_draw (dCons (dVar 0) (dCons (dC (.int 900)) dNil))) dNil)) (dOp (fI (· + ·)) (dCB lenD (dCons (dVar 1) dNil)) (dC (.int 1)))))
  (dSeq (dSet 3 (dIx (dC (.str " 019caw-x")) (dCall [true, false] φ__law_draw (dCons (dVar 0) (dCons (dC (.int 9)) dNil)))))
  (dSeq (dSet 4 (dCall [true, false] φ__law_draw (dCons (dVar 0) (dCons (dC (.int 3)) dNil))))
  (dSeq (dIf (dT (dOp fEq (dVar 4) (dC (.int 0)))) (dRet (dOp fAddS (dOp fAddS (dSlS (dVar 1) dNoPart (dPart (dVar 2))) (dVar 3)) (dSlS (dVar 1) (dPart (dVar 2)) dNoPart))) dNext)
  (dSeq (dIf (dT (dOp fEq (dVar 4) (dC (.int 1)))) (dRet (dOp fAddS (dSlS (dVar 1) dNoPart (dPart (dVar 2))) (dSlS (dVar 1) (dPart (dOp (fI (· + ·)) (dVar 2) (dC (.int 1)))) dNoPart))) dNext)
  (dRet (dOp fAddS (dOp fAddS (dSlS (dVar 1) dNoPart (dPart (dVar 2))) (dVar 3)) (dSlS (dVar 1) (dPart (dOp (fI (· + ·)) (dVar 2) (dC (.int 1)))) dNoPart))))))))
def φ__law_near : Fn := mkFn0 [true, false] 5 d__law_near
def d_law_0 : M Fl := (dSet 1 (dCall [false, false, false] φ__law_box (dCons (dVar 0) (dCons (dC (.int 0)) (dCons (dC (.int 8)) dNil)))))
def d_law_1 : M Fl := (dFor (dRng1 (dCons (dC (.int 4)) dNil)) (gN 2) (dSeq (dSet 3 (dIx (dLst (dCons (dC (.str "cast")) (dCons (dC (.str "withdraw")) (dCons (dC (.str "close")) (dCons (dC (.str "mix")) dNil))))) (dCall [true, false] φ__law_draw (dCons (dVar 1) (dCons (dC (.int 4)) dNil)))))
  (dSeq (dSet 4 (dGetR (dDisp [.inr "cast", .inr "withdraw", .inr "close", .inr "mix"] [false, false, false, false] (dCons (dOp (fI (· + ·)) (dC (.int 2)) (dCall [true, false] φ__law_draw (dCons (dVar 1) (dCons (dC (.int 3)) dNil)))) (dCons (dC (.int 1)) (dCons (dC (.int 0)) (dCons (dCall [true, false] φ__law_draw (dCons (dVar 1) (dCons (dC (.int 4)) dNil))) dNil))))) (dVar 3)))
  (dSeq (dSet 5 (dTup (dCons (dVar 3) (dCons (dComp [11] (dRng1 (dCons (dVar 4) dNil)) (gN 11) dYes (dCall [true] φ__law_number (dCons (dVar 1) dNil))) dNil))))
  (dSeq (dSet 6 (dCallB 1 φ__law_line (dCons (dVar 5) dNil)))
  (dSeq (dIf (dOr (dNot (dTru (dCallB 2 φ__law_same (dCons (dCallB 1 φ_write_deed (dCons (dVar 5) dNil)) (dCons (dVar 6) dNil))))) (dNot (dTru (dCallB 2 φ__law_same (dCons (dCall [false] φ_read_deed (dCons (dVar 6) dNil)) (dCons (dVar 5) dNil)))))) (dRet (dC (.bl false))) dNext)
  (dSeq (dSet 7 (dCall [true, false] φ__law_near (dCons (dVar 1) (dCons (dVar 6) dNil))))
  (dSeq (dSet 8 (dCall [false] φ_read_deed (dCons (dVar 7) dNil)))
  (dSeq (dIf (dT (dOp fNotN (dVar 8) (dC .non))) (dSeq (dSet 10 (dGetR (dDisp [.inr "cast", .inr "withdraw", .inr "close", .inr "mix"] [false, false, false, false] (dCons (dC (.int 2)) (dCons (dC (.int 1)) (dCons (dC (.int 0)) (dCons (dC (.int 0)) dNil))))) (dIx (dVar 8) (dC (.int 0)))))
  (dIf (dOr (dT (dOp fNe (dCallB 1 φ__law_line (dCons (dVar 8) dNil)) (dVar 7))) (dOr (dT (dOp (fB fun i j => decide (i < j)) (dCB lenD (dCons (dIx (dVar 8) (dC (.int 1))) dNil)) (dVar 10))) (dAnd (dT (dOp fIn (dIx (dVar 8) (dC (.int 0))) (dLst (dCons (dC (.str "withdraw")) (dCons (dC (.str "close")) dNil))))) (dT (dOp fNe (dCB lenD (dCons (dIx (dVar 8) (dC (.int 1))) dNil)) (dVar 10)))))) (dRet (dC (.bl false))) dNext)) (dIf (dT (dOp fEq (dVar 7) (dVar 6))) (dRet (dC (.bl false))) dNext))
  (dSeq (dSet 9 (dCall [true] φ__law_number (dCons (dVar 1) dNil)))
  (dIf (dOr (dNot (dTru (dCallB 2 φ__law_same (dCons (dCallB 1 φ_read_number (dCons (dCB strD (dCons (dVar 9) dNil)) dNil)) (dCons (dVar 9) dNil))))) (dT (dOp fNotN (dCallB 1 φ_read_number (dCons (dOp fAddS (dC (.str "0")) (dCB strD (dCons (dVar 9) dNil))) dNil)) (dC .non)))) (dRet (dC (.bl false))) dNext)))))))))))
def d_law_2 : M Fl := (dRet (dAndV (dOp fEq (dCallB 1 φ_read_number (dCons (dOp fMulS (dC (.str "9")) (dC (.int 60))) dNil)) (dCB intSD (dCons (dOp fMulS (dC (.str "9")) (dC (.int 60))) dNil))) (dAndV (dOp fIsN (dCallB 1 φ_read_number (dCons (dOp fAddS (dC (.str "1")) (dOp fMulS (dC (.str "0")) (dC (.int 60)))) dNil)) (dC .non)) (dOp fIsN (dCallB 1 φ_read_number (dCons (dC (.str "")) dNil)) (dC .non)))))
def d_law : M Fl := (dSeq d_law_0 (dSeq d_law_1 d_law_2))
def φ_law : Fn := mkFn0 [false] 12 d_law
def p_write_deed (deed : Str × (List Int)) : Res Str :=
(mapC (fun (number : Int) =>
(strR number).bind fun t12 =>
Res.ok t12) deed.2).bind fun t13 =>
(catR (([deed.1] : List Str)) t13).bind fun t17 =>
(joinR ((" " : Str)) t17).bind fun t21 =>
Res.ok t21
theorem ss_write_deed (deed : Str × (List Int)) : FS false (φ_write_deed [.fz (enc deed)]) (p_write_deed deed) (fun t => .fz (enc t)) (fun t => [.fz (enc deed)]) := by
  refine fs_mk0 [.fz (enc deed), .clr] rfl (by repeat (first | exact trivial | refine ⟨rfl, ?_⟩)) fun e0 h0 => ?_
  unfold p_write_deed
  unfold d_write_deed
  refine c_ret ?_
  refine c_join ?_
  refine c_pure h0 (p_c) fun r1 k2 => ?_
  refine f_join1 (x := (" " : Str)) h0 k2 ?_
  refine c_addL ?_
  refine c_pure h0 (p_lst (pa_cons' (p_ixTup (p_fz rfl)) pa_nil') (.cons .f .nil)) fun r3 k4 => ?_
  refine f_addL1 (xs := ([deed.1] : List Str)) h0 k4 .w fun _ h5 => ?_
  refine c_comp ?_
  refine c_it ?_
  refine c_pure h5 (p_ixTup (p_fz rfl)) fun r6 k7 => ?_
  refine f_it (xs := deed.2) h5 k7 .f fun _ h8 => ?_
  refine f_mapC (ψ := Str) h8 (fun _ => tg_n) ?_ fun t13 r14 _ k15 h16 => ?_
  · rintro number _ h9
    try dsimp only [List.set_cons_zero, List.set_cons_succ, wipeS] at h9 ⊢
    refine c_cb ?_
    refine c_cons ?_
    refine c_pure h9 (p_fz rfl) fun r10 k11 => ?_
    refine c_cons2 ?_
    refine c_nil ?_
    refine f_cons ?_
    refine f_strI (i := number) h9 k11 (fun t12 => ?_)
    exact f_el (v := t12) h9 rk_f
  refine f_addL2 h16 k15 .w fun t17 r18 _ k19 h20 => ?_
  refine f_join2 (x := (" " : Str)) (ys := t17) h20 k19 (fun t21 => ?_)
  refine f_ret ?_
  exact f_rt h20 rk_f .f (.f .nil)
def p_fits (word : Str) (numbers : List (Option Int)) : Res Bool :=
if (decide (word = ("cast" : Str))) = true then
Res.ok (decide (2 ≤ (numbers.length : Int)))
else
if (decide (word = ("withdraw" : Str))) = true then
Res.ok (decide ((numbers.length : Int) = 1))
else
Res.ok ((decide (word = ("mix" : Str))) || numbers.isEmpty)
theorem ss_fits (word : Str) (numbers : List (Option Int)) : FS false (φ_fits [.fz (enc word), .fz (enc numbers)]) (p_fits word numbers) (fun t => .fz (enc t)) (fun t => [.fz (enc word), .fz (enc numbers)]) := by
  refine fs_mk0 [.fz (enc word), .fz (enc numbers)] rfl (by repeat (first | exact trivial | refine ⟨rfl, ?_⟩)) fun e0 h0 => ?_
  unfold p_fits
  unfold d_fits
  refine c_seq ?_
  refine c_if ?_
  refine c_pureB h0 (b_t (p_eq (x := word) (y := ("cast" : Str)) (p_fz rfl) (p_c))) ?_
  refine f_if (fun _ => ?_) (fun _ => ?_)
  · refine c_ret ?_
    refine c_pure h0 (p_cmp (p_len (p_fz rfl)) (p_c)) fun r1 k2 => ?_
    refine f_ret ?_
    exact f_rt h0 k2 .f (.f (.f .nil))
  · refine c_next ?_
    refine c_nx ?_
    refine c_seq ?_
    refine c_if ?_
    refine c_pureB h0 (b_t (p_eq (x := word) (y := ("withdraw" : Str)) (p_fz rfl) (p_c))) ?_
    refine f_if (fun _ => ?_) (fun _ => ?_)
    · refine c_ret ?_
      refine c_pure h0 (p_eq (x := (numbers.length : Int)) (y := 1) (p_len (p_fz rfl)) (p_c)) fun r3 k4 => ?_
      refine f_ret ?_
      exact f_rt h0 k4 .f (.f (.f .nil))
    · refine c_next ?_
      refine c_nx ?_
      refine c_ret ?_
      refine c_pure h0 (p_orV (p_eq (x := word) (y := ("mix" : Str)) (p_fz rfl) (p_c)) (p_notL (xs := numbers) (p_fz rfl))) fun r5 k6 => ?_
      refine f_ret ?_
      exact f_rt h0 k6 .f (.f (.f .nil))
def p_read_deed (line : Str) : Res ((Option (Str × (List Int)))) :=
(splitR line ((" " : Str))).bind fun t5 =>
(Res.ok (t5 : List Str)).bind fun parts =>
(geti parts 0).bind fun t13 =>
if (decide (t13 ∉ ((Tup.mk [("cast" : Str), ("withdraw" : Str), ("close" : Str), ("mix" : Str)] : Tup Str)).l)) = true then
Res.ok (none : Option (Str × (List Int)))
else
(mapC (fun (part : Str) =>
(p_read_number part).bind fun t27 =>
Res.ok t27) (cutL parts (some 1) none)).bind fun t30 =>
(Res.ok (t30 : List (Option Int))).bind fun numbers =>
(if (memD none numbers) = true then Res.ok true else
(geti parts 0).bind fun t49 =>
(p_fits t49 numbers).bind fun t52 =>
Res.ok (!t52)).bind fun t55 =>
if t55 = true then
Res.ok (none : Option (Str × (List Int)))
else
(unOs numbers).bind fun u60 =>
(geti parts 0).bind fun t66 =>
Res.ok (some (t66, u60))
theorem ss_read_deed (line : Str) : FS false (φ_read_deed [.fz (enc line)]) (p_read_deed line) (fun t => .fz (enc t)) (fun t => [.fz (enc line)]) := by
  refine fs_mk0 [.fz (enc line), .clr, .clr, .clr] rfl (by repeat (first | exact trivial | refine ⟨rfl, ?_⟩)) fun e0 h0 => ?_
  unfold p_read_deed
  unfold d_read_deed
  refine c_seq ?_
  refine c_set ?_
  refine c_split ?_
  refine c_pure h0 (p_fz rfl) fun r1 k2 => ?_
  refine f_split1 (x := line) h0 k2 ?_
  refine c_pure h0 (p_c) fun r3 k4 => ?_
  refine f_split2 (x := line) (y := (" " : Str)) h0 k4 (fun t5 r6 k7 => ?_)
  refine f_setL (v := (t5 : List Str)) (fun v => .ol (encs v)) h0 k7 .w (by decide) fun parts _ h8 => ?_
  try dsimp only [List.set_cons_zero, List.set_cons_succ] at h8
  refine c_nx ?_
  refine c_seq ?_
  refine c_if ?_
  refine c_t ?_
  refine c_op ?_
  refine c_ix ?_
  refine c_pure h8 (p_ol rfl) fun r9 k10 => ?_
  refine c_ix2 ?_
  refine c_pure h8 (p_c) fun r11 k12 => ?_
  refine f_ix (xs := parts) h8 k10 k12 fun t13 => ?_
  refine c_op2 ?_
  refine c_pure h8 (p_c) fun r14 k15 => ?_
  refine f_notInT (x := t13) (xs := (Tup.mk [("cast" : Str), ("withdraw" : Str), ("close" : Str), ("mix" : Str)] : Tup Str)) h8 rk_f k15 ?_
  refine f_t h8 rk_f ?_
  refine f_if (fun _ => ?_) (fun _ => ?_)
  · refine c_ret ?_
    refine c_pure h8 (p_c) fun r16 k17 => ?_
    refine f_ret ?_
    exact f_rt h8 k17 .f (.f .nil)
  · refine c_next ?_
    refine c_nx ?_
    refine c_seq ?_
    refine c_set ?_
    refine c_comp ?_
    refine c_it ?_
    refine c_sl ?_
    refine c_pure h8 (p_ol rfl) fun r18 k19 => ?_
    refine f_sl h8 k19 (.v rfl) (pp_at (p_c)) pp_no fun r20 _ k21 h22 => ?_
    refine f_it (xs := (cutL parts (some 1) none)) h22 k21 .w fun _ h23 => ?_
    refine f_mapC (ψ := Option Int) h23 (fun _ => tg_n) ?_ fun t30 r31 _ k32 h33 => ?_
    · rintro part _ h24
      try dsimp only [List.set_cons_zero, List.set_cons_succ, wipeS] at h24 ⊢
      refine c_callB ?_
      refine c_pureA h24 (pa_cons' (p_fz rfl) pa_nil') fun r25 k26 => ?_
      refine f_callB h24 k26 (.cons .f .nil) rfl (ss_read_number part) imm_OI fun t27 r28 k29 => ?_
      exact f_el (v := t27) h24 k29
    refine f_setL (v := (t30 : List (Option Int))) (fun v => .ol (encs v)) h33 k32 .w (by decide) fun numbers _ h34 => ?_
    try dsimp only [List.set_cons_zero, List.set_cons_succ] at h34
    refine c_nx ?_
    refine c_seq ?_
    refine c_if ?_
    refine c_or ?_
    refine c_pureB h34 (b_t (p_in (x := none) (xs := numbers) (p_c) (p_ol rfl))) ?_
    refine f_or h34 (fun _ => ?_) fun t55 _ h56 => ?_
    · refine c_not ?_
      refine c_tru ?_
      refine c_callB ?_
      refine c_cons ?_
      refine c_ix ?_
      refine c_pure h34 (p_fz rfl) fun r45 k46 => ?_
      refine c_ix2 ?_
      refine c_pure h34 (p_c) fun r47 k48 => ?_
      refine f_ix (xs := parts) h34 k46 k48 fun t49 => ?_
      refine c_cons2 ?_
      refine c_cons ?_
      refine c_pure h34 (p_ol rfl) fun r50 k51 => ?_
      refine c_cons2 ?_
      refine c_nil ?_
      refine f_cons ?_
      refine f_cons ?_
      refine f_callB h34 (rks rk_f (rks k51 rks0)) (.cons .f (.cons (.v rfl) .nil)) rfl (ss_fits t49 numbers) imm_B fun t52 r53 k54 => ?_
      refine f_truB h34 k54 ?_
      refine f_not ?_
      exact f_tb (h34.weak (by first | exact W.refl _ | (repeat (first | exact W.nil | refine W.rf ?_ | refine W.cz ?_ | refine W.cc ?_ | refine W.vz ?_ | refine W.vo ?_ | refine W.an ?_))))
    refine f_if (fun _ => ?_) (fun _ => ?_)
    · refine c_ret ?_
      refine c_pure h56 (p_c) fun r57 k58 => ?_
      refine f_ret ?_
      exact f_rt h56 k58 .f (.f .nil)
    · refine f_unOs fun u60 q59 => ?_
      rw [q59, encs_some] at h56
      have h61 := h56
      refine c_next ?_
      refine c_nx ?_
      refine c_ret ?_
      refine c_tup ?_
      refine c_cons ?_
      refine c_ix ?_
      refine c_pure h61 (p_fz rfl) fun r62 k63 => ?_
      refine c_ix2 ?_
      refine c_pure h61 (p_c) fun r64 k65 => ?_
      refine f_ix (xs := parts) h61 k63 k65 fun t66 => ?_
      refine c_cons2 ?_
      refine c_cons ?_
      refine c_pure h61 (p_ol rfl) fun r67 k68 => ?_
      refine c_cons2 ?_
      refine c_nil ?_
      refine f_cons ?_
      refine f_cons ?_
      refine f_tup h61 (rks rk_f (rks k68 rks0)) (.cons .f (.cons (.v rfl) .nil)) (Nat.le_of_ble_eq_true rfl) fun r69 _ k70 h71 => ?_
      refine f_ret ?_
      exact f_rt h71 k70 .f (.f .nil)
def p__law_line (deed : Str × (List Int)) : Res Str :=
(mapC (fun (numberH : Int) =>
(strR numberH).bind fun t12 =>
Res.ok t12) deed.2).bind fun t13 =>
(catR (([deed.1] : List Str)) t13).bind fun t17 =>
(joinR ((" " : Str)) t17).bind fun t21 =>
Res.ok t21
theorem ss__law_line (deed : Str × (List Int)) : FS false (φ__law_line [.fz (enc deed)]) (p__law_line deed) (fun t => .fz (enc t)) (fun t => [.fz (enc deed)]) := by
  refine fs_mk0 [.fz (enc deed), .clr] rfl (by repeat (first | exact trivial | refine ⟨rfl, ?_⟩)) fun e0 h0 => ?_
  unfold p__law_line
  unfold d__law_line
  refine c_ret ?_
  refine c_join ?_
  refine c_pure h0 (p_c) fun r1 k2 => ?_
  refine f_join1 (x := (" " : Str)) h0 k2 ?_
  refine c_addL ?_
  refine c_pure h0 (p_lst (pa_cons' (p_ixTup (p_fz rfl)) pa_nil') (.cons .f .nil)) fun r3 k4 => ?_
  refine f_addL1 (xs := ([deed.1] : List Str)) h0 k4 .w fun _ h5 => ?_
  refine c_comp ?_
  refine c_it ?_
  refine c_pure h5 (p_ixTup (p_fz rfl)) fun r6 k7 => ?_
  refine f_it (xs := deed.2) h5 k7 .f fun _ h8 => ?_
  refine f_mapC (ψ := Str) h8 (fun _ => tg_n) ?_ fun t13 r14 _ k15 h16 => ?_
  · rintro numberH _ h9
    try dsimp only [List.set_cons_zero, List.set_cons_succ, wipeS] at h9 ⊢
    refine c_cb ?_
    refine c_cons ?_
    refine c_pure h9 (p_fz rfl) fun r10 k11 => ?_
    refine c_cons2 ?_
    refine c_nil ?_
    refine f_cons ?_
    refine f_strI (i := numberH) h9 k11 (fun t12 => ?_)
    exact f_el (v := t12) h9 rk_f
  refine f_addL2 h16 k15 .w fun t17 r18 _ k19 h20 => ?_
  refine f_join2 (x := (" " : Str)) (ys := t17) h20 k19 (fun t21 => ?_)
  refine f_ret ?_
  exact f_rt h20 rk_f .f (.f .nil)
def p__law_number (boxH : Bx) : Res (Int × Bx) :=
(p__law_draw boxH 30).bind fun (t3, boxH) =>
(Res.ok (t3 : Int)).bind fun numberH =>
(p__law_draw boxH 5).bind fun (t10, boxH) =>
(rng1R t10).bind fun xs14 =>
(foldR (fun (turn : Int) (boxH, numberH) =>
(p__law_draw boxH 1000).bind fun (t30, boxH) =>
(Res.ok (((numberH * 1000) + t30) : Int)).bind fun numberH =>
Res.ok (boxH, numberH)) xs14 (boxH, numberH)).bind fun (boxH, numberH) =>
Res.ok (numberH, boxH)
theorem ss__law_number (boxH : Bx) : FS false (φ__law_number [.ol (fzs (boxD boxH))]) (p__law_number boxH) (fun t => .fz (enc t.1)) (fun t => [.ol (fzs (boxD t.2))]) := by
  refine fs_mk0 [.ol (boxD boxH), .clr, .clr] rfl (by repeat (first | exact trivial | refine ⟨rfl, ?_⟩)) fun e0 h0 => ?_
  unfold p__law_number
  unfold d__law_number
  refine c_seq ?_
  refine c_set ?_
  refine c_call ?_
  refine c_pureA h0 (pa_cons' (p_ol rfl) (pa_cons' (p_c) pa_nil')) fun r1 k2 => ?_
  refine f_call h0 k2 (.t rfl (.f .f .nil)) (ss__law_draw boxH 30) (fun _ => (.t rfl (.f .nil))) (fun _ => rk_f) ?_
  rintro ⟨t3, boxH⟩ r4 _ k5 h6
  try dsimp only [List.set_cons_zero, List.set_cons_succ] at h6 ⊢
  refine f_setL (v := (t3 : Int)) (fun v => .fz (enc v)) h6 k5 .f (by decide) fun numberH _ h7 => ?_
  try dsimp only [List.set_cons_zero, List.set_cons_succ] at h7
  refine c_nx ?_
  refine c_seq ?_
  refine c_for ?_
  refine c_rng1 ?_
  refine c_cons ?_
  refine c_call ?_
  refine c_pureA h7 (pa_cons' (p_ol rfl) (pa_cons' (p_c) pa_nil')) fun r8 k9 => ?_
  refine f_call h7 k9 (.t rfl (.f .f .nil)) (ss__law_draw boxH 5) (fun _ => (.t rfl (.f .nil))) (fun _ => rk_f) ?_
  rintro ⟨t10, boxH⟩ r11 _ k12 h13
  try dsimp only [List.set_cons_zero, List.set_cons_succ] at h13 ⊢
  refine c_cons2 ?_
  refine c_nil ?_
  refine f_cons ?_
  refine f_rng1' h13 (rks k12 rks0) fun xs14 => ?_
  refine f_fold (fun (s : Bx × Int) => [.ol (boxD s.1), .fz (enc s.2), .cf]) (fun _ _ => tg_n) ?_ ?_ h13
  · rintro turn ⟨boxH, numberH⟩ _ h25
    try dsimp only [List.set_cons_zero, List.set_cons_succ] at h25 ⊢
    refine c_set ?_
    refine c_op ?_
    refine c_pure h25 (p_mulR (p_fz rfl) (p_c)) fun r26 k27 => ?_
    refine c_op2 ?_
    refine c_call ?_
    refine c_pureA h25 (pa_cons' (p_ol rfl) (pa_cons' (p_c) pa_nil')) fun r28 k29 => ?_
    refine f_call h25 k29 (.t rfl (.f .f .nil)) (ss__law_draw boxH 1000) (fun _ => (.t rfl (.f .nil))) (fun _ => rk_f) ?_
    rintro ⟨t30, boxH⟩ r31 _ k32 h33
    try dsimp only [List.set_cons_zero, List.set_cons_succ] at h33 ⊢
    refine f_int h33 k27 k32 (kk := ?_)
    refine f_setL (v := (((numberH * 1000) + t30) : Int)) (fun v => .fz (enc v)) h33 rk_f .f (by decide) fun numberH _ h34 => ?_
    try dsimp only [List.set_cons_zero, List.set_cons_succ] at h34
    exact f_jc h34
  rintro ⟨boxH, numberH⟩ _ h36
  try dsimp only [List.set_cons_zero, List.set_cons_succ] at h36 ⊢
  refine c_nx ?_
  refine c_ret ?_
  refine c_pure h36 (p_fz rfl) fun r37 k38 => ?_
  refine f_ret ?_
  exact f_rt h36 k38 .f (.t rfl .nil)
def p__law_near (boxH : Bx) (lineH : Str) : Res (Str × Bx) :=
(p__law_draw boxH 900).bind fun (t3, boxH) =>
(lenSR lineH).bind fun t9 =>
(modR t3 ((t9 + 1))).bind fun t12 =>
(Res.ok (t12 : Int)).bind fun at' =>
(p__law_draw boxH 9).bind fun (t18, boxH) =>
(getiS ((" 019caw-x" : Str)) t18).bind fun t22 =>
(Res.ok (t22 : Str)).bind fun sign =>
(p__law_draw boxH 3).bind fun (t26, boxH) =>
(Res.ok (t26 : Int)).bind fun kind =>
if (decide (kind = 0)) = true then
(cutSR lineH none (some at')).bind fun t33 =>
(addSR t33 sign).bind fun t36 =>
(cutSR lineH (some at') none).bind fun t39 =>
(addSR t36 t39).bind fun t40 =>
Res.ok (t40, boxH)
else
if (decide (kind = 1)) = true then
(cutSR lineH none (some at')).bind fun t43 =>
(cutSR lineH (some (at' + 1)) none).bind fun t46 =>
(addSR t43 t46).bind fun t47 =>
Res.ok (t47, boxH)
else
(cutSR lineH none (some at')).bind fun t50 =>
(addSR t50 sign).bind fun t53 =>
(cutSR lineH (some (at' + 1)) none).bind fun t56 =>
(addSR t53 t56).bind fun t57 =>
Res.ok (t57, boxH)
theorem ss__law_near (boxH : Bx) (lineH : Str) : FS false (φ__law_near [.ol (fzs (boxD boxH)), .fz (enc lineH)]) (p__law_near boxH lineH) (fun t => .fz (enc t.1)) (fun t => [.ol (fzs (boxD t.2)), .fz (enc lineH)]) := by
  refine fs_mk0 [.ol (boxD boxH), .fz (enc lineH), .clr, .clr, .clr] rfl (by repeat (first | exact trivial | refine ⟨rfl, ?_⟩)) fun e0 h0 => ?_
  unfold p__law_near
  unfold d__law_near
  refine c_seq ?_
  refine c_set ?_
  refine c_op ?_
  refine c_cb ?_
  refine c_cons ?_
  refine c_call ?_
  refine c_pureA h0 (pa_cons' (p_ol rfl) (pa_cons' (p_c) pa_nil')) fun r1 k2 => ?_
  refine f_call h0 k2 (.t rfl (.f .f .nil)) (ss__law_draw boxH 900) (fun _ => (.t rfl (.f .nil))) (fun _ => rk_f) ?_
  rintro ⟨t3, boxH⟩ r4 _ k5 h6
  try dsimp only [List.set_cons_zero, List.set_cons_succ] at h6 ⊢
  refine c_cons2 ?_
  refine c_nil ?_
  refine f_cons ?_
  refine f_toInt h6 k5 ?_
  refine c_op2 ?_
  refine c_op ?_
  refine c_cb ?_
  refine c_cons ?_
  refine c_pure h6 (p_fz rfl) fun r7 k8 => ?_
  refine c_cons2 ?_
  refine c_nil ?_
  refine f_cons ?_
  refine f_lenS (x := lineH) h6 k8 (fun t9 => ?_)
  refine c_op2 ?_
  refine c_pure h6 (p_c) fun r10 k11 => ?_
  refine f_int h6 rk_f k11 (kk := ?_)
  refine f_mod h6 rk_f rk_f (kk := fun t12 => ?_)
  refine f_setL (v := (t12 : Int)) (fun v => .fz (enc v)) h6 rk_f .f (by decide) fun at' _ h13 => ?_
  try dsimp only [List.set_cons_zero, List.set_cons_succ] at h13
  refine c_nx ?_
  refine c_seq ?_
  refine c_set ?_
  refine c_ix ?_
  refine c_pure h13 (p_c) fun r14 k15 => ?_
  refine c_ix2 ?_
  refine c_call ?_
  refine c_pureA h13 (pa_cons' (p_ol rfl) (pa_cons' (p_c) pa_nil')) fun r16 k17 => ?_
  refine f_call h13 k17 (.t rfl (.f .f .nil)) (ss__law_draw boxH 9) (fun _ => (.t rfl (.f .nil))) (fun _ => rk_f) ?_
  rintro ⟨t18, boxH⟩ r19 _ k20 h21
  try dsimp only [List.set_cons_zero, List.set_cons_succ] at h21 ⊢
  refine f_ixS (x := (" 019caw-x" : Str)) (i := t18) h21 k15 k20 (fun t22 => ?_)
  refine f_setL (v := (t22 : Str)) (fun v => .fz (enc v)) h21 rk_f .f (by decide) fun sign _ h23 => ?_
  try dsimp only [List.set_cons_zero, List.set_cons_succ] at h23
  refine c_nx ?_
  refine c_seq ?_
  refine c_set ?_
  refine c_call ?_
  refine c_pureA h23 (pa_cons' (p_ol rfl) (pa_cons' (p_c) pa_nil')) fun r24 k25 => ?_
  refine f_call h23 k25 (.t rfl (.f .f .nil)) (ss__law_draw boxH 3) (fun _ => (.t rfl (.f .nil))) (fun _ => rk_f) ?_
  rintro ⟨t26, boxH⟩ r27 _ k28 h29
  try dsimp only [List.set_cons_zero, List.set_cons_succ] at h29 ⊢
  refine f_setL (v := (t26 : Int)) (fun v => .fz (enc v)) h29 k28 .f (by decide) fun kind _ h30 => ?_
  try dsimp only [List.set_cons_zero, List.set_cons_succ] at h30
  refine c_nx ?_
  refine c_seq ?_
  refine c_if ?_
  refine c_pureB h30 (b_t (p_eq (x := kind) (y := 0) (p_fz rfl) (p_c))) ?_
  refine f_if (fun _ => ?_) (fun _ => ?_)
  · refine c_ret ?_
    refine c_op ?_
    refine c_op ?_
    refine c_slS ?_
    refine c_pure h30 (p_fz rfl) fun r31 k32 => ?_
    refine f_slS (x := lineH) (lo := none) (hi := (some at')) h30 k32 pp_no (pp_at (p_fz rfl)) (fun t33 => ?_)
    refine c_op2 ?_
    refine c_pure h30 (p_fz rfl) fun r34 k35 => ?_
    refine f_addS (x := t33) (y := sign) h30 rk_f k35 (fun t36 => ?_)
    refine c_op2 ?_
    refine c_slS ?_
    refine c_pure h30 (p_fz rfl) fun r37 k38 => ?_
    refine f_slS (x := lineH) (lo := (some at')) (hi := none) h30 k38 (pp_at (p_fz rfl)) pp_no (fun t39 => ?_)
    refine f_addS (x := t36) (y := t39) h30 rk_f rk_f (fun t40 => ?_)
    refine f_ret ?_
    exact f_rt h30 rk_f .f (.t rfl (.f .nil))
  · refine c_next ?_
    refine c_nx ?_
    refine c_seq ?_
    refine c_if ?_
    refine c_pureB h30 (b_t (p_eq (x := kind) (y := 1) (p_fz rfl) (p_c))) ?_
    refine f_if (fun _ => ?_) (fun _ => ?_)
    · refine c_ret ?_
      refine c_op ?_
      refine c_slS ?_
      refine c_pure h30 (p_fz rfl) fun r41 k42 => ?_
      refine f_slS (x := lineH) (lo := none) (hi := (some at')) h30 k42 pp_no (pp_at (p_fz rfl)) (fun t43 => ?_)
      refine c_op2 ?_
      refine c_slS ?_
      refine c_pure h30 (p_fz rfl) fun r44 k45 => ?_
      refine f_slS (x := lineH) (lo := (some (at' + 1))) (hi := none) h30 k45 (pp_at (p_int (p_fz rfl) (p_c))) pp_no (fun t46 => ?_)
      refine f_addS (x := t43) (y := t46) h30 rk_f rk_f (fun t47 => ?_)
      refine f_ret ?_
      exact f_rt h30 rk_f .f (.t rfl (.f .nil))
    · refine c_next ?_
      refine c_nx ?_
      refine c_ret ?_
      refine c_op ?_
      refine c_op ?_
      refine c_slS ?_
      refine c_pure h30 (p_fz rfl) fun r48 k49 => ?_
      refine f_slS (x := lineH) (lo := none) (hi := (some at')) h30 k49 pp_no (pp_at (p_fz rfl)) (fun t50 => ?_)
      refine c_op2 ?_
      refine c_pure h30 (p_fz rfl) fun r51 k52 => ?_
      refine f_addS (x := t50) (y := sign) h30 rk_f k52 (fun t53 => ?_)
      refine c_op2 ?_
      refine c_slS ?_
      refine c_pure h30 (p_fz rfl) fun r54 k55 => ?_
      refine f_slS (x := lineH) (lo := (some (at' + 1))) (hi := none) h30 k55 (pp_at (p_int (p_fz rfl) (p_c))) pp_no (fun t56 => ?_)
      refine f_addS (x := t53) (y := t56) h30 rk_f rk_f (fun t57 => ?_)
      refine f_ret ?_
      exact f_rt h30 rk_f .f (.t rfl (.f .nil))
noncomputable def p_law (script : List Int) : Res Bool :=
(p__law_box script 0 8).bind fun t3 =>
(Res.ok (t3 : Bx)).bind fun boxH =>
(rng1R 4).bind fun xs10 =>
forR (fun (turn : Int) boxH =>
(p__law_draw boxH 4).bind fun (t248, boxH) =>
(geti (([("cast" : Str), ("withdraw" : Str), ("close" : Str), ("mix" : Str)] : List Str)) t248).bind fun t252 =>
(Res.ok (t252 : Str)).bind fun word =>
(p__law_draw boxH 3).bind fun (t258, boxH) =>
(p__law_draw boxH 4).bind fun (t268, boxH) =>
(pickS ([("cast" : Str), ("withdraw" : Str), ("close" : Str), ("mix" : Str)].zip ([(2 + t258), 1, 0, t268] : List Int)) word).bind fun t277 =>
(Res.ok (t277 : Int)).bind fun many =>
(rng1R many).bind fun xs283 =>
(mapS (fun k' boxH =>
(p__law_number boxH).bind fun (t287, boxH) =>
Res.ok (t287, boxH)) xs283 boxH).bind fun (t291, boxH) =>
(Res.ok ((word, t291) : Str × (List Int))).bind fun deed =>
(p__law_line deed).bind fun t301 =>
(Res.ok (t301 : Str)).bind fun lineH =>
(p_write_deed deed).bind fun t307 =>
(p__law_same t307 lineH).bind fun t312 =>
(if (!t312) = true then Res.ok true else
(p_read_deed lineH).bind fun t328 =>
(p__law_same t328 deed).bind fun t334 =>
Res.ok (!t334)).bind fun t337 =>
if t337 = true then
Res.ok (Lp.out false)
else
(p__law_near boxH lineH).bind fun (t343, boxH) =>
(Res.ok (t343 : Str)).bind fun text =>
(p_read_deed text).bind fun t350 =>
(Res.ok (t350 : Option (Str × (List Int)))).bind fun found =>
if found.isSome = true then
(unO found).bind fun u362 =>
(pickS ([("cast" : Str), ("withdraw" : Str), ("close" : Str), ("mix" : Str)].zip ([2, 1, 0, 0] : List Int)) u362.1).bind fun t365 =>
(Res.ok (t365 : Int)).bind fun few =>
(p__law_line u362).bind fun t369 =>
if ((decide (t369 ≠ text)) || ((decide ((u362.2.length : Int) < few)) || ((memD u362.1 (([("withdraw" : Str), ("close" : Str)] : List Str))) && (decide ((u362.2.length : Int) ≠ few))))) = true then
Res.ok (Lp.out false)
else
(p__law_number boxH).bind fun (t378, boxH) =>
(Res.ok (t378 : Int)).bind fun numberH =>
(strR numberH).bind fun t385 =>
(p_read_number t385).bind fun t386 =>
(p__law_same t386 numberH).bind fun t391 =>
(if (!t391) = true then Res.ok true else
(strR numberH).bind fun t409 =>
(addSR (("0" : Str)) t409).bind fun t410 =>
(p_read_number t410).bind fun t411 =>
Res.ok t411.isSome).bind fun t416 =>
if t416 = true then
Res.ok (Lp.out false)
else
Res.ok (Lp.go boxH)
else
if (decide (text = lineH)) = true then
Res.ok (Lp.out false)
else
(p__law_number boxH).bind fun (t427, boxH) =>
(Res.ok (t427 : Int)).bind fun numberH =>
(strR numberH).bind fun t434 =>
(p_read_number t434).bind fun t435 =>
(p__law_same t435 numberH).bind fun t440 =>
(if (!t440) = true then Res.ok true else
(strR numberH).bind fun t458 =>
(addSR (("0" : Str)) t458).bind fun t459 =>
(p_read_number t459).bind fun t460 =>
Res.ok t460.isSome).bind fun t465 =>
if t465 = true then
Res.ok (Lp.out false)
else
Res.ok (Lp.go boxH)) xs10 boxH fun boxH =>
(mulSR (("9" : Str)) 60).bind fun t481 =>
(p_read_number t481).bind fun t482 =>
(mulSR (("9" : Str)) 60).bind fun t489 =>
(intSR t489).bind fun t490 =>
(if (decide (t482 = (some t490))) = true then
(mulSR (("0" : Str)) 60).bind fun t526 =>
(addSR (("1" : Str)) t526).bind fun t527 =>
(p_read_number t527).bind fun t528 =>
(if t528.isNone = true then
(p_read_number (("" : Str))).bind fun t542 =>
Res.ok t542.isNone
else Res.ok false).bind fun t547 =>
Res.ok t547
else Res.ok false).bind fun t549 =>
Res.ok t549
theorem ss_law (script : List Int) : FS false (φ_law [.fz (.scr script)]) (p_law script) (fun t => .fz (enc t)) (fun t => [.fz (.scr script)]) := by
  refine fs_mk0 [.fz (.scr script), .clr, .clr, .clr, .clr, .clr, .clr, .clr, .clr, .clr, .clr, .clr] rfl (by repeat (first | exact trivial | refine ⟨rfl, ?_⟩)) fun e0 h0 => ?_
  unfold p_law
  unfold d_law
  refine c_seq ?_
  refine c_set ?_
  refine c_call ?_
  refine c_pureA h0 (pa_cons' (p_fz rfl) (pa_cons' (p_c) (pa_cons' (p_c) pa_nil'))) fun r1 k2 => ?_
  refine f_call h0 k2 (.f .f (.f .f (.f .f .nil))) (ss__law_box script 0 8) (fun _ => (.f (.f (.f .nil)))) (fun _ => rk_w) fun t3 r4 _ k5 h6 => ?_
  try dsimp only [List.set_cons_zero, List.set_cons_succ] at h6
  refine f_setL (v := (t3 : Bx)) (fun v => .ol (boxD v)) h6 k5 .w (by decide) fun boxH _ h7 => ?_
  try dsimp only [List.set_cons_zero, List.set_cons_succ] at h7
  refine c_nx ?_
  refine c_seq ?_
  refine c_for ?_
  refine c_rng1 ?_
  refine c_pureA h7 (pa_cons' (p_c) pa_nil') fun r8 k9 => ?_
  refine f_rng1' h7 k9 fun xs10 => ?_
  refine f_for (fun (s : Bx) => [.fz (.scr script), .ol (boxD s), .cf, .cf, .cf, .cf, .cf, .cf, .cf, .cf, .cf, .clr]) (fun _ _ => tg_n) ?_ ?_ h7
  · rintro turn boxH _ h243
    try dsimp only [List.set_cons_zero, List.set_cons_succ] at h243 ⊢
    refine c_seq ?_
    refine c_set ?_
    refine c_ix ?_
    refine c_pure h243 (p_lst (pa_cons' (p_c) (pa_cons' (p_c) (pa_cons' (p_c) (pa_cons' (p_c) pa_nil')))) (.cons .f (.cons .f (.cons .f (.cons .f .nil))))) fun r244 k245 => ?_
    refine c_ix2 ?_
    refine c_call ?_
    refine c_pureA h243 (pa_cons' (p_ol rfl) (pa_cons' (p_c) pa_nil')) fun r246 k247 => ?_
    refine f_call h243 k247 (.t rfl (.f .f .nil)) (ss__law_draw boxH 4) (fun _ => (.t rfl (.f .nil))) (fun _ => rk_f) ?_
    rintro ⟨t248, boxH⟩ r249 _ k250 h251
    try dsimp only [List.set_cons_zero, List.set_cons_succ] at h251 ⊢
    refine f_ix (xs := ([("cast" : Str), ("withdraw" : Str), ("close" : Str), ("mix" : Str)] : List Str)) h251 k245 k250 fun t252 => ?_
    refine f_setL (v := (t252 : Str)) (fun v => .fz (enc v)) h251 rk_f .f (by decide) fun word _ h253 => ?_
    try dsimp only [List.set_cons_zero, List.set_cons_succ] at h253
    refine c_nx ?_
    refine c_seq ?_
    refine c_set ?_
    refine c_getR ?_
    refine c_disp ?_
    refine c_cons ?_
    refine c_op ?_
    refine c_pure h253 (p_c) fun r254 k255 => ?_
    refine c_op2 ?_
    refine c_call ?_
    refine c_pureA h253 (pa_cons' (p_ol rfl) (pa_cons' (p_c) pa_nil')) fun r256 k257 => ?_
    refine f_call h253 k257 (.t rfl (.f .f .nil)) (ss__law_draw boxH 3) (fun _ => (.t rfl (.f .nil))) (fun _ => rk_f) ?_
    rintro ⟨t258, boxH⟩ r259 _ k260 h261
    try dsimp only [List.set_cons_zero, List.set_cons_succ] at h261 ⊢
    refine f_int h261 k255 k260 (kk := ?_)
    refine c_cons2 ?_
    refine c_cons ?_
    refine c_pure h261 (p_c) fun r262 k263 => ?_
    refine c_cons2 ?_
    refine c_cons ?_
    refine c_pure h261 (p_c) fun r264 k265 => ?_
    refine c_cons2 ?_
    refine c_cons ?_
    refine c_call ?_
    refine c_pureA h261 (pa_cons' (p_ol rfl) (pa_cons' (p_c) pa_nil')) fun r266 k267 => ?_
    refine f_call h261 k267 (.t rfl (.f .f .nil)) (ss__law_draw boxH 4) (fun _ => (.t rfl (.f .nil))) (fun _ => rk_f) ?_
    rintro ⟨t268, boxH⟩ r269 _ k270 h271
    try dsimp only [List.set_cons_zero, List.set_cons_succ] at h271 ⊢
    refine c_cons2 ?_
    refine c_nil ?_
    refine f_cons ?_
    refine f_cons ?_
    refine f_cons ?_
    refine f_cons ?_
    refine f_disp (ss := fzs (([(2 + t258), 1, 0, t268] : List Int).map enc)) h271 (rks rk_f (rks k263 (rks k265 (rks k270 rks0)))) (.f .f (.f .f (.f .f (.f .f .nil)))) ⟨rfl, by decide, by decide +kernel⟩ fun r272 _ k273 h274 => ?_
    try dsimp only [List.set_cons_zero, List.set_cons_succ] at h274
    refine c_getR2 ?_
    refine c_pure h274 (p_fz rfl) fun r275 k276 => ?_
    refine f_getR (ks := [("cast" : Str), ("withdraw" : Str), ("close" : Str), ("mix" : Str)]) (vs := ([(2 + t258), 1, 0, t268] : List Int)) (w := word) h274 k273 rfl k276 (fun t277 => ?_)
    refine f_setL (v := (t277 : Int)) (fun v => .fz (enc v)) h274 rk_f .f (by decide) fun many _ h278 => ?_
    try dsimp only [List.set_cons_zero, List.set_cons_succ] at h278
    refine c_nx ?_
    refine c_seq ?_
    refine c_set ?_
    refine c_tup ?_
    refine c_cons ?_
    refine c_pure h278 (p_fz rfl) fun r279 k280 => ?_
    refine c_cons2 ?_
    refine c_cons ?_
    refine c_comp ?_
    refine c_rng1 ?_
    refine c_pureA h278 (pa_cons' (p_fz rfl) pa_nil') fun r281 k282 => ?_
    refine f_rng1' h278 k282 fun xs283 => ?_
    refine f_mapS (ψ := Int) (fun (s : Bx) => [.fz (.scr script), .ol (boxD s), .fz (enc turn), .fz (enc word), .fz (enc many), .cf, .cf, .cf, .cf, .cf, .cf, .clr]) h278 (by first | exact W.refl _ | (repeat (first | exact W.nil | refine W.rf ?_ | refine W.cz ?_ | refine W.cc ?_ | refine W.vz ?_ | refine W.vo ?_ | refine W.an ?_))) (fun _ _ => tg_n) ?_ (fun (s : Bx) => [.fz (.scr script), .ol (boxD s), .fz (enc turn), .fz (enc word), .fz (enc many), .cf, .cf, .cf, .cf, .cf, .cf, .clr]) ?_
    · rintro k' boxH _ h284
      try dsimp only [List.set_cons_zero, List.set_cons_succ] at h284 ⊢
      refine c_call ?_
      refine c_pureA h284 (pa_cons' (p_ol rfl) pa_nil') fun r285 k286 => ?_
      refine f_call h284 k286 (.t rfl .nil) (ss__law_number boxH) (fun _ => (.t rfl .nil)) (fun _ => rk_f) ?_
      rintro ⟨t287, boxH⟩ r288 _ k289 h290
      try dsimp only [List.set_cons_zero, List.set_cons_succ] at h290 ⊢
      exact f_elS (v := t287) h290 k289
    rintro t291 boxH r292 _ k293 h294
    try dsimp only [List.set_cons_zero, List.set_cons_succ] at h294 ⊢
    refine c_cons2 ?_
    refine c_nil ?_
    refine f_cons ?_
    refine f_cons ?_
    refine f_tup h294 (rks k280 (rks k293 rks0)) (.cons .f (.cons .w .nil)) (Nat.le_of_ble_eq_true rfl) fun r295 _ k296 h297 => ?_
    refine f_setL (v := ((word, t291) : Str × (List Int))) (fun v => .fz (enc v)) h297 k296 .f (by decide) fun deed _ h298 => ?_
    try dsimp only [List.set_cons_zero, List.set_cons_succ] at h298
    refine c_nx ?_
    refine c_seq ?_
    refine c_set ?_
    refine c_callB ?_
    refine c_pureA h298 (pa_cons' (p_fz rfl) pa_nil') fun r299 k300 => ?_
    refine f_callB h298 k300 (.cons .f .nil) rfl (ss__law_line deed) imm_S fun t301 r302 k303 => ?_
    refine f_setL (v := (t301 : Str)) (fun v => .fz (enc v)) h298 k303 .f (by decide) fun lineH _ h304 => ?_
    try dsimp only [List.set_cons_zero, List.set_cons_succ] at h304
    refine c_nx ?_
    refine c_seq ?_
    refine c_if ?_
    refine c_or ?_
    refine c_not ?_
    refine c_tru ?_
    refine c_callB ?_
    refine c_cons ?_
    refine c_callB ?_
    refine c_pureA h304 (pa_cons' (p_fz rfl) pa_nil') fun r305 k306 => ?_
    refine f_callB h304 k306 (.cons .f .nil) rfl (ss_write_deed deed) imm_S fun t307 r308 k309 => ?_
    refine c_cons2 ?_
    refine c_cons ?_
    refine c_pure h304 (p_fz rfl) fun r310 k311 => ?_
    refine c_cons2 ?_
    refine c_nil ?_
    refine f_cons ?_
    refine f_cons ?_
    refine f_callB h304 (rks k309 (rks k311 rks0)) (.cons .f (.cons .f .nil)) rfl (ss__law_same t307 lineH) imm_B fun t312 r313 k314 => ?_
    refine f_truB h304 k314 ?_
    refine f_not ?_
    refine f_or h304 (fun _ => ?_) fun t337 _ h338 => ?_
    · refine c_not ?_
      refine c_tru ?_
      refine c_callB ?_
      refine c_cons ?_
      refine c_call ?_
      refine c_pureA h304 (pa_cons' (p_fz rfl) pa_nil') fun r326 k327 => ?_
      refine f_call h304 k327 (.f .f .nil) (ss_read_deed lineH) (fun _ => (.f .nil)) (fun _ => rk_f) fun t328 r329 _ k330 h331 => ?_
      try dsimp only [List.set_cons_zero, List.set_cons_succ] at h331
      refine c_cons2 ?_
      refine c_cons ?_
      refine c_pure h331 (p_fz rfl) fun r332 k333 => ?_
      refine c_cons2 ?_
      refine c_nil ?_
      refine f_cons ?_
      refine f_cons ?_
      refine f_callB h331 (rks k330 (rks k333 rks0)) (.cons .f (.cons .f .nil)) rfl (ss__law_same t328 deed) imm_B fun t334 r335 k336 => ?_
      refine f_truB h331 k336 ?_
      refine f_not ?_
      exact f_tb (h331.weak (by first | exact W.refl _ | (repeat (first | exact W.nil | refine W.rf ?_ | refine W.cz ?_ | refine W.cc ?_ | refine W.vz ?_ | refine W.vo ?_ | refine W.an ?_))))
    refine f_if (fun _ => ?_) (fun _ => ?_)
    · refine c_ret ?_
      refine c_pure h338 (p_c) fun r339 k340 => ?_
      refine f_ret ?_
      refine f_out ?_
      exact f_rt h338 k340 .f (.f .nil)
    · refine c_next ?_
      refine c_nx ?_
      refine c_seq ?_
      refine c_set ?_
      refine c_call ?_
      refine c_pureA h338 (pa_cons' (p_ol rfl) (pa_cons' (p_fz rfl) pa_nil')) fun r341 k342 => ?_
      refine f_call h338 k342 (.t rfl (.f .f .nil)) (ss__law_near boxH lineH) (fun _ => (.t rfl (.f .nil))) (fun _ => rk_f) ?_
      rintro ⟨t343, boxH⟩ r344 _ k345 h346
      try dsimp only [List.set_cons_zero, List.set_cons_succ] at h346 ⊢
      refine f_setL (v := (t343 : Str)) (fun v => .fz (enc v)) h346 k345 .f (by decide) fun text _ h347 => ?_
      try dsimp only [List.set_cons_zero, List.set_cons_succ] at h347
      refine c_nx ?_
      refine c_seq ?_
      refine c_set ?_
      refine c_call ?_
      refine c_pureA h347 (pa_cons' (p_fz rfl) pa_nil') fun r348 k349 => ?_
      refine f_call h347 k349 (.f .f .nil) (ss_read_deed text) (fun _ => (.f .nil)) (fun _ => rk_f) fun t350 r351 _ k352 h353 => ?_
      try dsimp only [List.set_cons_zero, List.set_cons_succ] at h353
      refine f_setL (v := (t350 : Option (Str × (List Int)))) (fun v => .fz (enc v)) h353 k352 .f (by decide) fun found _ h354 => ?_
      try dsimp only [List.set_cons_zero, List.set_cons_succ] at h354
      refine c_nx ?_
      refine c_seq ?_
      refine c_if ?_
      refine c_pureB h354 (b_t (p_notN (x := found) (p_fz rfl) (p_c))) ?_
      refine f_if (fun _ => ?_) (fun _ => ?_)
      · refine c_seq ?_
        refine c_set ?_
        refine c_getR ?_
        refine c_disp ?_
        refine c_pureA h354 (pa_cons' (p_c) (pa_cons' (p_c) (pa_cons' (p_c) (pa_cons' (p_c) pa_nil')))) fun r355 k356 => ?_
        refine f_disp (ss := fzs (([2, 1, 0, 0] : List Int).map enc)) h354 k356 (.f .f (.f .f (.f .f (.f .f .nil)))) ⟨rfl, by decide, by decide +kernel⟩ fun r357 _ k358 h359 => ?_
        try dsimp only [List.set_cons_zero, List.set_cons_succ] at h359
        refine c_getR2 ?_
        refine c_ix ?_
        refine c_pure h359 (p_fz rfl) fun r360 k361 => ?_
        refine f_unO fun u362 q422 => ?_
        subst q422
        refine c_ix2 ?_
        refine c_pure h359 (p_c) fun r363 k364 => ?_
        refine f_ixTup h359 k361 k364 rfl ?_
        refine f_getR (ks := [("cast" : Str), ("withdraw" : Str), ("close" : Str), ("mix" : Str)]) (vs := ([2, 1, 0, 0] : List Int)) (w := u362.1) h359 k358 rfl rk_f (fun t365 => ?_)
        refine f_setL (v := (t365 : Int)) (fun v => .fz (enc v)) h359 rk_f .f (by decide) fun few _ h366 => ?_
        try dsimp only [List.set_cons_zero, List.set_cons_succ] at h366
        refine c_nx ?_
        refine c_if ?_
        refine c_or ?_
        refine c_t ?_
        refine c_op ?_
        refine c_callB ?_
        refine c_pureA h366 (pa_cons' (p_fz rfl) pa_nil') fun r367 k368 => ?_
        refine f_callB h366 k368 (.cons .f .nil) rfl (ss__law_line u362) imm_S fun t369 r370 k371 => ?_
        refine c_op2 ?_
        refine c_pure h366 (p_fz rfl) fun r372 k373 => ?_
        refine f_ne (u := t369) (v := text) h366 k371 k373 ?_
        refine f_t h366 rk_f ?_
        refine f_orP h366 (b_or (b_t (p_cmp (p_len (p_ixTup (p_fz rfl))) (p_fz rfl))) (b_and (b_t (p_in (x := u362.1) (xs := ([("withdraw" : Str), ("close" : Str)] : List Str)) (p_ixTup (p_fz rfl)) (p_lst (pa_cons' (p_c) (pa_cons' (p_c) pa_nil')) (.cons .f (.cons .f .nil))))) (b_t (p_ne (x := (u362.2.length : Int)) (y := few) (p_len (p_ixTup (p_fz rfl))) (p_fz rfl))))) ?_
        refine f_if (fun _ => ?_) (fun _ => ?_)
        · refine c_ret ?_
          refine c_pure h366 (p_c) fun r374 k375 => ?_
          refine f_ret ?_
          refine f_out ?_
          exact f_rt h366 k375 .f (.f .nil)
        · refine c_next ?_
          refine c_nx ?_
          refine c_seq ?_
          refine c_set ?_
          refine c_call ?_
          refine c_pureA h366 (pa_cons' (p_ol rfl) pa_nil') fun r376 k377 => ?_
          refine f_call h366 k377 (.t rfl .nil) (ss__law_number boxH) (fun _ => (.t rfl .nil)) (fun _ => rk_f) ?_
          rintro ⟨t378, boxH⟩ r379 _ k380 h381
          try dsimp only [List.set_cons_zero, List.set_cons_succ] at h381 ⊢
          refine f_setL (v := (t378 : Int)) (fun v => .fz (enc v)) h381 k380 .f (by decide) fun numberH _ h382 => ?_
          try dsimp only [List.set_cons_zero, List.set_cons_succ] at h382
          refine c_nx ?_
          refine c_if ?_
          refine c_or ?_
          refine c_not ?_
          refine c_tru ?_
          refine c_callB ?_
          refine c_cons ?_
          refine c_callB ?_
          refine c_cons ?_
          refine c_cb ?_
          refine c_cons ?_
          refine c_pure h382 (p_fz rfl) fun r383 k384 => ?_
          refine c_cons2 ?_
          refine c_nil ?_
          refine f_cons ?_
          refine f_strI (i := numberH) h382 k384 (fun t385 => ?_)
          refine c_cons2 ?_
          refine c_nil ?_
          refine f_cons ?_
          refine f_callB h382 (rks rk_f rks0) (.cons .f .nil) rfl (ss_read_number t385) imm_OI fun t386 r387 k388 => ?_
          refine c_cons2 ?_
          refine c_cons ?_
          refine c_pure h382 (p_fz rfl) fun r389 k390 => ?_
          refine c_cons2 ?_
          refine c_nil ?_
          refine f_cons ?_
          refine f_cons ?_
          refine f_callB h382 (rks k388 (rks k390 rks0)) (.cons .f (.cons .f .nil)) rfl (ss__law_same t386 numberH) imm_B fun t391 r392 k393 => ?_
          refine f_truB h382 k393 ?_
          refine f_not ?_
          refine f_or h382 (fun _ => ?_) fun t416 _ h417 => ?_
          · refine c_t ?_
            refine c_op ?_
            refine c_callB ?_
            refine c_cons ?_
            refine c_op ?_
            refine c_pure h382 (p_c) fun r405 k406 => ?_
            refine c_op2 ?_
            refine c_cb ?_
            refine c_cons ?_
            refine c_pure h382 (p_fz rfl) fun r407 k408 => ?_
            refine c_cons2 ?_
            refine c_nil ?_
            refine f_cons ?_
            refine f_strI (i := numberH) h382 k408 (fun t409 => ?_)
            refine f_addS (x := ("0" : Str)) (y := t409) h382 k406 rk_f (fun t410 => ?_)
            refine c_cons2 ?_
            refine c_nil ?_
            refine f_cons ?_
            refine f_callB h382 (rks rk_f rks0) (.cons .f .nil) rfl (ss_read_number t410) imm_OI fun t411 r412 k413 => ?_
            refine c_op2 ?_
            refine c_pure h382 (p_c) fun r414 k415 => ?_
            refine f_notN (u := t411) h382 k413 k415 ?_
            refine f_t h382 rk_f ?_
            exact f_tb (h382.weak (by first | exact W.refl _ | (repeat (first | exact W.nil | refine W.rf ?_ | refine W.cz ?_ | refine W.cc ?_ | refine W.vz ?_ | refine W.vo ?_ | refine W.an ?_))))
          refine f_if (fun _ => ?_) (fun _ => ?_)
          · refine c_ret ?_
            refine c_pure h417 (p_c) fun r418 k419 => ?_
            refine f_ret ?_
            refine f_out ?_
            exact f_rt h417 k419 .f (.f .nil)
          · refine c_next ?_
            exact f_go h417
      · refine c_if ?_
        refine c_pureB h354 (b_t (p_eq (x := text) (y := lineH) (p_fz rfl) (p_fz rfl))) ?_
        refine f_if (fun _ => ?_) (fun _ => ?_)
        · refine c_ret ?_
          refine c_pure h354 (p_c) fun r423 k424 => ?_
          refine f_ret ?_
          refine f_out ?_
          exact f_rt h354 k424 .f (.f .nil)
        · refine c_next ?_
          refine c_nx ?_
          refine c_seq ?_
          refine c_set ?_
          refine c_call ?_
          refine c_pureA h354 (pa_cons' (p_ol rfl) pa_nil') fun r425 k426 => ?_
          refine f_call h354 k426 (.t rfl .nil) (ss__law_number boxH) (fun _ => (.t rfl .nil)) (fun _ => rk_f) ?_
          rintro ⟨t427, boxH⟩ r428 _ k429 h430
          try dsimp only [List.set_cons_zero, List.set_cons_succ] at h430 ⊢
          refine f_setL (v := (t427 : Int)) (fun v => .fz (enc v)) h430 k429 .f (by decide) fun numberH _ h431 => ?_
          try dsimp only [List.set_cons_zero, List.set_cons_succ] at h431
          refine c_nx ?_
          refine c_if ?_
          refine c_or ?_
          refine c_not ?_
          refine c_tru ?_
          refine c_callB ?_
          refine c_cons ?_
          refine c_callB ?_
          refine c_cons ?_
          refine c_cb ?_
          refine c_cons ?_
          refine c_pure h431 (p_fz rfl) fun r432 k433 => ?_
          refine c_cons2 ?_
          refine c_nil ?_
          refine f_cons ?_
          refine f_strI (i := numberH) h431 k433 (fun t434 => ?_)
          refine c_cons2 ?_
          refine c_nil ?_
          refine f_cons ?_
          refine f_callB h431 (rks rk_f rks0) (.cons .f .nil) rfl (ss_read_number t434) imm_OI fun t435 r436 k437 => ?_
          refine c_cons2 ?_
          refine c_cons ?_
          refine c_pure h431 (p_fz rfl) fun r438 k439 => ?_
          refine c_cons2 ?_
          refine c_nil ?_
          refine f_cons ?_
          refine f_cons ?_
          refine f_callB h431 (rks k437 (rks k439 rks0)) (.cons .f (.cons .f .nil)) rfl (ss__law_same t435 numberH) imm_B fun t440 r441 k442 => ?_
          refine f_truB h431 k442 ?_
          refine f_not ?_
          refine f_or h431 (fun _ => ?_) fun t465 _ h466 => ?_
          · refine c_t ?_
            refine c_op ?_
            refine c_callB ?_
            refine c_cons ?_
            refine c_op ?_
            refine c_pure h431 (p_c) fun r454 k455 => ?_
            refine c_op2 ?_
            refine c_cb ?_
            refine c_cons ?_
            refine c_pure h431 (p_fz rfl) fun r456 k457 => ?_
            refine c_cons2 ?_
            refine c_nil ?_
            refine f_cons ?_
            refine f_strI (i := numberH) h431 k457 (fun t458 => ?_)
            refine f_addS (x := ("0" : Str)) (y := t458) h431 k455 rk_f (fun t459 => ?_)
            refine c_cons2 ?_
            refine c_nil ?_
            refine f_cons ?_
            refine f_callB h431 (rks rk_f rks0) (.cons .f .nil) rfl (ss_read_number t459) imm_OI fun t460 r461 k462 => ?_
            refine c_op2 ?_
            refine c_pure h431 (p_c) fun r463 k464 => ?_
            refine f_notN (u := t460) h431 k462 k464 ?_
            refine f_t h431 rk_f ?_
            exact f_tb (h431.weak (by first | exact W.refl _ | (repeat (first | exact W.nil | refine W.rf ?_ | refine W.cz ?_ | refine W.cc ?_ | refine W.vz ?_ | refine W.vo ?_ | refine W.an ?_))))
          refine f_if (fun _ => ?_) (fun _ => ?_)
          · refine c_ret ?_
            refine c_pure h466 (p_c) fun r467 k468 => ?_
            refine f_ret ?_
            refine f_out ?_
            exact f_rt h466 k468 .f (.f .nil)
          · refine c_next ?_
            exact f_go h466
  rintro boxH _ h476
  try dsimp only [List.set_cons_zero, List.set_cons_succ] at h476 ⊢
  refine c_nx ?_
  refine c_ret ?_
  refine c_andV ?_
  refine c_op ?_
  refine c_callB ?_
  refine c_cons ?_
  refine c_op ?_
  refine c_pure h476 (p_c) fun r477 k478 => ?_
  refine c_op2 ?_
  refine c_pure h476 (p_c) fun r479 k480 => ?_
  refine f_mulS (x := ("9" : Str)) (n := 60) h476 k478 k480 (fun t481 => ?_)
  refine c_cons2 ?_
  refine c_nil ?_
  refine f_cons ?_
  refine f_callB h476 (rks rk_f rks0) (.cons .f .nil) rfl (ss_read_number t481) imm_OI fun t482 r483 k484 => ?_
  refine c_op2 ?_
  refine c_cb ?_
  refine c_cons ?_
  refine c_op ?_
  refine c_pure h476 (p_c) fun r485 k486 => ?_
  refine c_op2 ?_
  refine c_pure h476 (p_c) fun r487 k488 => ?_
  refine f_mulS (x := ("9" : Str)) (n := 60) h476 k486 k488 (fun t489 => ?_)
  refine c_cons2 ?_
  refine c_nil ?_
  refine f_cons ?_
  refine f_intS (x := t489) h476 rk_f (fun t490 => ?_)
  refine f_eq (u := t482) (v := (some t490)) h476 k484 rk_f ?_
  refine f_andV h476 rk_f (fun _ => ?_) fun t549 _ h550 => ?_
  · refine c_andV ?_
    refine c_op ?_
    refine c_callB ?_
    refine c_cons ?_
    refine c_op ?_
    refine c_pure h476 (p_c) fun r520 k521 => ?_
    refine c_op2 ?_
    refine c_op ?_
    refine c_pure h476 (p_c) fun r522 k523 => ?_
    refine c_op2 ?_
    refine c_pure h476 (p_c) fun r524 k525 => ?_
    refine f_mulS (x := ("0" : Str)) (n := 60) h476 k523 k525 (fun t526 => ?_)
    refine f_addS (x := ("1" : Str)) (y := t526) h476 k521 rk_f (fun t527 => ?_)
    refine c_cons2 ?_
    refine c_nil ?_
    refine f_cons ?_
    refine f_callB h476 (rks rk_f rks0) (.cons .f .nil) rfl (ss_read_number t527) imm_OI fun t528 r529 k530 => ?_
    refine c_op2 ?_
    refine c_pure h476 (p_c) fun r531 k532 => ?_
    refine f_isN (u := t528) h476 k530 k532 ?_
    refine f_andV h476 rk_f (fun _ => ?_) fun t547 _ h548 => ?_
    · refine c_op ?_
      refine c_callB ?_
      refine c_pureA h476 (pa_cons' (p_c) pa_nil') fun r540 k541 => ?_
      refine f_callB h476 k541 (.cons .f .nil) rfl (ss_read_number (("" : Str))) imm_OI fun t542 r543 k544 => ?_
      refine c_op2 ?_
      refine c_pure h476 (p_c) fun r545 k546 => ?_
      refine f_isN (u := t542) h476 k544 k546 ?_
      exact f_ve (h476.weak (by first | exact W.refl _ | (repeat (first | exact W.nil | refine W.rf ?_ | refine W.cz ?_ | refine W.cc ?_ | refine W.vz ?_ | refine W.vo ?_ | refine W.an ?_)))) rk_f
    exact f_ve (h548.weak (by first | exact W.refl _ | (repeat (first | exact W.nil | refine W.rf ?_ | refine W.cz ?_ | refine W.cc ?_ | refine W.vz ?_ | refine W.vo ?_ | refine W.an ?_)))) rk_f
  refine f_ret ?_
  exact f_rt h550 rk_f .f (.f .nil)
open TL (tl spl joinL)
def W4 : List Str := ["cast", "withdraw", "close", "mix"]
def fitB (w : Str) (k : Nat) : Bool := if w = "cast" then decide (2 ≤ k) else if w = "withdraw" then decide (k = 1) else decide (w = "mix") || decide (k = 0)
def rdO (line : Str) : Option (Str × List Int) := match Txt.split line (" " : Str) with
  | w :: ps => if w ∈ W4 then (match (ps.map rnO).mapM id with
    | some ns => if fitB w ns.length = true then some (w, ns) else none
    | none => none) else none
  | [] => none
theorem fits_ok (w : Str) (xs : List (Option Int)) : p_fits w xs = .ok (fitB w xs.length) := by
  unfold p_fits fitB
  by_cases c1 : w = "cast"
  · rw [if_pos (decide_eq_true c1), if_pos c1]; congr 1; rw [decide_eq_decide]; omega
  · rw [if_neg (by rw [decide_eq_true_iff]; exact c1), if_neg c1]
    by_cases c2 : w = "withdraw"
    · rw [if_pos (decide_eq_true c2), if_pos c2]; congr 1; rw [decide_eq_decide]; omega
    · rw [if_neg (by rw [decide_eq_true_iff]; exact c2), if_neg c2]
      congr 2
      cases xs <;> simp
theorem cut_one {α : Type} (x : α) (xs : List α) : cutL (x :: xs) (some 1) none = xs := by
  unfold cutL
  rw [show (1 : Int) = ((1 : Nat) : Int) from rfl, HT.sIx_nat, HT.sIx_none]
  have : min 1 (x :: xs).length = 1 := by rw [List.length_cons]; omega
  rw [this, List.take_of_length_le (by rw [List.length_drop]; exact Nat.le_refl _)]
  rfl
theorem memD_iff {α : Type} [DecidableEq α] {x : α} {xs : List α} : memD x xs = true ↔ x ∈ xs := decide_eq_true_iff
theorem mapM_none {α : Type} : ∀ {xs : List (Option α)}, none ∈ xs → xs.mapM id = none
  | [], h => by cases h
  | x :: xs, h => by
    rw [List.mapM_cons]
    cases x with
    | none => rfl
    | some y =>
      have : none ∈ xs := by
        rcases List.mem_cons.mp h with q | q
        · cases q
        · exact q
      rw [mapM_none this]; rfl
theorem mapM_some {α : Type} : ∀ {xs : List (Option α)}, none ∉ xs → ∃ ys, xs.mapM id = some ys ∧ xs = ys.map some
  | [], _ => ⟨[], rfl, rfl⟩
  | x :: xs, h => by
    obtain ⟨ys, e, e2⟩ := mapM_some (xs := xs) fun q => h (List.mem_cons_of_mem _ q)
    cases x with
    | none => exact absurd List.mem_cons_self h
    | some y => exact ⟨y :: ys, by rw [List.mapM_cons, e]; rfl, by rw [e2]; rfl⟩
theorem rd_ok {line : Str} (hl : line.length ≤ 10000) : p_read_deed line = .ok (rdO line) := by
  unfold p_read_deed rdO
  rw [splitR_ok sp_sep (by omega), Res.bind_ok, Res.bind_ok]
  have hp := fun (p : Str) (h : p ∈ Txt.split line (" " : Str)) => part_len sp_sep h
  have hc := parts_len (x := line) sp_sep
  cases e : Txt.split line (" " : Str) with
  | nil => exact absurd e (split_ne sp_sep)
  | cons w ps =>
    rw [e] at hp hc
    have g : geti (w :: ps) 0 = .ok w := geti_nat (xs := w :: ps) (i := 0) (by simp)
    rw [g, Res.bind_ok]
    dsimp only
    by_cases cw : w ∈ W4
    · rw [if_neg (by rw [decide_eq_true_iff]; exact fun q => q cw), if_pos cw, cut_one, mapC_ok (g := rnO) (by rw [List.length_cons] at hc; omega) fun p h => by rw [rn_ok (by have := hp p (List.mem_cons_of_mem _ h); omega), Res.bind_ok], Res.bind_ok, Res.bind_ok]
      by_cases cn : none ∈ ps.map rnO
      · have em : memD none (ps.map rnO) = true := memD_iff.mpr cn
        rw [em, if_pos rfl, Res.bind_ok, if_pos rfl, mapM_none cn]
      · obtain ⟨ns, e1, e2⟩ := mapM_some cn
        have ln : (ps.map rnO).length = ns.length := by rw [e2, List.length_map]
        have em : memD none (ps.map rnO) = false := by rw [Bool.eq_false_iff]; exact fun q => cn (memD_iff.mp q)
        rw [em, if_neg (by decide), Res.bind_ok, fits_ok, Res.bind_ok, Res.bind_ok, ln, e1]
        dsimp only
        cases fitB w ns.length with
        | false => rfl
        | true =>
          rw [if_neg (by decide)]
          unfold unOs
          rw [e1]
          rfl
    · rw [if_pos (by rw [decide_eq_true_iff]; exact cw), if_neg cw]
def lineT (w : Str) (ns : List Int) : Str := Txt.join (" " : Str) (w :: ns.map fun n => numT n.toNat)
def NumsOk (ns : List Int) : Prop := ∀ n ∈ ns, 0 ≤ n ∧ n.toNat < 10 ^ 60
theorem nums_len : ∀ {ns : List Int}, NumsOk ns → ((ns.map fun n => numT n.toNat).map (·.length)).sum ≤ 60 * ns.length
  | [], _ => by simp
  | n :: ns, h => by
    have := nums_len (ns := ns) fun x hx => h x (List.mem_cons_of_mem _ hx)
    have := numT_len60 (h n List.mem_cons_self).2
    simp only [List.map_cons, List.sum_cons, List.length_cons] at *
    omega
theorem line_ok {w : Str} {ns : List Int} (h : NumsOk ns) (hn : ns.length ≤ 11000) (hw : w.length ≤ 10000) : p__law_line (w, ns) = .ok (lineT w ns) := by
  unfold p__law_line
  rw [mapC_ok (g := fun n : Int => numT n.toNat) (by show ns.length ≤ _; omega) fun n hm => ?_, Res.bind_ok, catR_ok (by rw [List.length_map]; show 1 + ns.length ≤ _; omega), Res.bind_ok, joinR_ok sp_sep ?_, Res.bind_ok]
  · rfl
  · have := nums_len h
    show ((w :: ns.map fun n => numT n.toNat).map (·.length)).sum + (w :: ns.map fun n => numT n.toNat).length ≤ _
    simp only [List.map_cons, List.sum_cons, List.length_cons, List.length_map] at *
    omega
  · have q := h n hm
    rw [← Int.toNat_of_nonneg q.1, strR_ok (Nat.lt_trans q.2 (by decide +kernel)), Res.bind_ok, Int.toNat_natCast]
theorem write_ok {w : Str} {ns : List Int} (h : NumsOk ns) (hn : ns.length ≤ 11000) (hw : w.length ≤ 10000) : p_write_deed (w, ns) = .ok (lineT w ns) := line_ok h hn hw
theorem W4_free {w : Str} (h : w ∈ W4) : 32 ∉ tl w ∧ w.length ≤ 8 ∧ ∀ c ∈ tl w, c < 0x110000 :=
  (by decide +kernel : ∀ w ∈ W4, 32 ∉ tl w ∧ w.length ≤ 8 ∧ ∀ c ∈ tl w, c < 0x110000) w h
theorem rd_line {w : Str} {ns : List Int} (hw : w ∈ W4) (hf : fitB w ns.length = true) (h : NumsOk ns) : rdO (lineT w ns) = some (w, ns) := by
  unfold rdO lineT
  rw [split_join sp_sep (by simp) fun p hp => ?_]
  · dsimp only
    have e : ((ns.map fun n => numT n.toNat).map rnO) = ns.map some := by
      rw [List.map_map]
      refine List.map_congr_left fun n hn => ?_
      show rnO (numT n.toNat) = some n
      rw [rn_num (h n hn).2, Int.toNat_of_nonneg (h n hn).1]
    have e2 : ((ns.map some).mapM id : Option (List Int)) = some ns := by
      have : none ∉ ns.map some := fun q => by
        obtain ⟨_, _, z⟩ := List.mem_map.mp q
        cases z
      obtain ⟨ys, a, b⟩ := mapM_some this
      have : ns = ys := (List.map_inj_right (fun _ _ z => Option.some.inj z)).mp b
      rw [a, this]
    rw [if_pos hw, e, e2]
    dsimp only
    rw [if_pos hf]
  · rcases List.mem_cons.mp hp with rfl | hp
    · exact (W4_free hw).1
    · obtain ⟨n, _, rfl⟩ := List.mem_map.mp hp
      rw [numT_tl]
      exact TL.numL_free (.inl (by decide))
theorem rd_some {line : Str} {w : Str} {ns : List Int} (h : rdO line = some (w, ns)) : w ∈ W4 ∧ fitB w ns.length = true ∧ NumsOk ns ∧ lineT w ns = line ∧ ns.length ≤ line.length := by
  unfold rdO at h
  cases e : Txt.split line (" " : Str) with
  | nil => exact absurd e (split_ne sp_sep)
  | cons w' ps =>
    rw [e] at h
    dsimp only at h
    by_cases cw : w' ∈ W4
    · rw [if_pos cw] at h
      cases q : (ps.map rnO).mapM id with
      | none => rw [q] at h; cases h
      | some ns' =>
        rw [q] at h
        dsimp only at h
        by_cases cf : fitB w' ns'.length = true
        · rw [if_pos cf] at h
          cases h
          have e1 := mapM_id_some q
          have key : ∀ (ps : List Str) (ns : List Int), ps.map rnO = ns.map some → NumsOk ns ∧ ps = ns.map fun n => numT n.toNat := by
            intro ps
            induction ps with
            | nil =>
              intro ns h
              cases ns with
              | nil => exact ⟨fun _ h => absurd h List.not_mem_nil, rfl⟩
              | cons _ _ => cases h
            | cons p ps ih =>
              intro ns h
              cases ns with
              | nil => cases h
              | cons n ns =>
                simp only [List.map_cons, List.cons.injEq] at h
                obtain ⟨a, b⟩ := ih ns h.2
                obtain ⟨k, rfl, rfl, lt⟩ := rn_some h.1
                refine ⟨fun x hx => ?_, ?_⟩
                · rcases List.mem_cons.mp hx with rfl | hx
                  · exact ⟨by omega, by rw [Int.toNat_natCast]; exact lt⟩
                  · exact a x hx
                · rw [List.map_cons, Int.toNat_natCast, ← b]
          obtain ⟨a, b⟩ := key ps ns e1
          have hc := parts_len (x := line) sp_sep
          rw [e, List.length_cons] at hc
          refine ⟨cw, cf, a, ?_, ?_⟩
          · unfold lineT
            rw [← b, ← e, join_split sp_sep]
          · have : ps.length = ns.length := by rw [b, List.length_map]
            omega
        · rw [if_neg cf] at h; cases h
    · rw [if_neg cw] at h; cases h
theorem mem_join {s c : Nat} : ∀ {ps : List (List Nat)}, c ∈ joinL [s] ps → c = s ∨ ∃ p ∈ ps, c ∈ p
  | [], h => by cases h
  | [p], h => .inr ⟨p, List.mem_cons_self, h⟩
  | p :: q :: r, h => by
    rw [joinL_cons (by simp)] at h
    rcases List.mem_append.mp h with h | h
    · exact .inr ⟨p, List.mem_cons_self, h⟩
    · rcases List.mem_append.mp h with h | h
      · exact .inl (by simpa using h)
      · rcases mem_join h with h | ⟨x, h1, h2⟩
        · exact .inl h
        · exact .inr ⟨x, List.mem_cons_of_mem _ h1, h2⟩
theorem line_signs {w : Str} {ns : List Int} (hw : w ∈ W4) : ∀ c ∈ tl (lineT w ns), c < 0x110000 := fun c hc => by
  unfold lineT at hc
  rw [join_tl sp_sep] at hc
  rcases mem_join hc with rfl | ⟨p, hp, hc2⟩
  · decide
  · obtain ⟨x, hx, rfl⟩ := List.mem_map.mp hp
    rcases List.mem_cons.mp hx with rfl | hx
    · exact (W4_free hw).2.2 c hc2
    · obtain ⟨n, _, rfl⟩ := List.mem_map.mp hx
      rw [numT_tl] at hc2
      have := TL.numL_digits n.toNat c hc2
      omega
theorem line_len {w : Str} {ns : List Int} (hw : w ∈ W4) (h : NumsOk ns) : (lineT w ns).length ≤ 8 + 61 * ns.length := by
  have e := join_len sp_sep (ps := w :: ns.map fun n => numT n.toNat) (by simp)
  have := nums_len h
  have := (W4_free hw).2.1
  unfold lineT
  simp only [List.map_cons, List.sum_cons, List.length_cons, List.length_map] at *
  omega
def Small (ns : List Int) : Prop := ∀ n ∈ ns, 0 ≤ n ∧ n.toNat < 10 ^ 15
theorem Small.ok {ns : List Int} (h : Small ns) : NumsOk ns := fun n hn => ⟨(h n hn).1, Nat.lt_trans (h n hn).2 (by decide +kernel)⟩
theorem toPs_small : ∀ L : List Int, toPs (L.map enc) = some (L.map PyData.int)
  | [] => rfl
  | x :: L => by
    show (match toP (.int x), toPs (L.map enc) with | some p, some ps => some (p :: ps) | _, _ => none) = _
    rw [toPs_small L]; rfl
theorem ints_data : ∀ L : List Int, Small L → PyData.showableAll (L.map PyData.int) = true ∧ PyData.hasDictAll (L.map PyData.int) = false ∧ PyData.depthAll (L.map PyData.int) = 0 ∧ PyData.canLayAll0 (L.map PyData.int) = true ∧ PyData.weightAll (L.map PyData.int) ≤ 61 * L.length ∧ PyData.intsShortAll 20 (L.map PyData.int) = true
  | [], _ => by decide
  | x :: L, h => by
    obtain ⟨a, b, c, d, e, f⟩ := ints_data L fun y hy => h y (List.mem_cons_of_mem _ hy)
    have hx := h x List.mem_cons_self
    obtain ⟨n, rfl⟩ := Int.eq_ofNat_of_zero_le hx.1
    rw [Int.toNat_natCast] at hx
    have lg : n.log2 < 60 := by
      by_cases c : n = 0
      · subst c; decide
      · exact (Nat.log2_lt c).mpr (Nat.lt_trans hx.2 (by decide))
    have sh := shown_num hx.2
    refine ⟨?_, ?_, ?_, ?_, ?_, ?_⟩
    · simp only [List.map_cons, PyData.showableAll, a, Bool.and_true, PyData.showable, decide_eq_true_eq]
      show n.log2 < _
      omega
    · simp only [List.map_cons, PyData.hasDictAll, b, PyData.hasDict, Bool.or_self]
    · simp only [List.map_cons, PyData.depthAll, c, PyData.depth, Nat.max_self]
    · simp only [List.map_cons, PyData.canLayAll0, d, PyData.canLay0, Bool.and_self]
    · have w1 : PyData.weight (.int (n : Int)) ≤ 60 := by
        simp only [PyData.weight]
        split
        · omega
        · show n.log2 + 1 ≤ 60; omega
      simp only [List.map_cons, PyData.weightAll, List.length_cons]
      omega
    · simp only [List.map_cons, PyData.intsShortAll, f, Bool.and_true, PyData.intsShort]
      exact decide_eq_true sh
theorem show_deed {w : Str} {ns : List Int} (hw : w ∈ W4) (h : Small ns) (hl : ns.length ≤ 10) : ∃ t, showD (enc ((w, ns) : Str × List Int)) = some t := by
  obtain ⟨a, b, c, d, e, f⟩ := ints_data ns h
  have q := W4_free hw
  have lay := strOk_of q.2.2
  have wl : w.cps.size ≤ 8 := q.2.1
  refine show_of (p := .tuple [.str w, .list (ns.map PyData.int)]) ?_ ?_ ?_ ?_ ?_ ?_ ?_
  · show (toPs [enc w, enc ns]).map PyData.tuple = _
    have e1 : toP (enc ns) = some (.list (ns.map PyData.int)) := by
      show (toPs (ns.map enc)).map PyData.list = _
      rw [toPs_small]; rfl
    show (match toP (enc w), toPs [enc ns] with | some p, some ps => some (p :: ps) | _, _ => none).map PyData.tuple = _
    have e2 : toPs [(enc ns : VF.D)] = some [.list (ns.map PyData.int)] := by
      show (match toP (enc ns), toPs [] with | some p, some ps => some (p :: ps) | _, _ => none) = _
      rw [e1]; rfl
    rw [e2]; rfl
  · simp only [PyData.showable, PyData.showableAll, a, Bool.and_self]
  · simp only [PyData.hasDict, PyData.hasDictAll, b, Bool.or_self]
  · simp only [PyData.depth, PyData.depthAll, c]; decide
  · simp only [PyData.canLay0, PyData.canLayAll0, d, Bool.and_true]
    simpa only [PyData.canLay0] using lay
  · simp only [PyData.weight, PyData.weightAll]
    omega
  · simp only [PyData.intsShort, PyData.intsShortAll, f, Bool.and_self]
theorem show_num {n : Int} (h : 0 ≤ n) (h2 : n.toNat < 10 ^ 15) : ∃ t, showD (enc n) = some t := by
  obtain ⟨a, b, c, d, e, f⟩ := ints_data [n] fun x hx => by rw [List.mem_singleton.mp hx]; exact ⟨h, h2⟩
  simp only [List.map_cons, List.map_nil, PyData.showableAll, PyData.hasDictAll, PyData.canLayAll0, PyData.weightAll, PyData.intsShortAll, Bool.and_true, Bool.or_false, List.length_cons, List.length_nil] at a b d e f
  exact show_of (p := .int n) rfl a b (Nat.zero_le _) d (by omega) f
theorem number_hd (b : Bx) : Hd (p__law_number b) fun q => 0 ≤ q.1 ∧ q.1.toNat < 10 ^ 15 := by
  unfold p__law_number
  refine hd_drw (by decide) fun n b n0 n1 => ?_
  dsimp only
  rw [Res.bind_ok]
  refine hd_drw (by decide) fun k b k0 k1 => ?_
  dsimp only
  rw [rng1_ok (by omega) (by omega), Res.bind_ok]
  refine (foldR_hd (fun i (s : Bx × Int) => 0 ≤ s.2 ∧ s.2.toNat < 30 * 1000 ^ i) (by simp; omega) fun i hi s hs => ?_).bind fun s hs => ?_
  · obtain ⟨b, v⟩ := s
    dsimp only at hs ⊢
    refine hd_drw (by decide) fun d b d0 d1 => ?_
    dsimp only
    rw [Res.bind_ok]
    refine Hd.ok ⟨by omega, ?_⟩
    rw [Nat.pow_succ]
    omega
  · rw [irng_len] at hs
    refine Hd.ok ⟨hs.1, Nat.lt_of_lt_of_le hs.2 ?_⟩
    have : 1000 ^ k.toNat ≤ 1000 ^ 4 := Nat.pow_le_pow_right (by decide) (by omega)
    omega
theorem cut_len (z : Str) (lo hi : Option Int) : (cutS z lo hi).length ≤ z.length := cutS_length z lo hi
theorem near_hd (b : Bx) {line : Str} (hl : line.length ≤ 1000) : Hd (p__law_near b line) fun q => q.1.length ≤ 3000 := by
  unfold p__law_near
  refine hd_drw (by decide) fun a b a0 a1 => ?_
  dsimp only
  rw [lenSR_ok (by omega), Res.bind_ok, modR_ok (by omega), Res.bind_ok, Res.bind_ok]
  refine hd_drw (by decide) fun s b s0 s1 => ?_
  dsimp only
  have sl : (tl (" 019caw-x" : Str)).length = 9 := by decide +kernel
  rw [getiS_ok (by decide +kernel) s0 (by rw [sl]; omega), Res.bind_ok, Res.bind_ok]
  have sg1 : ∀ c, (sign1 c).length = 1 := fun c => rfl
  refine hd_drw (by decide) fun k b k0 k1 => ?_
  dsimp only
  rw [Res.bind_ok]
  have cl := fun lo hi => cut_len line lo hi
  by_cases c1 : k = 0
  · rw [if_pos (decide_eq_true c1), cutSR_ok (by omega), Res.bind_ok, addSR_ok (by have := cl none (some (a % ((line.length : Nat) + 1))); rw [sg1]; omega), Res.bind_ok, cutSR_ok (by omega), Res.bind_ok, addSR_ok (by rw [app_len, sg1]; have := cl none (some (a % ((line.length : Nat) + 1))); have := cl (some (a % ((line.length : Nat) + 1))) none; omega), Res.bind_ok]
    refine Hd.ok ?_
    dsimp only
    rw [app_len, app_len, sg1]
    have := cl none (some (a % ((line.length : Nat) + 1)))
    have := cl (some (a % ((line.length : Nat) + 1))) none
    omega
  · rw [if_neg (by rw [decide_eq_true_iff]; exact c1)]
    by_cases c2 : k = 1
    · rw [if_pos (decide_eq_true c2), cutSR_ok (by omega), Res.bind_ok, cutSR_ok (by omega), Res.bind_ok, addSR_ok (by have := cl none (some (a % ((line.length : Nat) + 1))); have := cl (some (a % ((line.length : Nat) + 1) + 1)) none; omega), Res.bind_ok]
      refine Hd.ok ?_
      dsimp only
      rw [app_len]
      have := cl none (some (a % ((line.length : Nat) + 1)))
      have := cl (some (a % ((line.length : Nat) + 1) + 1)) none
      omega
    · rw [if_neg (by rw [decide_eq_true_iff]; exact c2), cutSR_ok (by omega), Res.bind_ok, addSR_ok (by have := cl none (some (a % ((line.length : Nat) + 1))); rw [sg1]; omega), Res.bind_ok, cutSR_ok (by omega), Res.bind_ok, addSR_ok (by rw [app_len, sg1]; have := cl none (some (a % ((line.length : Nat) + 1))); have := cl (some (a % ((line.length : Nat) + 1) + 1)) none; omega), Res.bind_ok]
      refine Hd.ok ?_
      dsimp only
      rw [app_len, app_len, sg1]
      have := cl none (some (a % ((line.length : Nat) + 1)))
      have := cl (some (a % ((line.length : Nat) + 1) + 1)) none
      omega
theorem last_three : (mulSR (("9" : Str)) 60).bind (fun t481 =>
(p_read_number t481).bind fun t482 =>
(mulSR (("9" : Str)) 60).bind fun t489 =>
(intSR t489).bind fun t490 =>
(if (decide (t482 = (some t490))) = true then
(mulSR (("0" : Str)) 60).bind fun t526 =>
(addSR (("1" : Str)) t526).bind fun t527 =>
(p_read_number t527).bind fun t528 =>
(if t528.isNone = true then
(p_read_number (("" : Str))).bind fun t542 =>
Res.ok t542.isNone
else Res.ok false).bind fun t547 =>
Res.ok t547
else Res.ok false).bind fun t549 =>
Res.ok t549) = .ok true := by
  have m9 : mulSR ("9" : Str) 60 = .ok (Txt.mul ("9" : Str) 60) := if_pos (by decide +kernel)
  have m0 : mulSR ("0" : Str) 60 = .ok (Txt.mul ("0" : Str) 60) := if_pos (by decide +kernel)
  have l9 : (Txt.mul ("9" : Str) 60).length = 60 := by decide +kernel
  have l0 : (Txt.mul ("0" : Str) 60).length = 60 := by decide +kernel
  have l1 : ("1" : Str).length = 1 := by decide +kernel
  have g9 : goodB (Txt.mul ("9" : Str) 60) = true := by decide +kernel
  have d9 : digB (tl (Txt.mul ("9" : Str) 60)) = true := by decide +kernel
  have ge : goodB ("" : Str) = false := by decide +kernel
  have g1 : goodB (("1" : Str) ++ Txt.mul ("0" : Str) 60) = false := by
    unfold goodB
    rw [app_len, l1, l0]
    rfl
  have r9 : rnO (Txt.mul ("9" : Str) 60) = some ((NumText.digitsVal (tl (Txt.mul ("9" : Str) 60)) : Nat) : Int) := if_pos g9
  have r1 : rnO (("1" : Str) ++ Txt.mul ("0" : Str) 60) = none := if_neg (by rw [g1]; decide)
  have re : rnO ("" : Str) = none := if_neg (by rw [ge]; decide)
  rw [m9, Res.bind_ok, rn_ok (by omega), Res.bind_ok, Res.bind_ok, intSR_ok (digB_iff.mp d9) (by omega) (by omega), Res.bind_ok, r9, if_pos (by rw [decide_eq_true_iff]), m0, Res.bind_ok, addSR_ok (by omega), Res.bind_ok, rn_ok (by rw [app_len]; omega), Res.bind_ok, r1, if_pos (show (none : Option Int).isNone = true from rfl), rn_ok (by decide +kernel), Res.bind_ok, re]
  rfl
theorem few_ok {w : Str} {k : Nat} (hw : w ∈ W4) (hf : fitB w k = true) : ∃ few : Int, pickS ([("cast" : Str), ("withdraw" : Str), ("close" : Str), ("mix" : Str)].zip ([2, 1, 0, 0] : List Int)) w = .ok few ∧ few ≤ k ∧ (w ∈ [("withdraw" : Str), ("close" : Str)] → (k : Int) = few) := by
  have hw' : w = "cast" ∨ w = "withdraw" ∨ w = "close" ∨ w = "mix" := by simpa [W4] using hw
  unfold fitB at hf
  rcases hw' with rfl | rfl | rfl | rfl
  · rw [if_pos rfl, decide_eq_true_iff] at hf
    exact ⟨2, by rfl, by omega, fun q => absurd q (by decide +kernel)⟩
  · rw [if_neg (by decide +kernel), if_pos rfl, decide_eq_true_iff] at hf
    exact ⟨1, by rfl, by omega, fun _ => by omega⟩
  · rw [if_neg (by decide +kernel), if_neg (by decide +kernel), decide_eq_false (by decide +kernel), Bool.false_or, decide_eq_true_iff] at hf
    exact ⟨0, by rfl, by omega, fun _ => by omega⟩
  · exact ⟨0, by rfl, by omega, fun q => absurd q (by decide +kernel)⟩
theorem many_ok {t : Int} (t0 : 0 ≤ t) (t1 : t < 4) : ∃ w, geti ([("cast" : Str), ("withdraw" : Str), ("close" : Str), ("mix" : Str)] : List Str) t = .ok w ∧ w ∈ W4 ∧ ∀ a b : Int, 0 ≤ a → a < 3 → 0 ≤ b → b < 4 → ∃ k : Nat, pickS ([("cast" : Str), ("withdraw" : Str), ("close" : Str), ("mix" : Str)].zip ([(2 + a), 1, 0, b] : List Int)) w = .ok (k : Int) ∧ k ≤ 4 ∧ fitB w k = true := by
  have : t = 0 ∨ t = 1 ∨ t = 2 ∨ t = 3 := by omega
  rcases this with rfl | rfl | rfl | rfl
  · refine ⟨"cast", rfl, by decide +kernel, fun a b a0 a1 b0 b1 => ?_⟩
    obtain ⟨a, rfl⟩ := Int.eq_ofNat_of_zero_le a0
    exact ⟨2 + a, rfl, by omega, by unfold fitB; rw [if_pos rfl]; exact decide_eq_true (by omega)⟩
  · exact ⟨"withdraw", rfl, by decide +kernel, fun a b a0 a1 b0 b1 => ⟨1, rfl, by omega, by decide +kernel⟩⟩
  · exact ⟨"close", rfl, by decide +kernel, fun a b a0 a1 b0 b1 => ⟨0, rfl, by omega, by decide +kernel⟩⟩
  · refine ⟨"mix", rfl, by decide +kernel, fun a b a0 a1 b0 b1 => ?_⟩
    obtain ⟨b, rfl⟩ := Int.eq_ofNat_of_zero_le b0
    refine ⟨b, rfl, by omega, ?_⟩
    unfold fitB
    rw [if_neg (by decide +kernel), if_neg (by decide +kernel), decide_eq_true rfl]; rfl
theorem tail_hd (b : Bx) : Hd ((p__law_number b).bind fun (t378, boxH) =>
(Res.ok (t378 : Int)).bind fun numberH =>
(strR numberH).bind fun t385 =>
(p_read_number t385).bind fun t386 =>
(p__law_same t386 numberH).bind fun t391 =>
(if (!t391) = true then Res.ok true else
(strR numberH).bind fun t409 =>
(addSR (("0" : Str)) t409).bind fun t410 =>
(p_read_number t410).bind fun t411 =>
Res.ok t411.isSome).bind fun t416 =>
if t416 = true then
Res.ok (Lp.out false)
else
Res.ok (Lp.go boxH : Lp Bx Bool)) fun l => ∃ s, l = .go s := by
  refine (number_hd b).bind fun q hq => ?_
  obtain ⟨n, b⟩ := q
  dsimp only at hq ⊢
  obtain ⟨t, st⟩ := show_num hq.1 hq.2
  obtain ⟨n, rfl⟩ := Int.eq_ofNat_of_zero_le hq.1
  rw [Int.toNat_natCast] at hq
  have l60 : n < 10 ^ 60 := Nat.lt_trans hq.2 (by decide +kernel)
  have ln := numT_len60 l60
  have z1 : ("0" : Str).length = 1 := by decide +kernel
  rw [Res.bind_ok, strR_ok (Nat.lt_trans l60 (by decide +kernel)), Res.bind_ok, rn_ok (by omega), Res.bind_ok, rn_num l60, same_eq (a := some (n : Int)) (b := (n : Int)) st rfl, Res.bind_ok, if_neg (by decide), Res.bind_ok, addSR_ok (by omega), Res.bind_ok, rn_ok (by rw [app_len]; omega), Res.bind_ok, rn_zero, Res.bind_ok, if_neg (by decide)]
  exact Hd.ok ⟨b, rfl⟩
theorem law_plain (ns : List Int) : p_law ns = .ok true := by
  refine Hd.true ?_
  unfold p_law
  refine (box_hd ns (by decide) (by decide)).bind fun b0 _ => ?_
  rw [Res.bind_ok, rng1_ok (by decide) (by decide), Res.bind_ok]
  refine forR_go (fun _ _ => True) trivial (fun i hi b _ => ?_) fun b _ => ?_
  · refine (?_ : Hd _ fun l => ∃ s, l = Lp.go s).mono fun l ⟨s, e⟩ => ⟨s, e, trivial⟩
    refine hd_drw (by decide) fun t b t0 t1 => ?_
    dsimp only
    obtain ⟨w, gw, hw, many⟩ := many_ok t0 t1
    rw [gw, Res.bind_ok, Res.bind_ok]
    refine hd_drw (by decide) fun a b a0 a1 => ?_
    dsimp only
    refine hd_drw (by decide) fun c b c0 c1 => ?_
    dsimp only
    obtain ⟨k, ek, k4, hf⟩ := many a c a0 a1 c0 c1
    rw [ek, Res.bind_ok, Res.bind_ok, rng1_ok (by omega) (by omega), Res.bind_ok]
    refine (mapS_hd (Q := fun _ n => 0 ≤ n ∧ n.toNat < 10 ^ 15) (by rw [irng_len]; omega) fun x _ s => ?_).bind fun q hq => ?_
    · exact (number_hd s).bind fun p hp => Hd.ok hp
    obtain ⟨xs, b⟩ := q
    dsimp only at hq ⊢
    have lx : xs.length = k := by rw [hq.len, irng_len]; omega
    have sm : Small xs := fun n hn => by obtain ⟨_, _, h⟩ := hq.mem n hn; exact h
    have no := sm.ok
    have wl := (W4_free hw).2.1
    have ll := line_len hw no
    rw [← lx] at hf
    obtain ⟨s1, e1⟩ := show_str (s := lineT w xs) (line_signs hw) (by omega)
    obtain ⟨s2, e2⟩ := show_deed hw sm (by omega)
    rw [Res.bind_ok, line_ok no (by omega) (by omega), Res.bind_ok, Res.bind_ok, write_ok no (by omega) (by omega), Res.bind_ok, same_eq e1 rfl, Res.bind_ok, if_neg (by decide), rd_ok (by omega), Res.bind_ok, rd_line hw hf no, same_eq (a := some ((w, xs) : Str × List Int)) (b := ((w, xs) : Str × List Int)) e2 rfl, Res.bind_ok, Res.bind_ok, if_neg (by decide)]
    refine (near_hd b (line := lineT w xs) (by omega)).bind fun q hq => ?_
    obtain ⟨text, b⟩ := q
    dsimp only at hq ⊢
    rw [Res.bind_ok, rd_ok (by omega), Res.bind_ok, Res.bind_ok]
    cases er : rdO text with
    | some p =>
      obtain ⟨w2, ns2⟩ := p
      obtain ⟨g1, g2, g3, g4, g5⟩ := rd_some er
      obtain ⟨few, f1, f2, f3⟩ := few_ok g1 g2
      have wl2 := (W4_free g1).2.1
      rw [if_pos (show (some (w2, ns2)).isSome = true from rfl), show unO (some ((w2, ns2) : Str × List Int)) = .ok (w2, ns2) from rfl, Res.bind_ok]
      dsimp only
      rw [f1, Res.bind_ok, Res.bind_ok, line_ok g3 (by omega) (by omega), Res.bind_ok, if_neg]
      · exact tail_hd b
      · rw [g4]
        intro q
        simp only [ne_eq, not_true_eq_false, decide_false, Bool.false_or, Bool.or_eq_true, decide_eq_true_eq, Bool.and_eq_true] at q
        rcases q with q | ⟨q1, q2⟩
        · omega
        · exact q2 (f3 q1)
    | none =>
      rw [if_neg (by simp), if_neg]
      · exact tail_hd b
      · rw [decide_eq_true_iff]
        intro q
        rw [q, rd_line hw hf no] at er
        cases er
  · exact Hd.eq last_three rfl
theorem law_pure (ns : List Int) : ∃ as', φ_law [.fz (.scr ns)] = .ok (.fz (.bl true)) as' := law_of (ss_law ns) (law_plain ns)
end
end V
set_option maxHeartbeats 0
namespace V
open PySem PySem.Spec PyProof.Rows L2 VF
abbrev N_read_number : List Str := ["text", "sign"]
theorem sc_read_number : FnScope N_read_number ["text"] (defScope s_read_number) := ⟨rfl, rfl, rfl, by decide +kernel, rfl, by decide +kernel, by decide +kernel⟩
abbrev N_write_deed : List Str := ["deed", "number"]
theorem sc_write_deed : FnScope N_write_deed ["deed"] (defScope s_write_deed) := ⟨rfl, rfl, rfl, by decide +kernel, rfl, by decide +kernel, by decide +kernel⟩
abbrev N_fits : List Str := ["word", "numbers"]
theorem sc_fits : FnScope N_fits ["word", "numbers"] (defScope s_fits) := ⟨rfl, rfl, rfl, by decide +kernel, rfl, by decide +kernel, by decide +kernel⟩
abbrev N_read_deed : List Str := ["line", "parts", "numbers", "part"]
theorem sc_read_deed : FnScope N_read_deed ["line"] (defScope s_read_deed) := ⟨rfl, rfl, rfl, by decide +kernel, rfl, by decide +kernel, by decide +kernel⟩
abbrev N__law_cell : List Str := ["_law_script", "_law_k"]
theorem sc__law_cell : FnScope N__law_cell ["_law_script", "_law_k"] (defScope s__law_cell) := ⟨rfl, rfl, rfl, by decide +kernel, rfl, by decide +kernel, by decide +kernel⟩
abbrev N__law_row : List Str := ["_law_cell_here", "_law_k", "_law_many", "_law_row_here", "_law_seed", "_law_turn"]
theorem sc__law_row : FnScope N__law_row ["_law_cell_here", "_law_k", "_law_many"] (defScope s__law_row) := ⟨rfl, rfl, rfl, by decide +kernel, rfl, by decide +kernel, by decide +kernel⟩
abbrev N__law_box : List Str := ["_law_script", "_law_first", "_law_last", "_law_row_here", "_law_k"]
theorem sc__law_box : FnScope N__law_box ["_law_script", "_law_first", "_law_last"] (defScope s__law_box) := ⟨rfl, rfl, rfl, by decide +kernel, rfl, by decide +kernel, by decide +kernel⟩
abbrev N__law_draw : List Str := ["_law_box_here", "_law_many", "_law_at"]
theorem sc__law_draw : FnScope N__law_draw ["_law_box_here", "_law_many"] (defScope s__law_draw) := ⟨rfl, rfl, rfl, by decide +kernel, rfl, by decide +kernel, by decide +kernel⟩
abbrev N__law_same : List Str := ["_law_one", "_law_other"]
theorem sc__law_same : FnScope N__law_same ["_law_one", "_law_other"] (defScope s__law_same) := ⟨rfl, rfl, rfl, by decide +kernel, rfl, by decide +kernel, by decide +kernel⟩
abbrev N__law_line : List Str := ["_law_deed", "_law_number_here"]
theorem sc__law_line : FnScope N__law_line ["_law_deed"] (defScope s__law_line) := ⟨rfl, rfl, rfl, by decide +kernel, rfl, by decide +kernel, by decide +kernel⟩
abbrev N__law_number : List Str := ["_law_box_here", "_law_number_here", "_law_turn"]
theorem sc__law_number : FnScope N__law_number ["_law_box_here"] (defScope s__law_number) := ⟨rfl, rfl, rfl, by decide +kernel, rfl, by decide +kernel, by decide +kernel⟩
abbrev N__law_near : List Str := ["_law_box_here", "_law_line_here", "_law_at", "_law_sign", "_law_kind"]
theorem sc__law_near : FnScope N__law_near ["_law_box_here", "_law_line_here"] (defScope s__law_near) := ⟨rfl, rfl, rfl, by decide +kernel, rfl, by decide +kernel, by decide +kernel⟩
abbrev N_law : List Str := ["_law_script", "_law_box_here", "_law_turn", "_law_word", "_law_many", "_law_deed", "_law_line_here", "_law_text", "_law_found", "_law_number_here", "_law_few", "_law_k"]
theorem sc_law : FnScope N_law ["_law_script"] (defScope s_law) := ⟨rfl, rfl, rfl, by decide +kernel, rfl, by decide +kernel, by decide +kernel⟩
abbrev FnP (K : PySem.W.Frag) (x : Str) (st : Stmt) (f : Addr) (fd : FuncData) : Prop := FunD K x x (defArgs st) (defBody st) (defScope st) [] [] f fd
structure Tx (P : Program) (K : PySem.W.Frag) (mg : Str → Option Value) where
  b_int : mg "int" = none
  b_len : mg "len" = none
  b_range : mg "range" = none
  b_repr : mg "repr" = none
  b_str : mg "str" = none
  gc_FIGURES : ∃ t, mg "FIGURES" = some (.str "0123456789" t)
  gt_WORDS : GTup K mg "WORDS" ["cast", "withdraw", "close", "mix"]
  a_read_number : Addr
  fd_read_number : FuncData
  F_read_number : FnP K "read_number" s_read_number a_read_number fd_read_number
  g_read_number : mg "read_number" = some (.ref a_read_number)
  a_write_deed : Addr
  fd_write_deed : FuncData
  F_write_deed : FnP K "write_deed" s_write_deed a_write_deed fd_write_deed
  g_write_deed : mg "write_deed" = some (.ref a_write_deed)
  a_fits : Addr
  fd_fits : FuncData
  F_fits : FnP K "fits" s_fits a_fits fd_fits
  g_fits : mg "fits" = some (.ref a_fits)
  a_read_deed : Addr
  fd_read_deed : FuncData
  F_read_deed : FnP K "read_deed" s_read_deed a_read_deed fd_read_deed
  g_read_deed : mg "read_deed" = some (.ref a_read_deed)
  a__law_cell : Addr
  fd__law_cell : FuncData
  F__law_cell : FnP K "_law_cell" s__law_cell a__law_cell fd__law_cell
  g__law_cell : mg "_law_cell" = some (.ref a__law_cell)
  a__law_row : Addr
  fd__law_row : FuncData
  F__law_row : FnP K "_law_row" s__law_row a__law_row fd__law_row
  g__law_row : mg "_law_row" = some (.ref a__law_row)
  a__law_box : Addr
  fd__law_box : FuncData
  F__law_box : FnP K "_law_box" s__law_box a__law_box fd__law_box
  g__law_box : mg "_law_box" = some (.ref a__law_box)
  a__law_draw : Addr
  fd__law_draw : FuncData
  F__law_draw : FnP K "_law_draw" s__law_draw a__law_draw fd__law_draw
  g__law_draw : mg "_law_draw" = some (.ref a__law_draw)
  a__law_same : Addr
  fd__law_same : FuncData
  F__law_same : FnP K "_law_same" s__law_same a__law_same fd__law_same
  g__law_same : mg "_law_same" = some (.ref a__law_same)
  a__law_line : Addr
  fd__law_line : FuncData
  F__law_line : FnP K "_law_line" s__law_line a__law_line fd__law_line
  g__law_line : mg "_law_line" = some (.ref a__law_line)
  a__law_number : Addr
  fd__law_number : FuncData
  F__law_number : FnP K "_law_number" s__law_number a__law_number fd__law_number
  g__law_number : mg "_law_number" = some (.ref a__law_number)
  a__law_near : Addr
  fd__law_near : FuncData
  F__law_near : FnP K "_law_near" s__law_near a__law_near fd__law_near
  g__law_near : mg "_law_near" = some (.ref a__law_near)
  a_law : Addr
  fd_law : FuncData
  F_law : FnP K "law" s_law a_law fd_law
  g_law : mg "law" = some (.ref a_law)
section
variable {P : Program} {w : World} {K : PySem.W.Frag} {mg : Str → Option Value} {base : Heap}
theorem Tx.bd_read_number (T : Tx P K mg) : Binds K T.fd_read_number ["text"] [] := T.F_read_number.bindsN fun _ _ _ _ _ _ us hl => match us, hl with | [_], _ => rfl
theorem Tx.ok_read_number (T : Tx P K mg) : FnOk P w K mg base CX0 1 T.a_read_number T.fd_read_number ["text"] (spF K mg 1 φ_read_number) :=
  fn_ok (k := 0) T.F_read_number sc_read_number [false] rfl (m := d_read_number) (n := 2) rfl fun cdv A outer s H E hr => ((b_cons (s_if (t_not (t_leLe v_int (v_len rfl T.b_len (a_cons (v_var (i := 0) rfl (by first | exact .inl rfl | exact .inr (.inl rfl) | exact .inr (.inr rfl))) a_nil)) v_int)) (b_one (s_ret v_non)) b_nil)
      (b_cons (s_for PassesOwn.never rfl (i_any (v_var (i := 0) rfl (by first | exact .inl rfl | exact .inr (.inl rfl) | exact .inr (.inr rfl)))) (g_name (i := 1) sc_read_number.nd rfl (by first | exact .inl rfl | exact .inr rfl)) (b_one (s_if (t_notIn (u65 hr) (v_var (i := 1) rfl (by first | exact .inl rfl | exact .inr (.inl rfl) | exact .inr (.inr rfl))) (v_gstr rfl T.gc_FIGURES) (by rfl)) (b_one (s_ret v_non)) b_nil)))
      (b_cons (s_if (VW.t (w_and (t_gt (v_len rfl T.b_len (a_cons (v_var (i := 0) rfl (by first | exact .inl rfl | exact .inr (.inl rfl) | exact .inr (.inr rfl))) a_nil)) v_int) (w_and1 (t_eq (u64 hr) (v_ix (v_var (i := 0) rfl (by first | exact .inl rfl | exact .inr (.inl rfl) | exact .inr (.inr rfl))) v_int (fun _ _ => rfl)) v_str)))) (b_one (s_ret v_non)) b_nil)
      (b_one (s_ret (v_intS rfl T.b_int (a_cons (v_var (i := 0) rfl (by first | exact .inl rfl | exact .inr (.inl rfl) | exact .inr (.inr rfl))) a_nil))))))))
theorem Tx.bd_write_deed (T : Tx P K mg) : Binds K T.fd_write_deed ["deed"] [] := T.F_write_deed.bindsN fun _ _ _ _ _ _ us hl => match us, hl with | [_], _ => rfl
theorem Tx.ok_write_deed (T : Tx P K mg) : FnOk P w K mg base CX0 1 T.a_write_deed T.fd_write_deed ["deed"] (spF K mg 1 φ_write_deed) :=
  fn_ok (k := 0) T.F_write_deed sc_write_deed [false] rfl (m := d_write_deed) (n := 2) rfl fun cdv A outer s H E hr => ((b_one (s_ret (v_join v_str (v_addL (v_lst (a_cons (v_ix (v_var (i := 0) rfl (by first | exact .inl rfl | exact .inr (.inl rfl) | exact .inr (.inr rfl))) v_int (fun _ _ => rfl)) a_nil)) (v_comp (sc := defScope s_write_deed) (own := [("number", 1)]) rfl sc_write_deed.nd (by rfl) (blkOk_by (N := N_write_deed) (sc := defScope s_write_deed) (own := [("number", 1)]) (by decide +kernel)) (by decide) (i_any (v_ix (v_var (i := 0) rfl (by first | exact .inl rfl | exact .inr (.inl rfl) | exact .inr (.inr rfl))) v_int (fun _ _ => rfl))) (fun _ _ _ _ _ => (g_name (i := 1) sc_write_deed.nd rfl (by first | exact .inl rfl | exact .inr rfl))) (fun _ _ _ _ _ => ts_nil) (fun _ _ _ _ _ => (v_strI rfl T.b_str (a_cons (v_var (i := 1) rfl (by first | exact .inl rfl | exact .inr (.inl rfl) | exact .inr (.inr rfl))) a_nil)))))))))
theorem Tx.bd_fits (T : Tx P K mg) : Binds K T.fd_fits ["word", "numbers"] [] := T.F_fits.bindsN fun _ _ _ _ _ _ us hl => match us, hl with | [_, _], _ => rfl
theorem Tx.ok_fits (T : Tx P K mg) : FnOk P w K mg base CX0 1 T.a_fits T.fd_fits ["word", "numbers"] (spF K mg 2 φ_fits) :=
  fn_ok (k := 0) T.F_fits sc_fits [false, false] rfl (m := d_fits) (n := 2) rfl fun cdv A outer s H E hr => ((b_cons (s_if (t_eq (u64 hr) (v_var (i := 0) rfl (by first | exact .inl rfl | exact .inr (.inl rfl) | exact .inr (.inr rfl))) v_str) (b_one (s_ret (v_ge (v_len rfl T.b_len (a_cons (v_var (i := 1) rfl (by first | exact .inl rfl | exact .inr (.inl rfl) | exact .inr (.inr rfl))) a_nil)) v_int))) b_nil)
      (b_cons (s_if (t_eq (u64 hr) (v_var (i := 0) rfl (by first | exact .inl rfl | exact .inr (.inl rfl) | exact .inr (.inr rfl))) v_str) (b_one (s_ret (v_eq (u64 hr) (v_len rfl T.b_len (a_cons (v_var (i := 1) rfl (by first | exact .inl rfl | exact .inr (.inl rfl) | exact .inr (.inr rfl))) a_nil)) v_int))) b_nil)
      (b_one (s_ret (v_or (v_eq (u64 hr) (v_var (i := 0) rfl (by first | exact .inl rfl | exact .inr (.inl rfl) | exact .inr (.inr rfl))) v_str) (v_one (v_notT (v_var (i := 1) rfl (by first | exact .inl rfl | exact .inr (.inl rfl) | exact .inr (.inr rfl)))))))))))
theorem Tx.bd_read_deed (T : Tx P K mg) : Binds K T.fd_read_deed ["line"] [] := T.F_read_deed.bindsN fun _ _ _ _ _ _ us hl => match us, hl with | [_], _ => rfl
theorem Tx.ok_read_deed (T : Tx P K mg) : FnOk P w K mg base CX0 2 T.a_read_deed T.fd_read_deed ["line"] (spF K mg 1 φ_read_deed) :=
  fn_ok (k := 1) T.F_read_deed sc_read_deed [false] rfl (m := d_read_deed) (n := 4) rfl fun cdv A outer s H E hr => ((b_cons (s_set (i := 1) sc_read_deed.nd rfl (by first | exact .inl rfl | exact .inr rfl) (v_split (v_var (i := 0) rfl (by first | exact .inl rfl | exact .inr (.inl rfl) | exact .inr (.inr rfl))) v_str))
      (b_cons (s_if (t_notIn (u65 hr) (v_ix (v_var (i := 1) rfl (by first | exact .inl rfl | exact .inr (.inl rfl) | exact .inr (.inr rfl))) v_int (fun _ _ => rfl)) (v_gtup (zs := ["cast", "withdraw", "close", "mix"]) rfl T.gt_WORDS) (by rfl)) (b_one (s_ret v_non)) b_nil)
      (b_cons (s_setComp (i := 2) (sc := defScope s_read_deed) (own := [("part", 3)]) rfl sc_read_deed.nd rfl rfl (sw_true rfl rfl rfl (by decide +kernel)) (by rfl) (blkOk_by (N := N_read_deed) (sc := defScope s_read_deed) (own := [("part", 3)]) (by decide +kernel)) (by decide) (i_any (v_slFrom (v_var (i := 1) rfl (by first | exact .inl rfl | exact .inr (.inl rfl) | exact .inr (.inr rfl))) v_int)) (fun _ _ _ _ _ => (g_name (i := 3) sc_read_deed.nd rfl (by first | exact .inl rfl | exact .inr rfl))) (fun _ _ _ _ _ => ts_nil) (fun _ _ _ _ _ => (v_callB T.ok_read_number (hr.mono (by decide)) rfl T.g_read_number T.F_read_number.kp T.bd_read_number passN (a_cons (v_var (i := 3) rfl (by first | exact .inl rfl | exact .inr (.inl rfl) | exact .inr (.inr rfl))) a_nil))))
      (b_cons (s_if (VW.t (w_or (t_in (u65 hr) v_non (v_var (i := 2) rfl (by first | exact .inl rfl | exact .inr (.inl rfl) | exact .inr (.inr rfl))) (by rfl)) (w_or1 (t_not (t_tru (v_callB T.ok_fits (hr.mono (by decide)) rfl T.g_fits T.F_fits.kp T.bd_fits passN (a_cons (v_ix (v_var (i := 1) rfl (by first | exact .inl rfl | exact .inr (.inl rfl) | exact .inr (.inr rfl))) v_int (fun _ _ => rfl)) (a_cons (v_var (i := 2) rfl (by first | exact .inl rfl | exact .inr (.inl rfl) | exact .inr (.inr rfl))) a_nil)))))))) (b_one (s_ret v_non)) b_nil)
      (b_one (s_ret (v_tup (a_cons (v_ix (v_var (i := 1) rfl (by first | exact .inl rfl | exact .inr (.inl rfl) | exact .inr (.inr rfl))) v_int (fun _ _ => rfl)) (a_cons (v_var (i := 2) rfl (by first | exact .inl rfl | exact .inr (.inl rfl) | exact .inr (.inr rfl))) a_nil))))))))))
theorem Tx.bd__law_cell (T : Tx P K mg) : Binds K T.fd__law_cell ["_law_script", "_law_k"] [] := T.F__law_cell.bindsN fun _ _ _ _ _ _ us hl => match us, hl with | [_, _], _ => rfl
theorem Tx.ok__law_cell (T : Tx P K mg) : FnOk P w K mg base CX0 1 T.a__law_cell T.fd__law_cell ["_law_script", "_law_k"] (spF K mg 2 φ__law_cell) :=
  fn_ok (k := 0) T.F__law_cell sc__law_cell [false, false] rfl (m := d__law_cell) (n := 2) rfl fun cdv A outer s H E hr => ((b_cons (s_if (t_lt (v_var (i := 1) rfl (by first | exact .inl rfl | exact .inr (.inl rfl) | exact .inr (.inr rfl))) (v_len rfl T.b_len (a_cons (v_var (i := 0) rfl (by first | exact .inl rfl | exact .inr (.inl rfl) | exact .inr (.inr rfl))) a_nil))) (b_one (s_ret (v_ix (v_var (i := 0) rfl (by first | exact .inl rfl | exact .inr (.inl rfl) | exact .inr (.inr rfl))) (v_var (i := 1) rfl (by first | exact .inl rfl | exact .inr (.inl rfl) | exact .inr (.inr rfl))) (fun _ _ => rfl)))) b_nil)
      (b_one (s_ret v_int))))
theorem Tx.bd__law_row (T : Tx P K mg) : Binds K T.fd__law_row ["_law_cell_here", "_law_k", "_law_many"] [] := T.F__law_row.bindsN fun _ _ _ _ _ _ us hl => match us, hl with | [_, _, _], _ => rfl
theorem Tx.ok__law_row (T : Tx P K mg) : FnOk P w K mg base CX0 1 T.a__law_row T.fd__law_row ["_law_cell_here", "_law_k", "_law_many"] (spF K mg 3 φ__law_row) :=
  fn_ok (k := 0) T.F__law_row sc__law_row [false, false, false] rfl (m := d__law_row) (n := 6) rfl fun cdv A outer s H E hr => ((b_cons (s_set (i := 3) sc__law_row.nd rfl (by first | exact .inl rfl | exact .inr rfl) (v_lst a_nil))
      (b_cons (s_if (t_lt (v_var (i := 0) rfl (by first | exact .inl rfl | exact .inr (.inl rfl) | exact .inr (.inr rfl))) v_int) (b_one (s_set (i := 0) sc__law_row.nd rfl (by first | exact .inl rfl | exact .inr rfl) (v_sub v_int (v_mul v_int (v_var (i := 0) rfl (by first | exact .inl rfl | exact .inr (.inl rfl) | exact .inr (.inr rfl))))))) b_nil)
      (b_cons (s_if (t_ge (v_var (i := 0) rfl (by first | exact .inl rfl | exact .inr (.inl rfl) | exact .inr (.inr rfl))) (v_pow v_int v_int)) (b_cons (s_for PassesOwn.never rfl (i_rng1 rfl T.b_range (a_cons v_int a_nil)) (g_name (i := 5) sc__law_row.nd rfl (by first | exact .inl rfl | exact .inr rfl)) (b_one (s_if (VW.t (w_and (t_gt (v_var (i := 0) rfl (by first | exact .inl rfl | exact .inr (.inl rfl) | exact .inr (.inr rfl))) v_int) (w_and1 (t_lt (v_len rfl T.b_len (a_cons (v_var (i := 3) rfl (by first | exact .inl rfl | exact .inr (.inl rfl) | exact .inr (.inr rfl))) a_nil)) (v_var (i := 2) rfl (by first | exact .inl rfl | exact .inr (.inl rfl) | exact .inr (.inr rfl))))))) (b_cons (s_expr (v_app (i := 3) rfl (by first | exact .inl rfl | exact .inr (.inl rfl) | exact .inr (.inr rfl)) (v_mod (v_callInt rfl T.b_int (a_cons (v_var (i := 0) rfl (by first | exact .inl rfl | exact .inr (.inl rfl) | exact .inr (.inr rfl))) a_nil)) v_int) rfl (by decide) (by decide) (fun ho ha => pe_bm PySem.F.plainAttrs_list PySem.F.slot_list_append PySem.F.type_list_append mt_append ho ha)))
      (b_one (s_set (i := 0) sc__law_row.nd rfl (by first | exact .inl rfl | exact .inr rfl) (v_div (v_var (i := 0) rfl (by first | exact .inl rfl | exact .inr (.inl rfl) | exact .inr (.inr rfl))) v_int)))) b_nil)))
      (b_one (s_ret (v_var (i := 3) rfl (by first | exact .inl rfl | exact .inr (.inl rfl) | exact .inr (.inr rfl)))))) b_nil)
      (b_cons (s_set (i := 4) sc__law_row.nd rfl (by first | exact .inl rfl | exact .inr rfl) (v_mod (v_callInt rfl T.b_int (a_cons (v_addI (v_addI (v_mul (v_var (i := 0) rfl (by first | exact .inl rfl | exact .inr (.inl rfl) | exact .inr (.inr rfl))) v_int) (v_mul (v_var (i := 1) rfl (by first | exact .inl rfl | exact .inr (.inl rfl) | exact .inr (.inr rfl))) v_int)) v_int) a_nil)) v_int))
      (b_cons (s_for PassesOwn.never rfl (i_rng1 rfl T.b_range (a_cons (v_var (i := 2) rfl (by first | exact .inl rfl | exact .inr (.inl rfl) | exact .inr (.inr rfl))) a_nil)) (g_name (i := 5) sc__law_row.nd rfl (by first | exact .inl rfl | exact .inr rfl)) (b_cons (s_set (i := 4) sc__law_row.nd rfl (by first | exact .inl rfl | exact .inr rfl) (v_mod (v_callInt rfl T.b_int (a_cons (v_addI (v_addI (v_mul (v_var (i := 4) rfl (by first | exact .inl rfl | exact .inr (.inl rfl) | exact .inr (.inr rfl))) v_int) (v_mul v_int (v_var (i := 5) rfl (by first | exact .inl rfl | exact .inr (.inl rfl) | exact .inr (.inr rfl))))) v_int) a_nil)) v_int))
      (b_one (s_expr (v_app (i := 3) rfl (by first | exact .inl rfl | exact .inr (.inl rfl) | exact .inr (.inr rfl)) (v_mod (v_callInt rfl T.b_int (a_cons (v_div (v_var (i := 4) rfl (by first | exact .inl rfl | exact .inr (.inl rfl) | exact .inr (.inr rfl))) v_int) a_nil)) v_int) rfl (by decide) (by decide) (fun ho ha => pe_bm PySem.F.plainAttrs_list PySem.F.slot_list_append PySem.F.type_list_append mt_append ho ha))))))
      (b_one (s_ret (v_var (i := 3) rfl (by first | exact .inl rfl | exact .inr (.inl rfl) | exact .inr (.inr rfl)))))))))))
theorem Tx.bd__law_box (T : Tx P K mg) : Binds K T.fd__law_box ["_law_script", "_law_first", "_law_last"] [] := T.F__law_box.bindsN fun _ _ _ _ _ _ us hl => match us, hl with | [_, _, _], _ => rfl
theorem Tx.ok__law_box (T : Tx P K mg) : FnOk P w K mg base CX0 2 T.a__law_box T.fd__law_box ["_law_script", "_law_first", "_law_last"] (spF K mg 3 φ__law_box) :=
  fn_ok (k := 1) T.F__law_box sc__law_box [false, false, false] rfl (m := d__law_box) (n := 5) rfl fun cdv A outer s H E hr => ((b_cons (s_set (i := 3) sc__law_box.nd rfl (by first | exact .inl rfl | exact .inr rfl) (v_lst a_nil))
      (b_cons (s_for PassesOwn.never rfl (i_rng2 rfl T.b_range (a_cons (v_var (i := 1) rfl (by first | exact .inl rfl | exact .inr (.inl rfl) | exact .inr (.inr rfl))) (a_cons (v_var (i := 2) rfl (by first | exact .inl rfl | exact .inr (.inl rfl) | exact .inr (.inr rfl))) a_nil))) (g_name (i := 4) sc__law_box.nd rfl (by first | exact .inl rfl | exact .inr rfl)) (b_one (s_set (i := 3) sc__law_box.nd rfl (by first | exact .inl rfl | exact .inr rfl) (v_addL (v_var (i := 3) rfl (by first | exact .inl rfl | exact .inr (.inl rfl) | exact .inr (.inr rfl))) (v_call (md := [false, false, false]) T.ok__law_row (hr.mono (by decide)) rfl T.g__law_row T.F__law_row.kp T.bd__law_row passN (a_cons (v_call (md := [false, false]) T.ok__law_cell (hr.mono (by decide)) rfl T.g__law_cell T.F__law_cell.kp T.bd__law_cell passN (a_cons (v_var (i := 0) rfl (by first | exact .inl rfl | exact .inr (.inl rfl) | exact .inr (.inr rfl))) (a_cons (v_var (i := 4) rfl (by first | exact .inl rfl | exact .inr (.inl rfl) | exact .inr (.inr rfl))) a_nil))) (a_cons (v_var (i := 4) rfl (by first | exact .inl rfl | exact .inr (.inl rfl) | exact .inr (.inr rfl))) (a_cons v_int a_nil))))))))
      (b_one (s_ret (v_lst (a_cons (v_var (i := 3) rfl (by first | exact .inl rfl | exact .inr (.inl rfl) | exact .inr (.inr rfl))) (a_cons v_int a_nil))))))))
theorem Tx.bd__law_draw (T : Tx P K mg) : Binds K T.fd__law_draw ["_law_box_here", "_law_many"] [] := T.F__law_draw.bindsN fun _ _ _ _ _ _ us hl => match us, hl with | [_, _], _ => rfl
theorem Tx.ok__law_draw (T : Tx P K mg) : FnOk P w K mg base CX0 1 T.a__law_draw T.fd__law_draw ["_law_box_here", "_law_many"] (spF K mg 2 φ__law_draw) :=
  fn_ok (k := 0) T.F__law_draw sc__law_draw [true, false] rfl (m := d__law_draw) (n := 3) rfl fun cdv A outer s H E hr => ((b_cons (s_set (i := 2) sc__law_draw.nd rfl (by first | exact .inl rfl | exact .inr rfl) (v_ix (v_var (i := 0) rfl (by first | exact .inl rfl | exact .inr (.inl rfl) | exact .inr (.inr rfl))) v_int (fun _ _ => rfl)))
      (b_cons (s_setIx (j := 0) rfl (by first | exact .inl rfl | exact .inr (.inl rfl) | exact .inr (.inr rfl)) v_int (v_addI (v_var (i := 2) rfl (by first | exact .inl rfl | exact .inr (.inl rfl) | exact .inr (.inr rfl))) v_int) (fun ho hi => pg_sub ho hi set_list))
      (b_cons (s_if (t_lt (v_var (i := 2) rfl (by first | exact .inl rfl | exact .inr (.inl rfl) | exact .inr (.inr rfl))) (v_len rfl T.b_len (a_cons (v_ix (v_var (i := 0) rfl (by first | exact .inl rfl | exact .inr (.inl rfl) | exact .inr (.inr rfl))) v_int (fun _ _ => rfl)) a_nil))) (b_one (s_ret (v_mod (v_callInt rfl T.b_int (a_cons (v_ix (v_ix (v_var (i := 0) rfl (by first | exact .inl rfl | exact .inr (.inl rfl) | exact .inr (.inr rfl))) v_int (fun _ _ => rfl)) (v_var (i := 2) rfl (by first | exact .inl rfl | exact .inr (.inl rfl) | exact .inr (.inr rfl))) (fun _ _ => rfl)) a_nil)) (v_var (i := 1) rfl (by first | exact .inl rfl | exact .inr (.inl rfl) | exact .inr (.inr rfl)))))) b_nil)
      (b_one (s_ret (v_mod (v_callInt rfl T.b_int (a_cons (v_addI (v_mul (v_var (i := 2) rfl (by first | exact .inl rfl | exact .inr (.inl rfl) | exact .inr (.inr rfl))) v_int) v_int) a_nil)) (v_var (i := 1) rfl (by first | exact .inl rfl | exact .inr (.inl rfl) | exact .inr (.inr rfl))))))))))
theorem Tx.bd__law_same (T : Tx P K mg) : Binds K T.fd__law_same ["_law_one", "_law_other"] [] := T.F__law_same.bindsN fun _ _ _ _ _ _ us hl => match us, hl with | [_, _], _ => rfl
theorem Tx.ok__law_same (T : Tx P K mg) : FnOkG P w K mg base 1 T.a__law_same T.fd__law_same ["_law_one", "_law_other"] (spF K mg 2 φ__law_same) :=
  fn_okG (k := 0) T.F__law_same sc__law_same [false, false] rfl (m := d__law_same) (n := 2) rfl fun cdv A outer s H E hr hgd => ((b_one (s_ret (v_eqS (v_repr hgd (u64 hr) rfl T.b_repr (a_cons (v_var (i := 0) rfl (by first | exact .inl rfl | exact .inr (.inl rfl) | exact .inr (.inr rfl))) a_nil)) (v_repr hgd (u64 hr) rfl T.b_repr (a_cons (v_var (i := 1) rfl (by first | exact .inl rfl | exact .inr (.inl rfl) | exact .inr (.inr rfl))) a_nil))))))
theorem Tx.bd__law_line (T : Tx P K mg) : Binds K T.fd__law_line ["_law_deed"] [] := T.F__law_line.bindsN fun _ _ _ _ _ _ us hl => match us, hl with | [_], _ => rfl
theorem Tx.ok__law_line (T : Tx P K mg) : FnOk P w K mg base CX0 1 T.a__law_line T.fd__law_line ["_law_deed"] (spF K mg 1 φ__law_line) :=
  fn_ok (k := 0) T.F__law_line sc__law_line [false] rfl (m := d__law_line) (n := 2) rfl fun cdv A outer s H E hr => ((b_one (s_ret (v_join v_str (v_addL (v_lst (a_cons (v_ix (v_var (i := 0) rfl (by first | exact .inl rfl | exact .inr (.inl rfl) | exact .inr (.inr rfl))) v_int (fun _ _ => rfl)) a_nil)) (v_comp (sc := defScope s__law_line) (own := [("_law_number_here", 1)]) rfl sc__law_line.nd (by rfl) (blkOk_by (N := N__law_line) (sc := defScope s__law_line) (own := [("_law_number_here", 1)]) (by decide +kernel)) (by decide) (i_any (v_ix (v_var (i := 0) rfl (by first | exact .inl rfl | exact .inr (.inl rfl) | exact .inr (.inr rfl))) v_int (fun _ _ => rfl))) (fun _ _ _ _ _ => (g_name (i := 1) sc__law_line.nd rfl (by first | exact .inl rfl | exact .inr rfl))) (fun _ _ _ _ _ => ts_nil) (fun _ _ _ _ _ => (v_strI rfl T.b_str (a_cons (v_var (i := 1) rfl (by first | exact .inl rfl | exact .inr (.inl rfl) | exact .inr (.inr rfl))) a_nil)))))))))
theorem Tx.bd__law_number (T : Tx P K mg) : Binds K T.fd__law_number ["_law_box_here"] [] := T.F__law_number.bindsN fun _ _ _ _ _ _ us hl => match us, hl with | [_], _ => rfl
theorem Tx.ok__law_number (T : Tx P K mg) : FnOk P w K mg base CX0 2 T.a__law_number T.fd__law_number ["_law_box_here"] (spF K mg 1 φ__law_number) :=
  fn_ok (k := 1) T.F__law_number sc__law_number [true] rfl (m := d__law_number) (n := 3) rfl fun cdv A outer s H E hr => ((b_cons (s_set (i := 1) sc__law_number.nd rfl (by first | exact .inl rfl | exact .inr rfl) (v_call (md := [true, false]) T.ok__law_draw (hr.mono (by decide)) rfl T.g__law_draw T.F__law_draw.kp T.bd__law_draw passN (a_cons (v_var (i := 0) rfl (by first | exact .inl rfl | exact .inr (.inl rfl) | exact .inr (.inr rfl))) (a_cons v_int a_nil))))
      (b_cons (s_for PassesOwn.never rfl (i_rng1 rfl T.b_range (a_cons (v_call (md := [true, false]) T.ok__law_draw (hr.mono (by decide)) rfl T.g__law_draw T.F__law_draw.kp T.bd__law_draw passN (a_cons (v_var (i := 0) rfl (by first | exact .inl rfl | exact .inr (.inl rfl) | exact .inr (.inr rfl))) (a_cons v_int a_nil))) a_nil)) (g_name (i := 2) sc__law_number.nd rfl (by first | exact .inl rfl | exact .inr rfl)) (b_one (s_set (i := 1) sc__law_number.nd rfl (by first | exact .inl rfl | exact .inr rfl) (v_addI (v_mul (v_var (i := 1) rfl (by first | exact .inl rfl | exact .inr (.inl rfl) | exact .inr (.inr rfl))) v_int) (v_call (md := [true, false]) T.ok__law_draw (hr.mono (by decide)) rfl T.g__law_draw T.F__law_draw.kp T.bd__law_draw passN (a_cons (v_var (i := 0) rfl (by first | exact .inl rfl | exact .inr (.inl rfl) | exact .inr (.inr rfl))) (a_cons v_int a_nil)))))))
      (b_one (s_ret (v_var (i := 1) rfl (by first | exact .inl rfl | exact .inr (.inl rfl) | exact .inr (.inr rfl))))))))
theorem Tx.bd__law_near (T : Tx P K mg) : Binds K T.fd__law_near ["_law_box_here", "_law_line_here"] [] := T.F__law_near.bindsN fun _ _ _ _ _ _ us hl => match us, hl with | [_, _], _ => rfl
theorem Tx.ok__law_near (T : Tx P K mg) : FnOk P w K mg base CX0 2 T.a__law_near T.fd__law_near ["_law_box_here", "_law_line_here"] (spF K mg 2 φ__law_near) :=
  fn_ok (k := 1) T.F__law_near sc__law_near [true, false] rfl (m := d__law_near) (n := 5) rfl fun cdv A outer s H E hr => ((b_cons (s_set (i := 2) sc__law_near.nd rfl (by first | exact .inl rfl | exact .inr rfl) (v_mod (v_callInt rfl T.b_int (a_cons (v_call (md := [true, false]) T.ok__law_draw (hr.mono (by decide)) rfl T.g__law_draw T.F__law_draw.kp T.bd__law_draw passN (a_cons (v_var (i := 0) rfl (by first | exact .inl rfl | exact .inr (.inl rfl) | exact .inr (.inr rfl))) (a_cons v_int a_nil))) a_nil)) (v_addI (v_len rfl T.b_len (a_cons (v_var (i := 1) rfl (by first | exact .inl rfl | exact .inr (.inl rfl) | exact .inr (.inr rfl))) a_nil)) v_int)))
      (b_cons (s_set (i := 3) sc__law_near.nd rfl (by first | exact .inl rfl | exact .inr rfl) (v_ix v_str (v_call (md := [true, false]) T.ok__law_draw (hr.mono (by decide)) rfl T.g__law_draw T.F__law_draw.kp T.bd__law_draw passN (a_cons (v_var (i := 0) rfl (by first | exact .inl rfl | exact .inr (.inl rfl) | exact .inr (.inr rfl))) (a_cons v_int a_nil))) (fun _ _ => rfl)))
      (b_cons (s_set (i := 4) sc__law_near.nd rfl (by first | exact .inl rfl | exact .inr rfl) (v_call (md := [true, false]) T.ok__law_draw (hr.mono (by decide)) rfl T.g__law_draw T.F__law_draw.kp T.bd__law_draw passN (a_cons (v_var (i := 0) rfl (by first | exact .inl rfl | exact .inr (.inl rfl) | exact .inr (.inr rfl))) (a_cons v_int a_nil))))
      (b_cons (s_if (t_eq (u64 hr) (v_var (i := 4) rfl (by first | exact .inl rfl | exact .inr (.inl rfl) | exact .inr (.inr rfl))) v_int) (b_one (s_ret (v_addS (v_addS (v_slSTo (v_var (i := 1) rfl (by first | exact .inl rfl | exact .inr (.inl rfl) | exact .inr (.inr rfl))) (v_var (i := 2) rfl (by first | exact .inl rfl | exact .inr (.inl rfl) | exact .inr (.inr rfl)))) (v_var (i := 3) rfl (by first | exact .inl rfl | exact .inr (.inl rfl) | exact .inr (.inr rfl)))) (v_slSFrom (v_var (i := 1) rfl (by first | exact .inl rfl | exact .inr (.inl rfl) | exact .inr (.inr rfl))) (v_var (i := 2) rfl (by first | exact .inl rfl | exact .inr (.inl rfl) | exact .inr (.inr rfl))))))) b_nil)
      (b_cons (s_if (t_eq (u64 hr) (v_var (i := 4) rfl (by first | exact .inl rfl | exact .inr (.inl rfl) | exact .inr (.inr rfl))) v_int) (b_one (s_ret (v_addS (v_slSTo (v_var (i := 1) rfl (by first | exact .inl rfl | exact .inr (.inl rfl) | exact .inr (.inr rfl))) (v_var (i := 2) rfl (by first | exact .inl rfl | exact .inr (.inl rfl) | exact .inr (.inr rfl)))) (v_slSFrom (v_var (i := 1) rfl (by first | exact .inl rfl | exact .inr (.inl rfl) | exact .inr (.inr rfl))) (v_addI (v_var (i := 2) rfl (by first | exact .inl rfl | exact .inr (.inl rfl) | exact .inr (.inr rfl))) v_int))))) b_nil)
      (b_one (s_ret (v_addS (v_addS (v_slSTo (v_var (i := 1) rfl (by first | exact .inl rfl | exact .inr (.inl rfl) | exact .inr (.inr rfl))) (v_var (i := 2) rfl (by first | exact .inl rfl | exact .inr (.inl rfl) | exact .inr (.inr rfl)))) (v_var (i := 3) rfl (by first | exact .inl rfl | exact .inr (.inl rfl) | exact .inr (.inr rfl)))) (v_slSFrom (v_var (i := 1) rfl (by first | exact .inl rfl | exact .inr (.inl rfl) | exact .inr (.inr rfl))) (v_addI (v_var (i := 2) rfl (by first | exact .inl rfl | exact .inr (.inl rfl) | exact .inr (.inr rfl))) v_int)))))))))))
theorem Tx.ok_law (T : Tx P K mg) : FnOkG P w K mg base 3 T.a_law T.fd_law ["_law_script"] (spF K mg 1 φ_law) :=
  fn_okG (k := 2) T.F_law sc_law [false] rfl (m := d_law) (n := 12) rfl fun cdv A outer s H E hr hgd => ((b_cons (s_set (i := 1) sc_law.nd rfl (by first | exact .inl rfl | exact .inr rfl) (v_call (md := [false, false, false]) T.ok__law_box (hr.mono (by decide)) rfl T.g__law_box T.F__law_box.kp T.bd__law_box passN (a_cons (v_var (i := 0) rfl (by first | exact .inl rfl | exact .inr (.inl rfl) | exact .inr (.inr rfl))) (a_cons v_int (a_cons v_int a_nil)))))
      (b_cons (s_for PassesOwn.never rfl (i_rng1 rfl T.b_range (a_cons v_int a_nil)) (g_name (i := 2) sc_law.nd rfl (by first | exact .inl rfl | exact .inr rfl)) (b_cons (s_set (i := 3) sc_law.nd rfl (by first | exact .inl rfl | exact .inr rfl) (v_ix (v_lst (a_cons v_str (a_cons v_str (a_cons v_str (a_cons v_str a_nil))))) (v_call (md := [true, false]) T.ok__law_draw (hr.mono (by decide)) rfl T.g__law_draw T.F__law_draw.kp T.bd__law_draw passN (a_cons (v_var (i := 1) rfl (by first | exact .inl rfl | exact .inr (.inl rfl) | exact .inr (.inr rfl))) (a_cons v_int a_nil))) (fun _ _ => rfl)))
      (b_cons (s_set (i := 4) sc_law.nd rfl (by first | exact .inl rfl | exact .inr rfl) (v_getR (Nat.lt_of_le_of_lt (Nat.add_le_add_left (by decide : 1 ≤ 65) _) (u65 hr)) (v_disp (md := [false, false, false, false]) (vd_cons (v_addI v_int (v_call (md := [true, false]) T.ok__law_draw (hr.mono (by decide)) rfl T.g__law_draw T.F__law_draw.kp T.bd__law_draw passN (a_cons (v_var (i := 1) rfl (by first | exact .inl rfl | exact .inr (.inl rfl) | exact .inr (.inr rfl))) (a_cons v_int a_nil)))) (vd_cons v_int (vd_cons v_int (vd_cons (v_call (md := [true, false]) T.ok__law_draw (hr.mono (by decide)) rfl T.g__law_draw T.F__law_draw.kp T.bd__law_draw passN (a_cons (v_var (i := 1) rfl (by first | exact .inl rfl | exact .inr (.inl rfl) | exact .inr (.inr rfl))) (a_cons v_int a_nil))) vd_nil))))) (v_var (i := 3) rfl (by first | exact .inl rfl | exact .inr (.inl rfl) | exact .inr (.inr rfl))) (fun _ _ => rfl)))
      (b_cons (s_set (i := 5) sc_law.nd rfl (by first | exact .inl rfl | exact .inr rfl) (v_tup (a_cons (v_var (i := 3) rfl (by first | exact .inl rfl | exact .inr (.inl rfl) | exact .inr (.inr rfl))) (a_cons (v_comp (sc := defScope s_law) (own := [("_law_k", 11)]) rfl sc_law.nd (by rfl) (blkOk_by (N := N_law) (sc := defScope s_law) (own := [("_law_k", 11)]) (by decide +kernel)) (by decide) (i_rng1 rfl T.b_range (a_cons (v_var (i := 4) rfl (by first | exact .inl rfl | exact .inr (.inl rfl) | exact .inr (.inr rfl))) a_nil)) (fun _ _ _ _ _ => (g_name (i := 11) sc_law.nd rfl (by first | exact .inl rfl | exact .inr rfl))) (fun _ _ _ _ _ => ts_nil) (fun _ _ _ _ _ => (v_call (md := [true]) T.ok__law_number (hr.mono (by decide)) rfl T.g__law_number T.F__law_number.kp T.bd__law_number passN (a_cons (v_var (i := 1) rfl (by first | exact .inl rfl | exact .inr (.inl rfl) | exact .inr (.inr rfl))) a_nil)))) a_nil))))
      (b_cons (s_set (i := 6) sc_law.nd rfl (by first | exact .inl rfl | exact .inr rfl) (v_callB T.ok__law_line (hr.mono (by decide)) rfl T.g__law_line T.F__law_line.kp T.bd__law_line passN (a_cons (v_var (i := 5) rfl (by first | exact .inl rfl | exact .inr (.inl rfl) | exact .inr (.inr rfl))) a_nil)))
      (b_cons (s_if (VW.t (w_or (t_not (t_tru (v_callBG T.ok__law_same (hr.mono (by decide)) hgd rfl T.g__law_same T.F__law_same.kp T.bd__law_same (a_cons (v_callB T.ok_write_deed (hr.mono (by decide)) rfl T.g_write_deed T.F_write_deed.kp T.bd_write_deed passN (a_cons (v_var (i := 5) rfl (by first | exact .inl rfl | exact .inr (.inl rfl) | exact .inr (.inr rfl))) a_nil)) (a_cons (v_var (i := 6) rfl (by first | exact .inl rfl | exact .inr (.inl rfl) | exact .inr (.inr rfl))) a_nil))))) (w_or1 (t_not (t_tru (v_callBG T.ok__law_same (hr.mono (by decide)) hgd rfl T.g__law_same T.F__law_same.kp T.bd__law_same (a_cons (v_call (md := [false]) T.ok_read_deed (hr.mono (by decide)) rfl T.g_read_deed T.F_read_deed.kp T.bd_read_deed passN (a_cons (v_var (i := 6) rfl (by first | exact .inl rfl | exact .inr (.inl rfl) | exact .inr (.inr rfl))) a_nil)) (a_cons (v_var (i := 5) rfl (by first | exact .inl rfl | exact .inr (.inl rfl) | exact .inr (.inr rfl))) a_nil)))))))) (b_one (s_ret v_bl)) b_nil)
      (b_cons (s_set (i := 7) sc_law.nd rfl (by first | exact .inl rfl | exact .inr rfl) (v_call (md := [true, false]) T.ok__law_near (hr.mono (by decide)) rfl T.g__law_near T.F__law_near.kp T.bd__law_near passN (a_cons (v_var (i := 1) rfl (by first | exact .inl rfl | exact .inr (.inl rfl) | exact .inr (.inr rfl))) (a_cons (v_var (i := 6) rfl (by first | exact .inl rfl | exact .inr (.inl rfl) | exact .inr (.inr rfl))) a_nil))))
      (b_cons (s_set (i := 8) sc_law.nd rfl (by first | exact .inl rfl | exact .inr rfl) (v_call (md := [false]) T.ok_read_deed (hr.mono (by decide)) rfl T.g_read_deed T.F_read_deed.kp T.bd_read_deed passN (a_cons (v_var (i := 7) rfl (by first | exact .inl rfl | exact .inr (.inl rfl) | exact .inr (.inr rfl))) a_nil)))
      (b_cons (s_if (t_notN (v_var (i := 8) rfl (by first | exact .inl rfl | exact .inr (.inl rfl) | exact .inr (.inr rfl))) v_non) (b_cons (s_set (i := 10) sc_law.nd rfl (by first | exact .inl rfl | exact .inr rfl) (v_getR (Nat.lt_of_le_of_lt (Nat.add_le_add_left (by decide : 1 ≤ 65) _) (u65 hr)) (v_disp (md := [false, false, false, false]) (vd_cons v_int (vd_cons v_int (vd_cons v_int (vd_cons v_int vd_nil))))) (v_ix (v_var (i := 8) rfl (by first | exact .inl rfl | exact .inr (.inl rfl) | exact .inr (.inr rfl))) v_int (fun _ _ => rfl)) (fun _ _ => rfl)))
      (b_one (s_if (VW.t (w_or (t_ne (u64 hr) (v_callB T.ok__law_line (hr.mono (by decide)) rfl T.g__law_line T.F__law_line.kp T.bd__law_line passN (a_cons (v_var (i := 8) rfl (by first | exact .inl rfl | exact .inr (.inl rfl) | exact .inr (.inr rfl))) a_nil)) (v_var (i := 7) rfl (by first | exact .inl rfl | exact .inr (.inl rfl) | exact .inr (.inr rfl)))) (w_or (t_lt (v_len rfl T.b_len (a_cons (v_ix (v_var (i := 8) rfl (by first | exact .inl rfl | exact .inr (.inl rfl) | exact .inr (.inr rfl))) v_int (fun _ _ => rfl)) a_nil)) (v_var (i := 10) rfl (by first | exact .inl rfl | exact .inr (.inl rfl) | exact .inr (.inr rfl)))) (w_or1 (VW.t (w_and (t_in (u65 hr) (v_ix (v_var (i := 8) rfl (by first | exact .inl rfl | exact .inr (.inl rfl) | exact .inr (.inr rfl))) v_int (fun _ _ => rfl)) (v_lst (a_cons v_str (a_cons v_str a_nil))) (by rfl)) (w_and1 (t_ne (u64 hr) (v_len rfl T.b_len (a_cons (v_ix (v_var (i := 8) rfl (by first | exact .inl rfl | exact .inr (.inl rfl) | exact .inr (.inr rfl))) v_int (fun _ _ => rfl)) a_nil)) (v_var (i := 10) rfl (by first | exact .inl rfl | exact .inr (.inl rfl) | exact .inr (.inr rfl))))))))))) (b_one (s_ret v_bl)) b_nil))) (b_one (s_if (t_eq (u64 hr) (v_var (i := 7) rfl (by first | exact .inl rfl | exact .inr (.inl rfl) | exact .inr (.inr rfl))) (v_var (i := 6) rfl (by first | exact .inl rfl | exact .inr (.inl rfl) | exact .inr (.inr rfl)))) (b_one (s_ret v_bl)) b_nil)))
      (b_cons (s_set (i := 9) sc_law.nd rfl (by first | exact .inl rfl | exact .inr rfl) (v_call (md := [true]) T.ok__law_number (hr.mono (by decide)) rfl T.g__law_number T.F__law_number.kp T.bd__law_number passN (a_cons (v_var (i := 1) rfl (by first | exact .inl rfl | exact .inr (.inl rfl) | exact .inr (.inr rfl))) a_nil)))
      (b_one (s_if (VW.t (w_or (t_not (t_tru (v_callBG T.ok__law_same (hr.mono (by decide)) hgd rfl T.g__law_same T.F__law_same.kp T.bd__law_same (a_cons (v_callB T.ok_read_number (hr.mono (by decide)) rfl T.g_read_number T.F_read_number.kp T.bd_read_number passN (a_cons (v_strI rfl T.b_str (a_cons (v_var (i := 9) rfl (by first | exact .inl rfl | exact .inr (.inl rfl) | exact .inr (.inr rfl))) a_nil)) a_nil)) (a_cons (v_var (i := 9) rfl (by first | exact .inl rfl | exact .inr (.inl rfl) | exact .inr (.inr rfl))) a_nil))))) (w_or1 (t_notN (v_callB T.ok_read_number (hr.mono (by decide)) rfl T.g_read_number T.F_read_number.kp T.bd_read_number passN (a_cons (v_addS v_str (v_strI rfl T.b_str (a_cons (v_var (i := 9) rfl (by first | exact .inl rfl | exact .inr (.inl rfl) | exact .inr (.inr rfl))) a_nil))) a_nil)) v_non)))) (b_one (s_ret v_bl)) b_nil))))))))))))
      (b_one (s_ret (v_and (v_eq (u64 hr) (v_callB T.ok_read_number (hr.mono (by decide)) rfl T.g_read_number T.F_read_number.kp T.bd_read_number passN (a_cons (v_mulS v_str v_int) a_nil)) (v_intS rfl T.b_int (a_cons (v_mulS v_str v_int) a_nil))) (v_and (v_isN (v_callB T.ok_read_number (hr.mono (by decide)) rfl T.g_read_number T.F_read_number.kp T.bd_read_number passN (a_cons (v_addS v_str (v_mulS v_str v_int)) a_nil)) v_non) (v_one (v_isN (v_callB T.ok_read_number (hr.mono (by decide)) rfl T.g_read_number T.F_read_number.kp T.bd_read_number passN (a_cons v_str a_nil)) v_non)))))))))
end
abbrev PR : Program := PySem.W.OpenLaw.prog PySem.Challenge.rw_veilcount_k60_lines_of_deeds
theorem ob_eq (s : PySem.W.SharedT) : ob s = hk.obs s.abs := obsZ_eq (HandSHeadRun.getT_eq s)
theorem facts {K : PySem.W.Frag} {h : Heap} {mg : Str → Option Value} (X : K.In h) (G : h.Ns mainGlobals mg) (c0 : SaysZ fa fn ex ini K) : Nonempty (Tx PR K mg) := by
  have c := c0.d
  have r0 : ex K = true := c0.more
  unfold ex at r0
  obtain ⟨m0, r0⟩ := Bool.and_eq_true_iff.mp r0
  obtain ⟨fd_read_number, F_read_number⟩ := c.def_ 0 (d := D_read_number) rfl
  obtain ⟨fd_write_deed, F_write_deed⟩ := c.def_ 1 (d := D_write_deed) rfl
  obtain ⟨fd_fits, F_fits⟩ := c.def_ 2 (d := D_fits) rfl
  obtain ⟨fd_read_deed, F_read_deed⟩ := c.def_ 3 (d := D_read_deed) rfl
  obtain ⟨fd__law_cell, F__law_cell⟩ := c.def_ 4 (d := D__law_cell) rfl
  obtain ⟨fd__law_row, F__law_row⟩ := c.def_ 5 (d := D__law_row) rfl
  obtain ⟨fd__law_box, F__law_box⟩ := c.def_ 6 (d := D__law_box) rfl
  obtain ⟨fd__law_draw, F__law_draw⟩ := c.def_ 7 (d := D__law_draw) rfl
  obtain ⟨fd__law_same, F__law_same⟩ := c.def_ 8 (d := D__law_same) rfl
  obtain ⟨fd__law_line, F__law_line⟩ := c.def_ 9 (d := D__law_line) rfl
  obtain ⟨fd__law_number, F__law_number⟩ := c.def_ 10 (d := D__law_number) rfl
  obtain ⟨fd__law_near, F__law_near⟩ := c.def_ 11 (d := D__law_near) rfl
  obtain ⟨fd_law, F_law⟩ := c.def_ 12 (d := D_law) rfl
  exact ⟨{ b_int := He.free_ok X G (c.fact 13 (f := .free "int") rfl), b_len := He.free_ok X G (c.fact 14 (f := .free "len") rfl), b_range := He.free_ok X G (c.fact 15 (f := .free "range") rfl), b_repr := He.free_ok X G (c.fact 16 (f := .free "repr") rfl), b_str := He.free_ok X G (c.fact 17 (f := .free "str") rfl), a_read_number := _, fd_read_number := fd_read_number, F_read_number := F_read_number, g_read_number := He.glo_ok X G (c.fact 0 (f := .glo "read_number") rfl), a_write_deed := _, fd_write_deed := fd_write_deed, F_write_deed := F_write_deed, g_write_deed := He.glo_ok X G (c.fact 1 (f := .glo "write_deed") rfl), a_fits := _, fd_fits := fd_fits, F_fits := F_fits, g_fits := He.glo_ok X G (c.fact 2 (f := .glo "fits") rfl), a_read_deed := _, fd_read_deed := fd_read_deed, F_read_deed := F_read_deed, g_read_deed := He.glo_ok X G (c.fact 3 (f := .glo "read_deed") rfl), a__law_cell := _, fd__law_cell := fd__law_cell, F__law_cell := F__law_cell, g__law_cell := He.glo_ok X G (c.fact 4 (f := .glo "_law_cell") rfl), a__law_row := _, fd__law_row := fd__law_row, F__law_row := F__law_row, g__law_row := He.glo_ok X G (c.fact 5 (f := .glo "_law_row") rfl), a__law_box := _, fd__law_box := fd__law_box, F__law_box := F__law_box, g__law_box := He.glo_ok X G (c.fact 6 (f := .glo "_law_box") rfl), a__law_draw := _, fd__law_draw := fd__law_draw, F__law_draw := F__law_draw, g__law_draw := He.glo_ok X G (c.fact 7 (f := .glo "_law_draw") rfl), a__law_same := _, fd__law_same := fd__law_same, F__law_same := F__law_same, g__law_same := He.glo_ok X G (c.fact 8 (f := .glo "_law_same") rfl), a__law_line := _, fd__law_line := fd__law_line, F__law_line := F__law_line, g__law_line := He.glo_ok X G (c.fact 9 (f := .glo "_law_line") rfl), a__law_number := _, fd__law_number := fd__law_number, F__law_number := F__law_number, g__law_number := He.glo_ok X G (c.fact 10 (f := .glo "_law_number") rfl), a__law_near := _, fd__law_near := fd__law_near, F__law_near := F__law_near, g__law_near := He.glo_ok X G (c.fact 11 (f := .glo "_law_near") rfl), a_law := _, fd_law := fd_law, F_law := F_law, g_law := He.glo_ok X G (c.fact 12 (f := .glo "law") rfl), gc_FIGURES := He.str_ok X G (c.fact 18 (f := .str "FIGURES" "0123456789") rfl), gt_WORDS := gtup_ok X G m0 }⟩
end V
open PySem PySem.W PySem.Calls PyProof.Rows
theorem PySem.Challenge.cw_veilcount_k60_lines_of_deeds_holds : PySem.Challenge.rw_veilcount_k60_lines_of_deeds.Holds := by
  w_on; o_law
  refine HandSHeadRun.head_any (r := OpenLaw.row PySem.Challenge.rw_veilcount_k60_lines_of_deeds) (q := view (OpenLaw.row PySem.Challenge.rw_veilcount_k60_lines_of_deeds).prog [16]) (H := V.hk) (ob := V.ob) (M := 4000) (loose := V.loose) (d := HandSHeadRun.topDef (OpenLaw.row PySem.Challenge.rw_veilcount_k60_lines_of_deeds).prog 16) (kwd := []) V.ob_eq
    (by kernel_rfl) (fun s => by kernel_rfl) V.run (by kernel_rfl) (by kernel_rfl) (by kernel_rfl) (by rfl) (by first | assumption | decide +kernel) (by decide +kernel) ⟨rfl, rfl, rfl, rfl, rfl, by decide +kernel⟩ ?hw ?hc
  case hw => w_witness2
  case hc =>
    refine VF.walk_G (l := PySem.Challenge.rw_veilcount_k60_lines_of_deeds) (n := 63) (k := 3) (x := "_law_script") rfl (by decide) (by kernel_rfl) ⟨rfl, by decide, by decide⟩ ?F
    intro w mg fa h Y G hmg0
    obtain ⟨K, KX, c⟩ := Y
    have hmg : mg ("law" : PySem.Str) = some (.ref fa) := by
      have e : (HandSHeadRun.topDef (OpenLaw.row PySem.Challenge.rw_veilcount_k60_lines_of_deeds).prog 16).name = ("law" : PySem.Str) := by kernel_rfl
      rw [← e]
      exact hmg0
    obtain ⟨T⟩ := V.facts KX G c
    have e := hmg.symm.trans T.g_law
    cases e
    have b := L2.FunD.bindsA (ps := ["_law_script"]) T.F_law fun _ _ _ _ _ _ us hl => match us, hl with | [_], _ => rfl
    exact ⟨K, T.fd_law, _, KX, fun s v => b s [v] rfl, fun H a ns hS => VF.law_sp (V.law_pure ns) hS, fun base _ _ => T.ok_law⟩
