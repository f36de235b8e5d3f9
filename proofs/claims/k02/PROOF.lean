import PyProof.Rows.All
import Wide.All
import OpenK.AllK
import Wide.FinOn
import HandS.HeadHook2
import HandS.HeadHook4
import HandS.ExcOwn
import HandS.ExcInit
import HandS.Head2
import HandS.ForMost
import HandS.IsInst
import HandS.Defaults
import HandS.Deep
import HandS.SortInts
import HandS.Conv
import HandS.Style
import KE.DataEq
import HandS.ExcField
import HandS.Nested
import HandS.FStr
import KE.KExcSuper
import HandS.ExcIs
import KE.KExcIs
import HandS.Zip
import KE.LtSeq
import HandS.CallSlots
import KE.SortData
import KE.DataFind
import HandS.SetFor
import HandS.Strs
import HandS.Text
import PyProof.StrBlock2
import HandS.Flow
import KE.KStateDown
import HandS.More
import HandS.WordsExc
import HandS.Head0
import HandS.Head1
import HandS.HeadEnd
import HandS.HeadHook1
import PySem.Challenge.RW_veilcount_k02_splits_are_joined_back
set_option Elab.async false
set_option linter.all false
set_option maxRecDepth 100000
set_option maxRecDepth 100000
set_option maxHeartbeats 4000000
namespace VF
set_option autoImplicit false
open PySem PySem.Spec PyProof.Rows L2
abbrev FnZ : Type := Option (Str × Str × Arguments × FuncBody × Scope × Addr × List Str × Addr)
def iniAt (K : PySem.W.Frag) (x : Str) : Addr := match PySem.W.findIn K (.ref (He.ga K x)) "__init__" with
  | some (some (.ref f)) => f
  | _ => 0
def fnZ (K : PySem.W.Frag) (a : Addr) : FnZ := match K.lookup a with
  | some ⟨_, _, .func fd, _⟩ => some (fd.name, fd.qualname, fd.params, fd.body, fd.scope, fd.globals, fd.closure.map (·.1), fd.builtins)
  | _ => none
structure IniD where
  cls : Str
  qual : Str
  params : Arguments
  body : List Stmt
  scope : Scope
def IniD.val (d : IniD) : FnZ := some ("__init__", d.qual, d.params, .stmts d.body, d.scope, mainGlobals, ["__class__"], builtinsNs)
structure SaysZ (fa : List He.Fa) (fn : List He.DefD) (ex : PySem.W.Frag → Bool) (ini : List IniD) (K : PySem.W.Frag) : Prop where
  d : He.SaysD fa fn K
  more : ex K = true
  ini : (ini.map fun d => fnZ K (iniAt K d.cls)) = ini.map IniD.val
theorem SaysZ.at {fa : List He.Fa} {fn : List He.DefD} {ex : PySem.W.Frag → Bool} {ini : List IniD} {K : PySem.W.Frag} (c : SaysZ fa fn ex ini K) (i : Nat) {d : IniD} (h : ini[i]? = some d := by rfl) : fnZ K (iniAt K d.cls) = d.val := by
  have e2 : (ini.map fun d => fnZ K (iniAt K d.cls))[i]? = (ini.map IniD.val)[i]? := by rw [c.ini]
  rw [List.getElem?_map, List.getElem?_map, h] at e2
  exact Option.some.inj e2
theorem runEq_of {r : PySem.W.OpenRow} {q : Program} {H : PySem.W.Hook} {ob : PySem.W.SharedT → H.α} {M : Nat} {loose : List Str} {w : World}
    (h1 : ∀ os : OsState, (HandSHeadRun.endF (HandSHeadRun.stepQ (HandSHeadRun.denQ HandSHeadRun.tabQ) r.prog w) M r.prog w os).map (fun s => HandSHeadRun.looksF r.prog (PySem.W.boot_heap w.params) s.abs) = some true)
    (h2 : ∀ os : OsState, (HandSHeadRun.endF (HandSHeadRun.stepQ (HandSHeadRun.denQ HandSHeadRun.tabQ) r.prog w) M r.prog w os).map (fun s => HandSHeadRun.seenQ q loose (importedModules r.prog.main.body) (fun s => PySem.W.xlAt q [] s && PySem.W.recOk r.toRowW.records s) s.abs) = some (PySem.W.openGood q loose))
    (h3 : ∀ os : OsState, (HandSHeadRun.endF (HandSHeadRun.stepQ (HandSHeadRun.denQ HandSHeadRun.tabQ) r.prog w) M r.prog w os).map ob = some (H.val w)) : HandSHeadRun.RunEq r q H ob M loose w := by
  intro os
  have a1 := h1 os
  have a2 := h2 os
  have a3 := h3 os
  cases z : HandSHeadRun.endF (HandSHeadRun.stepQ (HandSHeadRun.denQ HandSHeadRun.tabQ) r.prog w) M r.prog w os with
  | none => rw [z] at a1; cases a1
  | some s =>
    rw [z] at a1 a2 a3
    rw [Option.map_some] at a1 a2 a3
    rw [Option.map_some, Option.some.inj a1, Option.some.inj a2, Option.some.inj a3]
end VF
set_option maxHeartbeats 0
namespace V
open PySem PySem.Spec PyProof.Rows L2 VF
def top (i : Nat) : Stmt := PySem.Challenge.pw_veilcount_k02_splits_are_joined_back.main.body.getD i (.Pass ⟨0, 0, 0, 0⟩)
abbrev s_total : Stmt := top 1
abbrev s_split : Stmt := top 3
abbrev s_join : Stmt := top 4
abbrev s_fresh_table : Stmt := top 5
abbrev s_values_of : Stmt := top 6
abbrev s_column : Stmt := top 7
abbrev s_changed_table : Stmt := top 8
abbrev s__law_cell : Stmt := top 10
abbrev s__law_digits : Stmt := top 11
abbrev s__law_draw : Stmt := top 12
abbrev s__law_prime : Stmt := top 13
abbrev s__law_numbers : Stmt := top 14
abbrev s__law_order : Stmt := top 15
abbrev s__law_is_int : Stmt := top 16
abbrev s__law_are_values : Stmt := top 17
abbrev s__law_right : Stmt := top 18
abbrev s_law : Stmt := top 19
def D_total : He.DefD := ⟨("total", none), "total", "total", defArgs s_total, defBody s_total, defScope s_total, [], []⟩
def D_split : He.DefD := ⟨("split", none), "split", "split", defArgs s_split, defBody s_split, defScope s_split, [], []⟩
def D_join : He.DefD := ⟨("join", none), "join", "join", defArgs s_join, defBody s_join, defScope s_join, [], []⟩
def D_fresh_table : He.DefD := ⟨("fresh_table", none), "fresh_table", "fresh_table", defArgs s_fresh_table, defBody s_fresh_table, defScope s_fresh_table, [], []⟩
def D_values_of : He.DefD := ⟨("values_of", none), "values_of", "values_of", defArgs s_values_of, defBody s_values_of, defScope s_values_of, [], []⟩
def D_column : He.DefD := ⟨("column", none), "column", "column", defArgs s_column, defBody s_column, defScope s_column, [], []⟩
def D_changed_table : He.DefD := ⟨("changed_table", none), "changed_table", "changed_table", defArgs s_changed_table, defBody s_changed_table, defScope s_changed_table, [], []⟩
def D__law_cell : He.DefD := ⟨("_law_cell", none), "_law_cell", "_law_cell", defArgs s__law_cell, defBody s__law_cell, defScope s__law_cell, [], []⟩
def D__law_digits : He.DefD := ⟨("_law_digits", none), "_law_digits", "_law_digits", defArgs s__law_digits, defBody s__law_digits, defScope s__law_digits, [], []⟩
def D__law_draw : He.DefD := ⟨("_law_draw", none), "_law_draw", "_law_draw", defArgs s__law_draw, defBody s__law_draw, defScope s__law_draw, [], []⟩
def D__law_prime : He.DefD := ⟨("_law_prime", none), "_law_prime", "_law_prime", defArgs s__law_prime, defBody s__law_prime, defScope s__law_prime, [], []⟩
def D__law_numbers : He.DefD := ⟨("_law_numbers", none), "_law_numbers", "_law_numbers", defArgs s__law_numbers, defBody s__law_numbers, defScope s__law_numbers, [], []⟩
def D__law_order : He.DefD := ⟨("_law_order", none), "_law_order", "_law_order", defArgs s__law_order, defBody s__law_order, defScope s__law_order, [], []⟩
def D__law_is_int : He.DefD := ⟨("_law_is_int", none), "_law_is_int", "_law_is_int", defArgs s__law_is_int, defBody s__law_is_int, defScope s__law_is_int, [], []⟩
def D__law_are_values : He.DefD := ⟨("_law_are_values", none), "_law_are_values", "_law_are_values", defArgs s__law_are_values, defBody s__law_are_values, defScope s__law_are_values, [], []⟩
def D__law_right : He.DefD := ⟨("_law_right", none), "_law_right", "_law_right", defArgs s__law_right, defBody s__law_right, defScope s__law_right, [], []⟩
def D_law : He.DefD := ⟨("law", none), "law", "law", defArgs s_law, defBody s_law, defScope s_law, [], []⟩
def fn : List He.DefD := [D_total, D_split, D_join, D_fresh_table, D_values_of, D_column, D_changed_table, D__law_cell, D__law_digits, D__law_draw, D__law_prime, D__law_numbers, D__law_order, D__law_is_int, D__law_are_values, D__law_right, D_law]
def fa : List He.Fa := [.glo "total", .glo "split", .glo "join", .glo "fresh_table", .glo "values_of", .glo "column", .glo "changed_table", .glo "_law_cell", .glo "_law_digits", .glo "_law_draw", .glo "_law_prime", .glo "_law_numbers", .glo "_law_order", .glo "_law_is_int", .glo "_law_are_values", .glo "_law_right", .glo "law", .free "bool", .free "int", .free "isinstance", .free "len", .free "list", .free "range", .free "sum", .free "zip"]
abbrev R : PySem.W.OpenRow := PySem.W.OpenLaw.row PySem.Challenge.rw_veilcount_k02_splits_are_joined_back
abbrev hk : PySem.W.Hook := He.hookD 4 fa fn
def ob (s : PySem.W.SharedT) : He.AlD := He.obsDG 4 fa fn (HandSHeadRun.getT s)
def loose : List Str := (["__name__", "total", "split", "join", "fresh_table", "values_of", "column", "changed_table", "_law_cell", "_law_digits", "_law_draw", "_law_prime", "_law_numbers", "_law_order", "_law_is_int", "_law_are_values", "_law_right"] : List Str)
theorem run1 (w : World) : ∀ os : OsState, (HandSHeadRun.endF (HandSHeadRun.stepQ (HandSHeadRun.denQ HandSHeadRun.tabQ) R.prog w) 2000 R.prog w os).map (fun s => HandSHeadRun.looksF R.prog (PySem.W.boot_heap w.params) s.abs) = some true := by
  intro os
  kernel_rfl
theorem run2 (w : World) : ∀ os : OsState, (HandSHeadRun.endF (HandSHeadRun.stepQ (HandSHeadRun.denQ HandSHeadRun.tabQ) R.prog w) 2000 R.prog w os).map (fun s => HandSHeadRun.seenQ (PySem.W.view R.prog [19]) loose (importedModules R.prog.main.body) (fun s => PySem.W.xlAt (PySem.W.view R.prog [19]) [] s && PySem.W.recOk R.toRowW.records s) s.abs) = some (PySem.W.openGood (PySem.W.view R.prog [19]) loose) := by
  intro os
  kernel_rfl
theorem run3 (w : World) : ∀ os : OsState, (HandSHeadRun.endF (HandSHeadRun.stepQ (HandSHeadRun.denQ HandSHeadRun.tabQ) R.prog w) 2000 R.prog w os).map ob = some (hk.val w) := by
  intro os
  kernel_rfl
theorem run (w : World) : HandSHeadRun.RunEq R (PySem.W.view R.prog [19]) hk ob 2000 loose w := VF.runEq_of (run1 w) (run2 w) (run3 w)
end V
set_option maxHeartbeats 4000000
set_option maxRecDepth 100000
set_option maxHeartbeats 4000000
namespace VF
set_option autoImplicit false
open PySem PySem.Spec PyProof.Rows L2
inductive D where
  | non | bl (b : Bool) | int (i : Int) | str (s : Str) | ty (n : String)
  | lst (xs : List D) | tup (xs : List D) | dct (ks : List Key) (xs : List D) | obj (c : Str) (ns : List Str) (xs : List D)
  | scr (ns : List Int)
  | hl
  deriving Inhabited
inductive SV where
  | fz (d : D) | ol (xs : List SV) | oo (c : Str) (ns : List Str) (xs : List SV) | od (ks : List Key) (xs : List SV)
  deriving Inhabited
inductive AT where
  | fz (v : V) (d : D) | ol (p : Addr) (xs : List AT) | oo (p C dx : Addr) (c : Str) (ns : List Str) (xs : List AT) | od (p : Addr) (ks : List Key) (xs : List AT)
def AT.val : AT → V
  | .fz v _ => v
  | .ol p _ => .ref p
  | .oo p _ _ _ _ _ => .ref p
  | .od p _ _ => .ref p
mutual
def SV.toD : SV → D
  | .fz d => d
  | .ol xs => .lst (SV.toDs xs)
  | .oo c ns xs => .obj c ns (SV.toDs xs)
  | .od ks xs => .dct ks (SV.toDs xs)
def SV.toDs : List SV → List D
  | [] => []
  | x :: xs => SV.toD x :: SV.toDs xs
end
mutual
def AT.er : AT → SV
  | .fz _ d => .fz d
  | .ol _ xs => .ol (AT.ers xs)
  | .oo _ _ _ c ns xs => .oo c ns (AT.ers xs)
  | .od _ ks xs => .od ks (AT.ers xs)
def AT.ers : List AT → List SV
  | [] => []
  | x :: xs => AT.er x :: AT.ers xs
end
def vals (xs : List AT) : List V := xs.map AT.val
mutual
def AT.cells : AT → List (Addr × HO)
  | .fz _ _ => []
  | .ol p xs => (p, .lst (vals xs)) :: AT.cellsL xs
  | .oo p C dx _ ns xs => (p, .ins C dx (ns.zip (vals xs))) :: AT.cellsL xs
  | .od p ks xs => (p, .dK (ks.zip (vals xs))) :: AT.cellsL xs
def AT.cellsL : List AT → List (Addr × HO)
  | [] => []
  | x :: xs => AT.cells x ++ AT.cellsL xs
end
open AT (cells cellsL er ers)
section
variable (K : PySem.W.Frag) (mg : Str → Option Value)
mutual
def Rep (F : Hp) : V → D → Prop
  | v, .non => v = .non
  | v, .bl b => v = .bl b
  | v, .int i => v = .int i
  | v, .str s => v = .str s
  | v, .ty n => v = .ty n
  | v, .lst ds => ∃ p vs, v = .ref p ∧ F p = some (.lst vs) ∧ Reps F vs ds
  | v, .tup ds => ∃ p vs, v = .ref p ∧ SqT K F p vs ∧ Reps F vs ds
  | v, .dct ks ds => ∃ p vs, v = .ref p ∧ F p = some (.dK (ks.zip vs)) ∧ ks.length = vs.length ∧ Reps F vs ds
  | v, .obj c ns ds => ∃ p C dx vs, v = .ref p ∧ mg c = some (.ref C) ∧ F p = some (.ins C dx (ns.zip vs)) ∧ ns.length = vs.length ∧ Reps F vs ds
  | v, .scr ns => ∃ p, v = .ref p ∧ SqL K F p (ns.map V.int)
  | v, .hl => ∃ p, v = .ref p
def Reps (F : Hp) : List V → List D → Prop
  | [], [] => True
  | v :: vs, d :: ds => Rep F v d ∧ Reps F vs ds
  | _, _ => False
end
mutual
def Ok (F : Hp) : AT → Prop
  | .fz v d => Rep K mg F v d
  | .ol _ xs => Oks F xs
  | .oo _ C _ c ns xs => mg c = some (.ref C) ∧ ns.length = xs.length ∧ Oks F xs
  | .od _ ks xs => ks.length = xs.length ∧ Oks F xs
def Oks (F : Hp) : List AT → Prop
  | [] => True
  | x :: xs => Ok F x ∧ Oks F xs
end
structure Good (F H : Hp) (ts : List AT) : Prop where
  at_ : ∀ c ∈ cellsL ts, H c.1 = some c.2 ∧ F c.1 = none
  ok : Oks K mg F ts
  nd : ((cellsL ts).map (·.1)).Nodup
end
theorem SqT_same {K : PySem.W.Frag} {H H' : Hp} {a : Addr} {xs : List V} (e : Same H H') (h : SqT K H a xs) : SqT K H' a xs := by
  rcases h with h | h
  · rcases h with h | ⟨o, h⟩
    · exact .inl (.inl (e _ _ h))
    · exact .inl (.inr ⟨o, e _ _ h⟩)
  · exact .inr h
section
variable {K : PySem.W.Frag} {mg : Str → Option Value} {F F' H H' : Hp}
mutual
theorem Rep.same (s : Same F F') : ∀ {d : D} {v : V}, Rep K mg F v d → Rep K mg F' v d
  | .non, _, h => h
  | .bl _, _, h => h
  | .int _, _, h => h
  | .str _, _, h => h
  | .ty _, _, h => h
  | .lst ds, _, ⟨p, vs, e, h1, h2⟩ => ⟨p, vs, e, s _ _ h1, Reps.same s h2⟩
  | .tup ds, _, ⟨p, vs, e, h1, h2⟩ => ⟨p, vs, e, SqT_same s h1, Reps.same s h2⟩
  | .dct ks ds, _, ⟨p, vs, e, h1, h3, h2⟩ => ⟨p, vs, e, s _ _ h1, h3, Reps.same s h2⟩
  | .obj c ns ds, _, ⟨p, C, dx, vs, e, h0, h1, h3, h2⟩ => ⟨p, C, dx, vs, e, h0, s _ _ h1, h3, Reps.same s h2⟩
  | .scr ns, _, ⟨p, e, h1⟩ => ⟨p, e, s.seq h1⟩
  | .hl, _, h => h
theorem Reps.same (s : Same F F') : ∀ {ds : List D} {vs : List V}, Reps K mg F vs ds → Reps K mg F' vs ds
  | [], [], _ => trivial
  | _ :: _, _ :: _, ⟨h1, h2⟩ => ⟨Rep.same s h1, Reps.same s h2⟩
  | [], _ :: _, h => h.elim
  | _ :: _, [], h => h.elim
end
theorem Reps.length : ∀ {ds : List D} {vs : List V}, Reps K mg F vs ds → vs.length = ds.length
  | [], [], _ => rfl
  | _ :: _, _ :: _, ⟨_, h2⟩ => congrArg Nat.succ (Reps.length h2)
  | [], _ :: _, h => h.elim
  | _ :: _, [], h => h.elim
theorem Reps.get : ∀ {ds : List D} {vs : List V} {i : Nat} {d : D}, Reps K mg F vs ds → ds[i]? = some d → ∃ v, vs[i]? = some v ∧ Rep K mg F v d
  | d :: _, v :: _, 0, _, ⟨h1, _⟩, e => ⟨v, rfl, by cases e; exact h1⟩
  | _ :: ds, _ :: vs, i + 1, _, ⟨_, h2⟩, e => by
    obtain ⟨v, e1, e2⟩ := Reps.get (i := i) h2 (by simpa using e)
    exact ⟨v, by simpa using e1, e2⟩
  | [], _ :: _, _, _, h, _ => h.elim
  | _ :: _, [], _, _, h, _ => h.elim
  | [], [], _, _, _, e => by simp at e
theorem Reps.getV : ∀ {ds : List D} {vs : List V} {i : Nat} {v : V}, Reps K mg F vs ds → vs[i]? = some v → ∃ d, ds[i]? = some d ∧ Rep K mg F v d
  | d :: _, v :: _, 0, _, ⟨h1, _⟩, e => ⟨d, rfl, by cases e; exact h1⟩
  | _ :: ds, _ :: vs, i + 1, _, ⟨_, h2⟩, e => by
    obtain ⟨v, e1, e2⟩ := Reps.getV (i := i) h2 (by simpa using e)
    exact ⟨v, by simpa using e1, e2⟩
  | [], _ :: _, _, _, h, _ => h.elim
  | _ :: _, [], _, _, h, _ => h.elim
  | [], [], _, _, _, e => by simp at e
theorem Reps.append : ∀ {ds es : List D} {vs us : List V}, Reps K mg F vs ds → Reps K mg F us es → Reps K mg F (vs ++ us) (ds ++ es)
  | [], _, [], _, _, h => h
  | _ :: _, _, _ :: _, _, ⟨h1, h2⟩, h => ⟨h1, Reps.append h2 h⟩
  | [], _, _ :: _, _, h, _ => h.elim
  | _ :: _, _, [], _, h, _ => h.elim
theorem Reps.take (n : Nat) : ∀ {ds : List D} {vs : List V}, Reps K mg F vs ds → Reps K mg F (vs.take n) (ds.take n) := by
  induction n with
  | zero => intro ds vs _; simp only [List.take_zero]; trivial
  | succ n ih =>
    intro ds vs h
    cases ds with
    | nil => cases vs with
      | nil => trivial
      | cons _ _ => exact h.elim
    | cons d ds => cases vs with
      | nil => exact h.elim
      | cons v vs => exact ⟨h.1, ih h.2⟩
theorem Reps.drop (n : Nat) : ∀ {ds : List D} {vs : List V}, Reps K mg F vs ds → Reps K mg F (vs.drop n) (ds.drop n) := by
  induction n with
  | zero => intro ds vs h; simpa only [List.drop_zero] using h
  | succ n ih =>
    intro ds vs h
    cases ds with
    | nil => cases vs with
      | nil => trivial
      | cons _ _ => exact h.elim
    | cons d ds => cases vs with
      | nil => exact h.elim
      | cons v vs => exact ih h.2
theorem Reps.set {v : V} {d : D} (h0 : Rep K mg F v d) : ∀ {ds : List D} {vs : List V} (n : Nat), Reps K mg F vs ds → Reps K mg F (vs.set n v) (ds.set n d)
  | [], [], _, _ => trivial
  | _ :: _, _ :: _, 0, ⟨_, h2⟩ => ⟨h0, h2⟩
  | _ :: _, _ :: _, n + 1, ⟨h1, h2⟩ => ⟨h1, Reps.set h0 n h2⟩
  | [], _ :: _, _, h => h.elim
  | _ :: _, [], _, h => h.elim
theorem Reps.ints : ∀ {ns : List Int} {vs : List V}, Reps K mg F vs (ns.map D.int) → vs = ns.map V.int
  | [], [], _ => rfl
  | n :: ns, v :: vs, ⟨h1, h2⟩ => by
    have e : v = V.int n := h1
    rw [e, Reps.ints h2]
    rfl
  | [], _ :: _, h => h.elim
  | _ :: _, [], h => h.elim
mutual
theorem Ok.same (s : Same F F') : ∀ {t : AT}, Ok K mg F t → Ok K mg F' t
  | .fz _ _, h => Rep.same s h
  | .ol _ xs, h => Oks.same s h
  | .oo _ _ _ _ _ xs, ⟨h1, h2, h3⟩ => ⟨h1, h2, Oks.same s h3⟩
  | .od _ _ xs, ⟨h2, h3⟩ => ⟨h2, Oks.same s h3⟩
theorem Oks.same (s : Same F F') : ∀ {ts : List AT}, Oks K mg F ts → Oks K mg F' ts
  | [], _ => trivial
  | _ :: _, ⟨h1, h2⟩ => ⟨Ok.same s h1, Oks.same s h2⟩
end
theorem Oks.append : ∀ {ts us : List AT}, Oks K mg F (ts ++ us) ↔ Oks K mg F ts ∧ Oks K mg F us
  | [], us => ⟨fun h => ⟨trivial, h⟩, fun h => h.2⟩
  | t :: ts, us => by
    show (Ok K mg F t ∧ Oks K mg F (ts ++ us)) ↔ (Ok K mg F t ∧ Oks K mg F ts) ∧ Oks K mg F us
    rw [Oks.append (ts := ts)]
    exact ⟨fun ⟨a, b, c⟩ => ⟨⟨a, b⟩, c⟩, fun ⟨⟨a, b⟩, c⟩ => ⟨a, b, c⟩⟩
theorem Oks.mem : ∀ {ts : List AT}, Oks K mg F ts ↔ ∀ t ∈ ts, Ok K mg F t
  | [] => ⟨fun _ _ h => absurd h List.not_mem_nil, fun _ => trivial⟩
  | t :: ts => by
    show (Ok K mg F t ∧ Oks K mg F ts) ↔ _
    rw [Oks.mem (ts := ts), List.forall_mem_cons]
theorem cellsL_append : ∀ (ts us : List AT), cellsL (ts ++ us) = cellsL ts ++ cellsL us
  | [], _ => rfl
  | t :: ts, us => by
    show cells t ++ cellsL (ts ++ us) = (cells t ++ cellsL ts) ++ cellsL us
    rw [cellsL_append ts us, List.append_assoc]
theorem cellsL_eq : ∀ (ts : List AT), cellsL ts = ts.flatMap cells
  | [] => rfl
  | t :: ts => by
    show cells t ++ cellsL ts = _
    rw [cellsL_eq ts, List.flatMap_cons]
theorem ers_eq : ∀ (ts : List AT), ers ts = ts.map er
  | [] => rfl
  | t :: ts => congrArg (er t :: ·) (ers_eq ts)
theorem toDs_eq : ∀ (ts : List SV), SV.toDs ts = ts.map SV.toD
  | [] => rfl
  | t :: ts => congrArg (SV.toD t :: ·) (toDs_eq ts)
theorem ers_length (ts : List AT) : (ers ts).length = ts.length := by rw [ers_eq, List.length_map]
mutual
theorem rep_of : ∀ (t : AT), (∀ c ∈ cells t, H c.1 = some c.2) → Same F H → Ok K mg F t → Rep K mg H t.val (SV.toD (er t))
  | .fz v d, _, s, h => Rep.same s h
  | .ol p xs, hc, s, h => ⟨p, vals xs, rfl, hc _ List.mem_cons_self, reps_of xs (fun c hm => hc c (List.mem_cons_of_mem _ hm)) s h⟩
  | .oo p C dx c ns xs, hc, s, ⟨h1, h2, h3⟩ => ⟨p, C, dx, vals xs, rfl, h1, hc _ List.mem_cons_self, by rw [h2]; exact (List.length_map _).symm, reps_of xs (fun c hm => hc c (List.mem_cons_of_mem _ hm)) s h3⟩
  | .od p ks xs, hc, s, ⟨h2, h3⟩ => ⟨p, vals xs, rfl, hc _ List.mem_cons_self, by rw [h2]; exact (List.length_map _).symm, reps_of xs (fun c hm => hc c (List.mem_cons_of_mem _ hm)) s h3⟩
theorem reps_of : ∀ (ts : List AT), (∀ c ∈ cellsL ts, H c.1 = some c.2) → Same F H → Oks K mg F ts → Reps K mg H (vals ts) (SV.toDs (ers ts))
  | [], _, _, _ => trivial
  | t :: ts, hc, s, ⟨h1, h2⟩ => ⟨rep_of t (fun c hm => hc c (List.mem_append_left _ hm)) s h1, reps_of ts (fun c hm => hc c (List.mem_append_right _ hm)) s h2⟩
end
theorem Good.rep {ts : List AT} {t : AT} (g : Good K mg F H ts) (s : Same F H) (h : t ∈ ts) : Rep K mg H t.val (SV.toD (er t)) := by
  refine rep_of t (fun c hc => (g.at_ c ?_).1) s (Oks.mem.mp g.ok t h)
  rw [cellsL_eq]
  exact List.mem_flatMap.mpr ⟨t, h, hc⟩
theorem cellsL_perm {ts us : List AT} (p : ts.Perm us) : (cellsL ts).Perm (cellsL us) := by
  rw [cellsL_eq, cellsL_eq]
  exact p.flatMap_right _
theorem Good.perm {ts us : List AT} (g : Good K mg F H ts) (p : ts.Perm us) : Good K mg F H us where
  at_ := fun c hc => g.at_ c ((cellsL_perm p).mem_iff.mpr hc)
  ok := Oks.mem.mpr fun t ht => Oks.mem.mp g.ok t (p.mem_iff.mpr ht)
  nd := (((cellsL_perm p).map _).nodup_iff).mp g.nd
theorem Good.sub {ts us : List AT} (g : Good K mg F H (ts ++ us)) : Good K mg F H us where
  at_ := fun c hc => g.at_ c (by rw [cellsL_append]; exact List.mem_append_right _ hc)
  ok := (Oks.append.mp g.ok).2
  nd := by
    have := g.nd
    rw [cellsL_append, List.map_append] at this
    exact (List.nodup_append.mp this).2.1
theorem Good.fz {ts : List AT} {v : V} {d : D} (g : Good K mg F H ts) (r : Rep K mg F v d) : Good K mg F H (.fz v d :: ts) :=
  ⟨g.at_, ⟨r, g.ok⟩, g.nd⟩
theorem Good.unfz {ts : List AT} {v : V} {d : D} (g : Good K mg F H (.fz v d :: ts)) : Good K mg F H ts ∧ Rep K mg F v d :=
  ⟨⟨g.at_, g.ok.2, g.nd⟩, g.ok.1⟩
theorem Good.tail {ts : List AT} {t : AT} (g : Good K mg F H (t :: ts)) : Good K mg F H ts := Good.sub (ts := [t]) g
def frz (cs : List (Addr × HO)) (F : Hp) : Hp := fun a => match cs.lookup a with
  | some o => some o
  | none => F a
theorem lookup_of_mem {α β : Type} [BEq α] [LawfulBEq α] : ∀ {l : List (α × β)} {a : α} {b : β}, (l.map (·.1)).Nodup → (a, b) ∈ l → l.lookup a = some b
  | (c, d) :: l, a, b, nd, h => by
    rw [List.map_cons, List.nodup_cons] at nd
    rw [List.lookup_cons]
    rcases List.mem_cons.mp h with e | h
    · cases e
      simp
    · have ne : a ≠ c := fun e => nd.1 (e ▸ List.mem_map_of_mem (f := (·.1)) h)
      have : (a == c) = false := by simpa using ne
      rw [this]
      exact lookup_of_mem nd.2 h
theorem mem_of_look {α β : Type} [BEq α] [LawfulBEq α] : ∀ {l : List (α × β)} {a : α} {b : β}, l.lookup a = some b → (a, b) ∈ l
  | (c, d) :: l, a, b, h => by
    rw [List.lookup_cons] at h
    cases e : (a == c) with
    | true =>
      rw [e] at h
      have e2 : a = c := by simpa using e
      subst e2
      cases h
      exact List.mem_cons_self
    | false =>
      rw [e] at h
      exact List.mem_cons_of_mem _ (mem_of_look h)
theorem frz_same {cs : List (Addr × HO)} (h : ∀ c ∈ cs, F c.1 = none) : Same F (frz cs F) := fun a o e => by
  unfold frz
  cases q : cs.lookup a with
  | none => exact e
  | some u =>
    have := h _ (mem_of_look q)
    rw [e] at this
    cases this
theorem frz_le {cs : List (Addr × HO)} (s : Same F H) (h : ∀ c ∈ cs, H c.1 = some c.2) : Same (frz cs F) H := fun a o e => by
  unfold frz at e
  cases q : cs.lookup a with
  | none => rw [q] at e; exact s a o e
  | some u =>
    rw [q] at e
    cases e
    exact h _ (mem_of_look q)
theorem frz_out {cs : List (Addr × HO)} {a : Addr} (h : a ∉ cs.map (·.1)) : frz cs F a = F a := by
  unfold frz
  cases q : cs.lookup a with
  | none => rfl
  | some u => exact absurd (List.mem_map_of_mem (f := (·.1)) (mem_of_look q)) h
theorem Good.freeze {ts : List AT} {t : AT} (g : Good K mg F H (t :: ts)) (s : Same F H) :
    Same F (frz (cells t) F) ∧ Same (frz (cells t) F) H ∧ Good K mg (frz (cells t) F) H (.fz t.val (SV.toD (er t)) :: ts) := by
  have hc : ∀ c ∈ cells t, H c.1 = some c.2 ∧ F c.1 = none := fun c h => g.at_ c (List.mem_append_left _ h)
  have nd := g.nd
  have nd2 : ((cells t ++ cellsL ts).map (·.1)).Nodup := nd
  rw [List.map_append, List.nodup_append] at nd2
  have s1 : Same F (frz (cells t) F) := frz_same fun c h => (hc c h).2
  refine ⟨s1, frz_le s fun c h => (hc c h).1, ⟨fun c h => ?_, ⟨?_, Oks.same s1 g.ok.2⟩, nd2.2.1⟩⟩
  · have h' := g.at_ c (List.mem_append_right _ h)
    refine ⟨h'.1, ?_⟩
    rw [frz_out fun q => nd2.2.2 _ q _ (List.mem_map_of_mem (f := (·.1)) h) rfl]
    exact h'.2
  · refine rep_of t (fun c h => ?_) s1 g.ok.1
    unfold frz
    rw [lookup_of_mem (l := cells t) nd2.1 (show (c.1, c.2) ∈ cells t from h)]
end
end VF
set_option maxRecDepth 100000
set_option maxHeartbeats 4000000
namespace VF
set_option autoImplicit false
open PySem PySem.Spec PyProof.Rows L2
open AT (cells cellsL er ers)
def imm : D → Option V
  | .non => some .non
  | .bl b => some (.bl b)
  | .int i => some (.int i)
  | .str s => some (.str s)
  | .ty n => some (.ty n)
  | _ => none
abbrev XS := Value → Option Addr → L2.St → Hp → Prop
def E0 : XS := fun _ _ _ _ => False
structure Exc where
  c : Str
  ns : List Str
  ds : List D
structure Env where
  sl : List (Option SV)
  pn : List Nat
inductive R (α : Type) where
  | st | ok (a : α) (e : Env) | ex (x : Exc) (e : Env)
abbrev M (α : Type) := Env → R α
inductive RV where
  | fz (d : D) | own (s : SV) | var (i : Nat)
inductive Fl where
  | nx | rt (r : RV) | bk | ct
def R.bind {α β : Type} (r : R α) (f : α → M β) : R β := match r with
  | .st => .st
  | .ok a e => f a e
  | .ex x e => .ex x e
def M.bind {α β : Type} (m : M α) (f : α → M β) : M β := fun e => (m e).bind f
def M.ret {α : Type} (a : α) : M α := fun e => .ok a e
def M.st {α : Type} : M α := fun _ => .st
def opts (as : List (Option AT)) : List AT := as.filterMap id
theorem mem_opts {as : List (Option AT)} {i : Nat} {t : AT} (h : as[i]? = some (some t)) : t ∈ opts as :=
  List.mem_filterMap.mpr ⟨some t, List.mem_of_getElem? h, rfl⟩
theorem opts_take : ∀ {as : List (Option AT)} {i : Nat} {t : AT}, as[i]? = some (some t) → (opts as).Perm (t :: opts (as.set i none))
  | a :: as, 0, t, h => by
    have e : a = some t := by simpa using h
    subst e
    exact List.Perm.refl _
  | a :: as, i + 1, t, h => by
    have ih := opts_take (as := as) (i := i) (t := t) (by simpa using h)
    cases a with
    | none => exact ih
    | some u => exact (ih.cons u).trans (List.Perm.swap _ _ _)
theorem opts_put : ∀ {as : List (Option AT)} {i : Nat} (t : AT), as[i]? = some none → (t :: opts as).Perm (opts (as.set i (some t)))
  | a :: as, 0, t, h => by
    have e : a = none := by simpa using h
    subst e
    exact List.Perm.refl _
  | a :: as, i + 1, t, h => by
    have ih := opts_put (as := as) (i := i) t (by simpa using h)
    cases a with
    | none => exact ih
    | some u => exact (List.Perm.swap _ _ _).trans (ih.cons u)
theorem opts_set {as : List (Option AT)} {i : Nat} (t : AT) : ∃ L, (t :: opts as).Perm (L ++ opts (as.set i (some t))) := by
  cases e : as[i]? with
  | none =>
    have : as.length ≤ i := List.getElem?_eq_none_iff.mp e
    exact ⟨[t], by rw [List.set_eq_of_length_le this]; exact List.Perm.refl _⟩
  | some o =>
    cases o with
    | none => exact ⟨[], opts_put t e⟩
    | some u =>
      refine ⟨[u], ?_⟩
      have h1 := opts_take e
      have hlt : i < as.length := (List.getElem?_eq_some_iff.mp e).1
      have h2 := opts_put (as := as.set i none) (i := i) t (by simp [hlt])
      rw [List.set_set] at h2
      exact ((h1.cons t).trans (List.Perm.swap _ _ _)).trans (h2.cons u)
section
variable (K : PySem.W.Frag) (mg : Str → Option Value)
structure SR (pv : List (Nat × V)) (σ : L2.St) (e : Env) (as : List (Option AT)) : Prop where
  sl : e.sl = as.map (Option.map er)
  len : σ.length = as.length
  at_ : ∀ (i : Nat) (t : AT), as[i]? = some (some t) → σ[i]? = some (some t.val)
  pin : ∀ p ∈ pv, p.1 ∈ e.pn ∧ σ[p.1]? = some (some p.2)
structure Cf (pv : List (Nat × V)) (F H : Hp) (σ : L2.St) (e : Env) (as : List (Option AT)) (held : List AT) : Prop where
  s : Same F H
  r : SR pv σ e as
  g : Good K mg F H (opts as ++ held)
def RR (σ : L2.St) (v : V) : RV → List AT → Prop
  | .fz d, tr => tr = [.fz v d]
  | .own s, tr => ∃ t, tr = [t] ∧ t.val = v ∧ er t = s
  | .var i, tr => tr = [] ∧ σ[i]? = some (some v)
def RRs (σ : L2.St) : List V → List RV → List AT → Prop
  | [], [], tr => tr = []
  | v :: vs, r :: rs, tr => ∃ t1 t2, tr = t2 ++ t1 ∧ RR σ v r t1 ∧ RRs σ vs rs t2
  | _, _, _ => False
def RX (H : Hp) (x : Exc) (cls : Value) (d : Option Addr) : Prop :=
  ∃ C, mg x.c = some (.ref C) ∧ cls = .ref C ∧ ((x.ns = [] ∧ d = none) ∨ (x.ns ≠ [] ∧ ∃ dd vs, d = some dd ∧ H dd = some (.xd (x.ns.zip vs)) ∧ x.ns.length = vs.length ∧ x.ds.mapM imm = some vs))
def WX (pv : List (Nat × V)) (F : Hp) (held : List AT) (E : XS) (x : Exc) (e' : Env) : Prop :=
  ∀ cls d F' H' σ' as', Same F F' → Cf K mg pv F' H' σ' e' as' held → RX mg H' x cls d → (∀ dd, d = some dd → F dd = none) → E cls d σ' H'
def WE (pv : List (Nat × V)) (F : Hp) (held : List AT) (σ : L2.St) (Q : VK) (E : XS) : R RV → Prop
  | .st => False
  | .ok r e' => ∀ v F' H' as' tr, Same F F' → Cf K mg pv F' H' σ e' as' (tr ++ held) → RR σ v r tr → Q v H'
  | .ex x e' => WX K mg pv F held E x e'
def WT (pv : List (Nat × V)) (F : Hp) (held : List AT) (σ : L2.St) (Q : Bool → Hp → Prop) (E : XS) : R Bool → Prop
  | .st => False
  | .ok b e' => ∀ F' H' as', Same F F' → Cf K mg pv F' H' σ e' as' held → Q b H'
  | .ex x e' => WX K mg pv F held E x e'
def WA (pv : List (Nat × V)) (F : Hp) (held : List AT) (σ : L2.St) (Q : List V → Hp → Prop) (E : XS) : R (List RV) → Prop
  | .st => False
  | .ok rs e' => ∀ vs F' H' as' tr, Same F F' → Cf K mg pv F' H' σ e' as' (tr ++ held) → RRs σ vs rs tr → Q vs H'
  | .ex x e' => WX K mg pv F held E x e'
def WS (pv : List (Nat × V)) (F : Hp) (held : List AT) (E : XS) (D : Ends) : R Fl → Prop
  | .st => False
  | .ok .nx e' => ∀ σ' F' H' as', Same F F' → Cf K mg pv F' H' σ' e' as' held → D.nx σ' H'
  | .ok .bk e' => ∀ σ' F' H' as', Same F F' → Cf K mg pv F' H' σ' e' as' held → D.bk σ' H'
  | .ok .ct e' => ∀ σ' F' H' as', Same F F' → Cf K mg pv F' H' σ' e' as' held → D.ct σ' H'
  | .ok (.rt r) e' => ∀ v σ' F' H' as' tr, Same F F' → Cf K mg pv F' H' σ' e' as' (tr ++ held) → RR σ' v r tr → D.rt v H'
  | .ex x e' => WX K mg pv F held E x e'
def SE (E : XS) (t : TE) (m : M RV) : Prop := ∀ pv F H σ e as held Q, Cf K mg pv F H σ e as held → WE K mg pv F held σ Q E (m e) → t σ H Q
def ST (E : XS) (t : TT) (m : M Bool) : Prop := ∀ pv F H σ e as held Q, Cf K mg pv F H σ e as held → WT K mg pv F held σ Q E (m e) → t σ H Q
def SA (E : XS) (t : TA) (m : M (List RV)) : Prop := ∀ pv F H σ e as held Q, Cf K mg pv F H σ e as held → WA K mg pv F held σ Q E (m e) → t σ H Q
def SS (E : XS) (t : TS) (m : M Fl) : Prop := ∀ pv F H σ e as held D, Cf K mg pv F H σ e as held → WS K mg pv F held E D (m e) → t D σ H
end
section
variable {K : PySem.W.Frag} {mg : Str → Option Value} {pv : List (Nat × V)} {F F' H H' : Hp} {σ : L2.St} {e e' : Env} {as as' : List (Option AT)} {held tr ts : List AT} {E : XS}
theorem none_le {dd : Addr} (s : Same F F') (h : F' dd = none) : F dd = none := by
  cases q : F dd with
  | none => rfl
  | some o => rw [s _ _ q] at h; cases h
theorem WX.mono {x : Exc} (s : Same F F') (h : WX K mg pv F held E x e) : WX K mg pv F' held E x e := fun cls d F2 H2 σ2 as2 s2 c r n => h cls d F2 H2 σ2 as2 (s.trans s2) c r fun dd q => none_le s (n dd q)
theorem Cf.drop (c : Cf K mg pv F H σ e as (tr ++ held)) : Cf K mg pv F H σ e as held :=
  ⟨c.s, c.r, (c.g.perm (us := tr ++ (opts as ++ held)) (by rw [← List.append_assoc, ← List.append_assoc]; exact List.perm_append_comm.append_right held)).sub⟩
theorem Cf.fz {v : V} {d : D} (c : Cf K mg pv F H σ e as held) (r : Rep K mg F v d) : Cf K mg pv F H σ e as ([.fz v d] ++ held) :=
  ⟨c.s, c.r, (c.g.fz r).perm (by exact (List.perm_middle (l₁ := opts as) (l₂ := held) (a := AT.fz v d)).symm)⟩
theorem WX.drop {x : Exc} (h : WX K mg pv F held E x e) : WX K mg pv F (tr ++ held) E x e := fun cls d F2 H2 σ2 as2 s2 c r n => h cls d F2 H2 σ2 as2 s2 c.drop r n
theorem SR.slot {i : Nat} {t : AT} (r : SR pv σ e as) (h : as[i]? = some (some t)) : e.sl[i]? = some (some (er t)) := by
  rw [r.sl, List.getElem?_map, h]; rfl
theorem SR.slotOf {i : Nat} {s : SV} (r : SR pv σ e as) (h : e.sl[i]? = some (some s)) : ∃ t, as[i]? = some (some t) ∧ er t = s := by
  rw [r.sl, List.getElem?_map] at h
  cases q : as[i]? with
  | none => rw [q] at h; cases h
  | some o =>
    rw [q] at h
    cases o with
    | none => cases h
    | some t =>
      have h2 : some (some (er t)) = some (some s) := h
      exact ⟨t, rfl, by simpa using h2⟩
def view (e : Env) : RV → Option D
  | .fz d => some d
  | .own s => some s.toD
  | .var i => match e.sl[i]? with
    | some (some s) => some s.toD
    | _ => none
theorem Cf.seen {v : V} {r : RV} {d : D} (c : Cf K mg pv F H σ e as held) (h : RR σ v r tr) (hm : ∀ t ∈ tr, t ∈ held) (q : view e r = some d) : Rep K mg H v d := by
  cases r with
  | fz x =>
    have e1 : tr = [.fz v x] := h
    have e2 : x = d := Option.some.inj q
    subst e1 e2
    exact c.g.rep c.s (List.mem_append_right _ (hm _ List.mem_cons_self))
  | own s =>
    obtain ⟨t, e1, e2, e3⟩ := h
    have e4 : s.toD = d := Option.some.inj q
    subst e1 e2 e3 e4
    exact c.g.rep c.s (List.mem_append_right _ (hm _ List.mem_cons_self))
  | var i =>
    obtain ⟨_, hv⟩ := h
    have q' : (match e.sl[i]? with | some (some s) => some s.toD | _ => none) = some d := q
    cases z : e.sl[i]? with
    | none => rw [z] at q'; cases q'
    | some o =>
      cases o with
      | none => rw [z] at q'; cases q'
      | some s =>
        rw [z] at q'
        have e4 : s.toD = d := Option.some.inj q'
        obtain ⟨t, ht, e5⟩ := c.r.slotOf z
        have hv2 := c.r.at_ i t ht
        rw [hv] at hv2
        have e6 : v = t.val := by simpa using hv2
        subst e4 e5 e6
        exact c.g.rep c.s (List.mem_append_left _ (mem_opts ht))
theorem WE.bindE {α : Type} {f : RV → M α} {m : M RV} {W : R α → Prop} (hs : ¬ W .st) (h : W ((m e).bind f)) {P : V → Hp → Prop}
    (hx : ∀ x e', W (.ex x e') → WX K mg pv F held E x e')
    (k : ∀ r e' v F' H' as' tr, Same F F' → Cf K mg pv F' H' σ e' as' (tr ++ held) → RR σ v r tr → W (f r e') → P v H') : WE K mg pv F held σ P E (m e) := by
  cases q : m e with
  | st => rw [q] at h; exact absurd h hs
  | ok r e' => rw [q] at h; exact fun v F' H' as' tr s c rr => k r e' v F' H' as' tr s c rr h
  | ex x e' => rw [q] at h; exact hx x e' h
theorem WT.bindT {α : Type} {f : Bool → M α} {m : M Bool} {W : R α → Prop} (hs : ¬ W .st) (h : W ((m e).bind f)) {P : Bool → Hp → Prop}
    (hx : ∀ x e', W (.ex x e') → WX K mg pv F held E x e')
    (k : ∀ b e' F' H' as', Same F F' → Cf K mg pv F' H' σ e' as' held → W (f b e') → P b H') : WT K mg pv F held σ P E (m e) := by
  cases q : m e with
  | st => rw [q] at h; exact absurd h hs
  | ok r e' => rw [q] at h; exact fun F' H' as' s c => k r e' F' H' as' s c h
  | ex x e' => rw [q] at h; exact hx x e' h
theorem WA.bindA {α : Type} {f : List RV → M α} {m : M (List RV)} {W : R α → Prop} (hs : ¬ W .st) (h : W ((m e).bind f)) {P : List V → Hp → Prop}
    (hx : ∀ x e', W (.ex x e') → WX K mg pv F held E x e')
    (k : ∀ rs e' vs F' H' as' tr, Same F F' → Cf K mg pv F' H' σ e' as' (tr ++ held) → RRs σ vs rs tr → W (f rs e') → P vs H') : WA K mg pv F held σ P E (m e) := by
  cases q : m e with
  | st => rw [q] at h; exact absurd h hs
  | ok r e' => rw [q] at h; exact fun v F' H' as' tr s c rr => k r e' v F' H' as' tr s c rr h
  | ex x e' => rw [q] at h; exact hx x e' h
theorem WE.mono {Q : VK} {r : R RV} (s : Same F F') (h : WE K mg pv F held σ Q E r) : WE K mg pv F' held σ Q E r := by
  cases r with
  | st => exact h
  | ok r e' => exact fun v F2 H2 as2 tr2 s2 c rr => h v F2 H2 as2 tr2 (s.trans s2) c rr
  | ex x e' => exact WX.mono s h
theorem WT.mono {Q : Bool → Hp → Prop} {r : R Bool} (s : Same F F') (h : WT K mg pv F held σ Q E r) : WT K mg pv F' held σ Q E r := by
  cases r with
  | st => exact h
  | ok r e' => exact fun F2 H2 as2 s2 c => h F2 H2 as2 (s.trans s2) c
  | ex x e' => exact WX.mono s h
theorem WA.mono {Q : List V → Hp → Prop} {r : R (List RV)} (s : Same F F') (h : WA K mg pv F held σ Q E r) : WA K mg pv F' held σ Q E r := by
  cases r with
  | st => exact h
  | ok r e' => exact fun v F2 H2 as2 tr2 s2 c rr => h v F2 H2 as2 tr2 (s.trans s2) c rr
  | ex x e' => exact WX.mono s h
theorem WS.mono {D : Ends} {r : R Fl} (s : Same F F') (h : WS K mg pv F held E D r) : WS K mg pv F' held E D r := by
  cases r with
  | st => exact h
  | ok r e' => cases r with
    | nx => exact fun σ2 F2 H2 as2 s2 c => h σ2 F2 H2 as2 (s.trans s2) c
    | bk => exact fun σ2 F2 H2 as2 s2 c => h σ2 F2 H2 as2 (s.trans s2) c
    | ct => exact fun σ2 F2 H2 as2 s2 c => h σ2 F2 H2 as2 (s.trans s2) c
    | rt r => exact fun v σ2 F2 H2 as2 tr2 s2 c rr => h v σ2 F2 H2 as2 tr2 (s.trans s2) c rr
  | ex x e' => exact WX.mono s h
theorem rep_imm {d : D} {v : V} (h : imm d = some v) : Rep K mg F v d := by
  cases d <;> first | (cases h; rfl) | cases h
def dVar (i : Nat) : M RV := fun e => match e.sl[i]? with
  | some (some (.fz d)) => .ok (.fz d) e
  | some (some _) => .ok (.var i) e
  | _ => .st
def dC (d : D) : M RV := fun e => .ok (.fz d) e
theorem se_var {i : Nat} : SE K mg E (tVar i) (dVar i) := by
  intro pv F H σ e as held Q c w
  unfold dVar at w
  cases z : e.sl[i]? with
  | none => rw [z] at w; exact w.elim
  | some o =>
    cases o with
    | none => rw [z] at w; exact w.elim
    | some s =>
      rw [z] at w
      obtain ⟨t, ht, et⟩ := c.r.slotOf z
      have hv := c.r.at_ i t ht
      refine ⟨t.val, hv, ?_⟩
      cases s with
      | fz d =>
        cases t with
        | fz v d' =>
          have ed : d' = d := by simpa [er] using et
          subst ed
          have rp : Rep K mg F v d' := Oks.mem.mp c.g.ok _ (List.mem_append_left _ (mem_opts ht))
          exact w v F H as _ (Same.refl _) (c.fz rp) rfl
        | ol _ _ => simp [er] at et
        | oo _ _ _ _ _ _ => simp [er] at et
        | od _ _ _ => simp [er] at et
      | ol xs => exact w t.val F H as [] (Same.refl _) c ⟨rfl, hv⟩
      | oo c' ns xs => exact w t.val F H as [] (Same.refl _) c ⟨rfl, hv⟩
      | od ks xs => exact w t.val F H as [] (Same.refl _) c ⟨rfl, hv⟩
theorem se_c {v : V} {d : D} (h : imm d = some v := by rfl) : SE K mg E (tC v) (dC d) := by
  intro pv F H σ e as held Q c w
  exact w v F H as _ (Same.refl _) (c.fz (rep_imm h)) rfl
def dOp (f : D → D → Option D) (a b : M RV) : M RV := a.bind fun r => b.bind fun q => fun e => match view e r, view e q with
  | some x, some y => (match f x y with
    | some d => .ok (.fz d) e
    | none => .st)
  | _, _ => .st
def OpD (r : R2) (K : PySem.W.Frag) (mg : Str → Option Value) (f : D → D → Option D) : Prop := ∀ (H : Hp) (x y : V) (a b d : D), Rep K mg H x a → Rep K mg H y b → f a b = some d → ∃ v, imm d = some v ∧ ∀ Q : VK, Q v H → r x y H Q
theorem se_op {r : R2} {f : D → D → Option D} {ta tb : TE} {ma mb : M RV} (hr : OpD r K mg f) (ha : SE K mg E ta ma) (hb : SE K mg E tb mb) : SE K mg E (tOp r ta tb) (dOp f ma mb) := by
  intro pv F H σ e as held Q c w
  refine ha pv F H σ e as held _ c (WE.bindE (W := WE K mg pv F held σ Q E) (fun z => z) w (fun _ _ z => z) fun r1 e1 v1 F1 H1 as1 tr1 s1 c1 rr1 w1 => ?_)
  refine hb pv F1 H1 σ e1 as1 (tr1 ++ held) _ c1 (WE.bindE (W := WE K mg pv F held σ Q E) (fun z => z) w1 (fun _ _ z => (WX.mono s1 z).drop) fun r2 e2 v2 F2 H2 as2 tr2 s2 c2 rr2 w2 => ?_)
  have w2' : WE K mg pv F held σ Q E (match view e2 r1, view e2 r2 with
    | some x, some y => (match f x y with
      | some d => .ok (.fz d) e2
      | none => .st)
    | _, _ => .st) := w2
  cases q1 : view e2 r1 with
  | none => rw [q1] at w2'; exact w2'.elim
  | some x =>
    cases q2 : view e2 r2 with
    | none => rw [q1, q2] at w2'; exact w2'.elim
    | some y =>
      rw [q1, q2] at w2'
      cases q3 : f x y with
      | none => simp only [q3] at w2'; exact w2'.elim
      | some d =>
        simp only [q3] at w2'
        have p1 := c2.seen rr1 (fun t ht => List.mem_append_right _ (List.mem_append_left _ ht)) q1
        have p2 := c2.seen rr2 (fun t ht => List.mem_append_left _ ht) q2
        obtain ⟨v, hv, k⟩ := hr H2 v1 v2 x y d p1 p2 q3
        exact k Q (w2' v F2 H2 as2 _ (s1.trans s2) (c2.drop.drop.fz (rep_imm hv)) rfl)
def dNil : M (List RV) := fun e => .ok [] e
def dCons (a : M RV) (b : M (List RV)) : M (List RV) := a.bind fun r => b.bind fun rs => fun e => .ok (r :: rs) e
theorem sa_nil : SA K mg E tNil dNil := by
  intro pv F H σ e as held Q c w
  exact w [] F H as [] (Same.refl _) c rfl
theorem sa_cons {ta : TE} {tb : TA} {ma : M RV} {mb : M (List RV)} (ha : SE K mg E ta ma) (hb : SA K mg E tb mb) : SA K mg E (tCons ta tb) (dCons ma mb) := by
  intro pv F H σ e as held Q c w
  refine ha pv F H σ e as held _ c (WE.bindE (W := WA K mg pv F held σ Q E) (fun z => z) w (fun _ _ z => z) fun r1 e1 v1 F1 H1 as1 tr1 s1 c1 rr1 w1 => ?_)
  refine hb pv F1 H1 σ e1 as1 (tr1 ++ held) _ c1 (WA.bindA (W := WA K mg pv F held σ Q E) (fun z => z) w1 (fun _ _ z => (WX.mono s1 z).drop) fun r2 e2 v2 F2 H2 as2 tr2 s2 c2 rr2 w2 => ?_)
  exact w2 (v1 :: v2) F2 H2 as2 (tr2 ++ tr1) (s1.trans s2) (by rw [List.append_assoc]; exact c2) ⟨tr1, tr2, rfl, rr1, rr2⟩
theorem RRs.seen {rs : List RV} : ∀ {vs : List V} {tr : List AT} {rs : List RV} {ds : List D}, Cf K mg pv F H σ e as held → RRs σ vs rs tr → (∀ t ∈ tr, t ∈ held) → rs.mapM (view e) = some ds → Reps K mg H vs ds
  | [], tr, [], ds, _, _, _, q => by
    have : ds = [] := by simpa using q.symm
    subst this
    trivial
  | v :: vs, tr, r :: rs, ds, c, ⟨t1, t2, e1, h1, h2⟩, hm, q => by
    subst e1
    cases q1 : view e r with
    | none => simp [q1] at q
    | some d =>
      cases q2 : rs.mapM (view e) with
      | none => simp [q1, q2] at q
      | some ds' =>
        have : ds = d :: ds' := by simpa [q1, q2] using q.symm
        subst this
        exact ⟨c.seen h1 (fun t ht => hm t (List.mem_append_right _ ht)) q1, RRs.seen (rs := rs) c h2 (fun t ht => hm t (List.mem_append_left _ ht)) q2⟩
  | [], _, _ :: _, _, _, h, _, _ => h.elim
  | _ :: _, _, [], _, _, h, _, _ => h.elim
def dCB (f : List D → Option D) (a : M (List RV)) : M RV := a.bind fun rs => fun e => match rs.mapM (view e) with
  | some xs => (match f xs with
    | some d => .ok (.fz d) e
    | none => .st)
  | none => .st
def CbD (r : List V → Hp → VK → Prop) (K : PySem.W.Frag) (mg : Str → Option Value) (f : List D → Option D) : Prop := ∀ (H : Hp) (xs : List V) (as : List D) (d : D), Reps K mg H xs as → f as = some d → ∃ v, imm d = some v ∧ ∀ Q : VK, Q v H → r xs H Q
theorem se_cb {r : List V → Hp → VK → Prop} {f : List D → Option D} {ta : TA} {ma : M (List RV)} (hr : CbD r K mg f) (ha : SA K mg E ta ma) : SE K mg E (tCB r ta) (dCB f ma) := by
  intro pv F H σ e as held Q c w
  refine ha pv F H σ e as held _ c (WA.bindA (W := WE K mg pv F held σ Q E) (fun z => z) w (fun _ _ z => z) fun r1 e1 v1 F1 H1 as1 tr1 s1 c1 rr1 w1 => ?_)
  have w2' : WE K mg pv F held σ Q E (match r1.mapM (view e1) with
    | some x => (match f x with
      | some d => .ok (.fz d) e1
      | none => .st)
    | none => .st) := w1
  cases q1 : r1.mapM (view e1) with
  | none => rw [q1] at w2'; exact w2'.elim
  | some x =>
    rw [q1] at w2'
    cases q3 : f x with
    | none => simp only [q3] at w2'; exact w2'.elim
    | some d =>
      simp only [q3] at w2'
      have p1 := RRs.seen (rs := r1) c1 rr1 (fun t ht => List.mem_append_left _ ht) q1
      obtain ⟨v, hv, k⟩ := hr H1 v1 x d p1 q3
      exact k Q (w2' v F1 H1 as1 _ s1 (c1.drop.fz (rep_imm hv)) rfl)
def dT (a : M RV) : M Bool := a.bind fun r => fun e => match view e r with
  | some (.bl b) => .ok b e
  | _ => .st
theorem st_val {ta : TE} {ma : M RV} (ha : SE K mg E ta ma) : ST K mg E (tB ta) (dT ma) := by
  intro pv F H σ e as held Q c w
  refine ha pv F H σ e as held _ c (WE.bindE (W := WT K mg pv F held σ Q E) (fun z => z) w (fun _ _ z => z) fun r1 e1 v1 F1 H1 as1 tr1 s1 c1 rr1 w1 => ?_)
  have w2' : WT K mg pv F held σ Q E (match view e1 r1 with
    | some (.bl b) => .ok b e1
    | _ => .st) := w1
  cases q1 : view e1 r1 with
  | none => rw [q1] at w2'; exact w2'.elim
  | some x =>
    rw [q1] at w2'
    have p1 := c1.seen rr1 (fun t ht => List.mem_append_left _ ht) q1
    cases x with
    | bl b => exact ⟨b, p1, w2' F1 H1 as1 s1 c1.drop⟩
    | _ => exact w2'.elim
theorem st_test {ta : TE} {ma : M RV} (ha : SE K mg E ta ma) : ST K mg E (tTest ta) (dT ma) := st_val ha
def dAnd (a b : M Bool) : M Bool := a.bind fun c => match c with
  | true => b
  | false => fun e => .ok false e
def dOr (a b : M Bool) : M Bool := a.bind fun c => match c with
  | true => fun e => .ok true e
  | false => b
def dNot (a : M Bool) : M Bool := a.bind fun c e => .ok (!c) e
theorem st_or {ta tb : TT} {ma mb : M Bool} (ha : ST K mg E ta ma) (hb : ST K mg E tb mb) : ST K mg E (tOr ta tb) (dOr ma mb) := by
  intro pv F H σ e as held Q c w
  refine ha pv F H σ e as held _ c (WT.bindT (W := WT K mg pv F held σ Q E) (fun z => z) w (fun _ _ z => z) fun b e1 F1 H1 as1 s1 c1 w1 => ?_)
  cases b with
  | true => exact w1 F1 H1 as1 s1 c1
  | false => exact hb pv F1 H1 σ e1 as1 held Q c1 (WT.mono s1 w1)
theorem st_not {ta : TT} {ma : M Bool} (ha : ST K mg E ta ma) : ST K mg E (tNot ta) (dNot ma) := by
  intro pv F H σ e as held Q c w
  exact ha pv F H σ e as held _ c (WT.bindT (W := WT K mg pv F held σ Q E) (fun z => z) w (fun _ _ z => z) fun b e1 F1 H1 as1 s1 c1 w1 => w1 F1 H1 as1 s1 c1)
def dSeq (a b : M Fl) : M Fl := a.bind fun f => match f with
  | .nx => b
  | f => fun e => .ok f e
def dNext : M Fl := fun e => .ok .nx e
def dIf (c : M Bool) (a b : M Fl) : M Fl := c.bind fun k => match k with
  | true => a
  | false => b
theorem ss_next : SS K mg E tNext dNext := by
  intro pv F H σ e as held D c w
  exact w σ F H as (Same.refl _) c
theorem ss_seq {ta tb : TS} {ma mb : M Fl} (ha : SS K mg E ta ma) (hb : SS K mg E tb mb) : SS K mg E (tSeq ta tb) (dSeq ma mb) := by
  intro pv F H σ e as held D c w
  refine ha pv F H σ e as held _ c ?_
  have w' : WS K mg pv F held E D ((ma e).bind fun f => match f with
    | .nx => mb
    | f => fun e => .ok f e) := w
  cases q : ma e with
  | st => rw [q] at w'; exact w'.elim
  | ex x e' => rw [q] at w'; exact w'
  | ok f e' =>
    rw [q] at w'
    cases f with
    | nx => exact fun σ1 F1 H1 as1 s1 c1 => hb pv F1 H1 σ1 e' as1 held D c1 (WS.mono s1 w')
    | bk => exact w'
    | ct => exact w'
    | rt r => exact w'
theorem ss_if {tc : TT} {ta tb : TS} {mc : M Bool} {ma mb : M Fl} (hc : ST K mg E tc mc) (ha : SS K mg E ta ma) (hb : SS K mg E tb mb) : SS K mg E (tIfS tc ta tb) (dIf mc ma mb) := by
  intro pv F H σ e as held D c w
  refine hc pv F H σ e as held _ c (WT.bindT (W := WS K mg pv F held E D) (fun z => z) w (fun _ _ z => z) fun b e1 F1 H1 as1 s1 c1 w1 => ?_)
  cases b with
  | true => exact ha pv F1 H1 σ e1 as1 held D c1 (WS.mono s1 w1)
  | false => exact hb pv F1 H1 σ e1 as1 held D c1 (WS.mono s1 w1)
def dRet (a : M RV) : M Fl := a.bind fun r e => .ok (.rt r) e
theorem ss_ret {ta : TE} {ma : M RV} (ha : SE K mg E ta ma) : SS K mg E (tRet ta) (dRet ma) := by
  intro pv F H σ e as held D c w
  exact ha pv F H σ e as held _ c (WE.bindE (W := WS K mg pv F held E D) (fun z => z) w (fun _ _ z => z) fun r1 e1 v1 F1 H1 as1 tr1 s1 c1 rr1 w1 => w1 v1 σ F1 H1 as1 tr1 s1 c1 rr1)
def dDrop (a : M RV) : M Fl := a.bind fun _ e => .ok .nx e
theorem ss_drop {ta : TE} {ma : M RV} (ha : SE K mg E ta ma) : SS K mg E (tDrop ta) (dDrop ma) := by
  intro pv F H σ e as held D c w
  exact ha pv F H σ e as held _ c (WE.bindE (W := WS K mg pv F held E D) (fun z => z) w (fun _ _ z => z) fun r1 e1 v1 F1 H1 as1 tr1 s1 c1 rr1 w1 => w1 σ F1 H1 as1 s1 c1.drop)
end
end VF
set_option maxRecDepth 100000
set_option maxHeartbeats 4000000
namespace VF
set_option autoImplicit false
open PySem PySem.Spec PyProof.Rows L2
open AT (cells cellsL er ers)
section
variable {K : PySem.W.Frag} {mg : Str → Option Value} {pv : List (Nat × V)} {F F' H H' : Hp} {σ : L2.St} {e e' : Env} {as as' : List (Option AT)} {held tr ts us : List AT} {E : XS}
theorem same_new {p : Addr} {o : HO} (h : H p = none) : Same H (upd H p o) := fun b x e => by
  rw [upd_ne (ne_of_none e h)]; exact e
theorem same_own {p : Addr} {o : HO} (s : Same F H) (h : F p = none) : Same F (upd H p o) := fun b x e => by
  rw [upd_ne (ne_of_none e h)]; exact s b x e
theorem same_both {p : Addr} {o : HO} (s : Same F H) (h : H p = none) : Same F (upd F p o) ∧ Same (upd F p o) (upd H p o) :=
  ⟨same_new (s.free h), fun b x e => by
    by_cases q : b = p
    · subst q; rw [upd_same] at e ⊢; exact e
    · rw [upd_ne q] at e ⊢; exact s b x e⟩
theorem Good.grow {p : Addr} {o : HO} (g : Good K mg F H us) (h : H p = none) : Good K mg F (upd H p o) us :=
  ⟨fun c hc => ⟨by rw [upd_ne (ne_of_none (g.at_ c hc).1 h)]; exact (g.at_ c hc).1, (g.at_ c hc).2⟩, g.ok, g.nd⟩
theorem Good.new {p : Addr} {xs : List AT} (g : Good K mg F H (xs ++ us)) (s : Same F H) (h : H p = none) : Good K mg F (upd H p (.lst (vals xs))) (.ol p xs :: us) := by
  have g2 := g.grow (o := .lst (vals xs)) h
  have hp : ∀ c ∈ cellsL (xs ++ us), c.1 ≠ p := fun c hc => ne_of_none (g.at_ c hc).1 h
  have ok := Oks.append.mp g.ok
  refine ⟨fun c hc => ?_, ⟨ok.1, ok.2⟩, ?_⟩
  · have hc' : c ∈ (p, HO.lst (vals xs)) :: (cellsL xs ++ cellsL us) := hc
    rcases List.mem_cons.mp hc' with e | hc'
    · subst e; exact ⟨upd_same, s.free h⟩
    · exact g2.at_ c (by rw [cellsL_append]; exact hc')
  · show (((p, HO.lst (vals xs)) :: (cellsL xs ++ cellsL us)).map (·.1)).Nodup
    rw [List.map_cons, List.nodup_cons, ← cellsL_append]
    refine ⟨fun q => ?_, g.nd⟩
    obtain ⟨c, hc, ec⟩ := List.mem_map.mp q
    exact hp c hc ec
theorem Good.newF {p : Addr} {o : HO} (g : Good K mg F H us) (s : Same F H) (h : H p = none) : Good K mg (upd F p o) (upd H p o) us := by
  have sb := same_both (o := o) s h
  refine ⟨fun c hc => ?_, Oks.same sb.1 g.ok, g.nd⟩
  have ne := ne_of_none (g.at_ c hc).1 h
  rw [upd_ne ne, upd_ne ne]
  exact g.at_ c hc
theorem Good.relist {p : Addr} {xs ys zs junk : List AT} (g : Good K mg F H (.ol p xs :: us)) (pm : (xs ++ us).Perm (junk ++ (ys ++ zs))) : Good K mg F (upd H p (.lst (vals ys))) (.ol p ys :: zs) := by
  have nd : (((p, HO.lst (vals xs)) :: (cellsL xs ++ cellsL us)).map (·.1)).Nodup := g.nd
  rw [List.map_cons, List.nodup_cons, ← cellsL_append] at nd
  have g1 : Good K mg F H (xs ++ us) := ⟨fun c hc => g.at_ c (List.mem_cons_of_mem _ (by rw [cellsL_append] at hc; exact hc)), Oks.append.mpr g.ok, nd.2⟩
  have g2 : Good K mg F H (ys ++ zs) := (g1.perm pm).sub
  have mem : ∀ c ∈ cellsL (ys ++ zs), c ∈ cellsL (xs ++ us) := fun c hc => (cellsL_perm pm).mem_iff.mpr (by rw [cellsL_append]; exact List.mem_append_right _ hc)
  have hp : ∀ c ∈ cellsL (ys ++ zs), c.1 ≠ p := fun c hc q => nd.1 (List.mem_map.mpr ⟨c, mem c hc, q⟩)
  have ok := Oks.append.mp g2.ok
  have hF : F p = none := (g.at_ (p, .lst (vals xs)) List.mem_cons_self).2
  refine ⟨fun c hc => ?_, ⟨ok.1, ok.2⟩, ?_⟩
  · have hc' : c ∈ (p, HO.lst (vals ys)) :: (cellsL ys ++ cellsL zs) := hc
    rcases List.mem_cons.mp hc' with e | hc'
    · subst e; exact ⟨upd_same, hF⟩
    · rw [← cellsL_append] at hc'
      rw [upd_ne (hp c hc')]
      exact g2.at_ c hc'
  · show (((p, HO.lst (vals ys)) :: (cellsL ys ++ cellsL zs)).map (·.1)).Nodup
    rw [List.map_cons, List.nodup_cons, ← cellsL_append]
    exact ⟨fun q => by obtain ⟨c, hc, ec⟩ := List.mem_map.mp q; exact hp c hc ec, g2.nd⟩
theorem Good.cell {p : Addr} {xs : List AT} (g : Good K mg F H (.ol p xs :: us)) : H p = some (.lst (vals xs)) ∧ F p = none := g.at_ (p, .lst (vals xs)) List.mem_cons_self
def Env.setS (e : Env) (i : Nat) (s : SV) : Env := ⟨e.sl.set i (some s), e.pn⟩
theorem Cf.take {i : Nat} {t : AT} (c : Cf K mg pv F H σ e as held) (h : as[i]? = some (some t)) : Good K mg F H (t :: (opts (as.set i none) ++ held)) :=
  c.g.perm ((opts_take h).append_right held)
theorem SR.put {i : Nat} {t t' : AT} (r : SR pv σ e as) (h : as[i]? = some (some t)) (hv : t'.val = t.val) : SR pv σ (e.setS i (er t')) (as.set i (some t')) where
  sl := by show e.sl.set i (some (er t')) = _; rw [List.map_set, r.sl]; rfl
  len := by rw [List.length_set]; exact r.len
  at_ := fun j u hj => by
    by_cases q : j = i
    · subst q
      have hlt : j < as.length := (List.getElem?_eq_some_iff.mp h).1
      rw [List.getElem?_set_self hlt] at hj
      cases hj
      rw [hv]
      exact r.at_ j t h
    · rw [List.getElem?_set_ne (Ne.symm q)] at hj
      exact r.at_ j u hj
  pin := r.pin
theorem Cf.put {i : Nat} {t t' : AT} (r : SR pv σ e as) (h : as[i]? = some (some t)) (s : Same F' H') (g : Good K mg F' H' (t' :: (opts (as.set i none) ++ held))) (hv : t'.val = t.val) :
    Cf K mg pv F' H' σ (e.setS i (er t')) (as.set i (some t')) held := by
  refine ⟨s, r.put h hv, ?_⟩
  have hlt : i < as.length := (List.getElem?_eq_some_iff.mp h).1
  have := opts_put (as := as.set i none) (i := i) t' (by simp [hlt])
  rw [List.set_set] at this
  exact g.perm (this.append_right held)
theorem Cf.frzS {i : Nat} {t : AT} (c : Cf K mg pv F H σ e as held) (h : as[i]? = some (some t)) :
    ∃ F', Same F F' ∧ Cf K mg pv F' H σ (e.setS i (.fz (er t).toD)) (as.set i (some (.fz t.val (er t).toD))) held ∧ Rep K mg F' t.val (er t).toD := by
  obtain ⟨s1, s2, g⟩ := (c.take h).freeze c.s
  exact ⟨_, s1, Cf.put c.r h s2 g rfl, g.unfz.2⟩
def frzR (r : RV) (e : Env) : Option (D × Env) := match r with
  | .fz d => some (d, e)
  | .own s => some (s.toD, e)
  | .var i => match e.sl[i]? with
    | some (some s) => some (s.toD, e.setS i (.fz s.toD))
    | _ => none
theorem Cf.frzR {v : V} {r : RV} {d : D} {e' : Env} (c : Cf K mg pv F H σ e as (tr ++ held)) (h : RR σ v r tr) (q : frzR r e = some (d, e')) :
    ∃ F' as', Same F F' ∧ Cf K mg pv F' H σ e' as' held ∧ Rep K mg F' v d := by
  cases r with
  | fz y =>
    have q' : some (y, e) = some (d, e') := q
    cases q'
    have e1 : tr = [.fz v d] := h
    subst e1
    have ok := Oks.mem.mp c.g.ok (.fz v d) (List.mem_append_right _ (List.mem_append_left _ List.mem_cons_self))
    exact ⟨F, as, Same.refl _, c.drop, ok⟩
  | own s =>
    have q' : some (s.toD, e) = some (d, e') := q
    cases q'
    obtain ⟨t, e1, e2, e3⟩ := h
    subst e1 e2 e3
    have g : Good K mg F H (t :: (opts as ++ held)) := c.g.perm (List.perm_middle (l₁ := opts as) (l₂ := held) (a := t))
    obtain ⟨s1, s2, g'⟩ := g.freeze c.s
    exact ⟨_, as, s1, ⟨s2, c.r, g'.unfz.1⟩, g'.unfz.2⟩
  | var i =>
    obtain ⟨e1, hv⟩ := h
    subst e1
    have q' : (match e.sl[i]? with | some (some s) => some (s.toD, e.setS i (.fz s.toD)) | _ => none) = some (d, e') := q
    cases z : e.sl[i]? with
    | none => rw [z] at q'; cases q'
    | some o =>
      cases o with
      | none => rw [z] at q'; cases q'
      | some s =>
        rw [z] at q'
        cases q'
        obtain ⟨t, ht, et⟩ := c.r.slotOf z
        subst et
        obtain ⟨F', s1, c', rp⟩ := c.frzS ht
        have hv2 := c.r.at_ i t ht
        rw [hv] at hv2
        have ev : v = t.val := by simpa using hv2
        subst ev
        exact ⟨F', _, s1, c', rp⟩
def frzRs : List RV → Env → Option (List D × Env)
  | [], e => some ([], e)
  | r :: rs, e => match frzR r e with
    | some (d, e1) => (match frzRs rs e1 with
      | some (ds, e2) => some (d :: ds, e2)
      | none => none)
    | none => none
theorem Cf.frzRs : ∀ {rs : List RV} {vs : List V} {ds : List D} {F : Hp} {e e' : Env} {as : List (Option AT)} {tr : List AT}, Cf K mg pv F H σ e as (tr ++ held) → RRs σ vs rs tr → frzRs rs e = some (ds, e') →
    ∃ F' as', Same F F' ∧ Cf K mg pv F' H σ e' as' held ∧ Reps K mg F' vs ds
  | [], [], ds, F, e, e', as, tr, c, h, q => by
    have e1 : tr = [] := h
    subst e1
    have q' : some (([] : List D), e) = some (ds, e') := q
    cases q'
    exact ⟨F, as, Same.refl _, c, trivial⟩
  | r :: rs, v :: vs, ds, F, e, e', as, tr, c, ⟨t1, t2, e1, h1, h2⟩, q => by
    subst e1
    have q' : (match VF.frzR r e with
      | some (d, e1) => (match VF.frzRs rs e1 with
        | some (ds, e2) => some (d :: ds, e2)
        | none => none)
      | none => none) = some (ds, e') := q
    cases q1 : VF.frzR r e with
    | none => rw [q1] at q'; cases q'
    | some p =>
      obtain ⟨d, e1⟩ := p
      rw [q1] at q'
      cases q2 : VF.frzRs rs e1 with
      | none => simp only [q2] at q'; cases q'
      | some p2 =>
        obtain ⟨ds2, e2⟩ := p2
        simp only [q2] at q'
        cases q'
        have c1 : Cf K mg pv F H σ e as (t1 ++ (t2 ++ held)) := ⟨c.s, c.r, c.g.perm (by
          refine List.Perm.append_left _ ?_
          rw [List.append_assoc]
          rw [← List.append_assoc, ← List.append_assoc]
          exact List.perm_append_comm.append_right held)⟩
        obtain ⟨F1, as1, s1, c2, rp⟩ := c1.frzR h1 q1
        obtain ⟨F2, as2, s2, c3, rps⟩ := Cf.frzRs c2 h2 q2
        exact ⟨F2, as2, s1.trans s2, c3, Rep.same s2 rp, rps⟩
  | [], _ :: _, _, _, _, _, _, _, _, h, _ => h.elim
  | _ :: _, [], _, _, _, _, _, _, _, h, _ => h.elim
def putR (i : Nat) (r : RV) (e : Env) : Option Env := if i ∈ e.pn then none else match r with
  | .fz d => some (e.setS i (.fz d))
  | .own s => some (e.setS i s)
  | .var j => match e.sl[j]? with
    | some (some s) => some ((e.setS j (.fz s.toD)).setS i (.fz s.toD))
    | _ => none
theorem SR.store {i : Nat} {t : AT} (r : SR pv σ e as) (hi : i ∉ e.pn) : SR pv (σ.set i (some t.val)) (e.setS i (er t)) (as.set i (some t)) where
  sl := by show e.sl.set i (some (er t)) = _; rw [List.map_set, r.sl]; rfl
  len := by rw [List.length_set, List.length_set]; exact r.len
  at_ := fun j u hj => by
    by_cases q : j = i
    · subst q
      have hlt : j < as.length := by
        have := (List.getElem?_eq_some_iff.mp hj).1
        simpa using this
      rw [List.getElem?_set_self hlt] at hj
      cases hj
      rw [List.getElem?_set_self (by rw [r.len]; exact hlt)]
    · rw [List.getElem?_set_ne (Ne.symm q)] at hj ⊢
      exact r.at_ j u hj
  pin := fun p hp => by
    obtain ⟨h1, h2⟩ := r.pin p hp
    refine ⟨h1, ?_⟩
    have ne : i ≠ p.1 := fun q => hi (by rw [q]; exact h1)
    rw [List.getElem?_set_ne ne]
    exact h2
theorem Cf.store {i : Nat} {t : AT} (c : Cf K mg pv F H σ e as ([t] ++ held)) (hi : i ∉ e.pn) : Cf K mg pv F H (σ.set i (some t.val)) (e.setS i (er t)) (as.set i (some t)) held := by
  refine ⟨c.s, c.r.store hi, ?_⟩
  obtain ⟨L, p⟩ := opts_set (as := as) (i := i) t
  have p2 : (opts as ++ ([t] ++ held)).Perm (L ++ (opts (as.set i (some t)) ++ held)) := by
    refine (List.perm_middle (l₁ := opts as) (l₂ := held) (a := t)).trans ?_
    have := p.append_right held
    rw [List.append_assoc] at this
    exact this
  exact (c.g.perm p2).sub
theorem Cf.putR {i : Nat} {v : V} {r : RV} (c : Cf K mg pv F H σ e as (tr ++ held)) (h : RR σ v r tr) (q : putR i r e = some e') :
    ∃ F' as', Same F F' ∧ Cf K mg pv F' H (σ.set i (some v)) e' as' held := by
  unfold VF.putR at q
  by_cases hi : i ∈ e.pn
  · rw [if_pos hi] at q; cases q
  rw [if_neg hi] at q
  cases r with
  | fz d =>
    cases q
    have e1 : tr = [.fz v d] := h
    subst e1
    exact ⟨F, _, Same.refl _, c.store hi⟩
  | own s =>
    cases q
    obtain ⟨t, e1, e2, e3⟩ := h
    subst e1 e2 e3
    exact ⟨F, _, Same.refl _, c.store hi⟩
  | var j =>
    obtain ⟨e1, hv⟩ := h
    subst e1
    cases z : e.sl[j]? with
    | none => simp only [z] at q; cases q
    | some o =>
      cases o with
      | none => simp only [z] at q; cases q
      | some s =>
        simp only [z] at q
        cases q
        obtain ⟨t, ht, et⟩ := c.r.slotOf z
        subst et
        obtain ⟨F', s1, c', rp⟩ := c.frzS ht
        have hv2 := c.r.at_ j t ht
        rw [hv] at hv2
        have ev : v = t.val := by simpa using hv2
        subst ev
        exact ⟨F', _, s1, Cf.store (t := .fz t.val (er t).toD) (c'.fz rp) hi⟩
def dSet (i : Nat) (a : M RV) : M Fl := a.bind fun r e => match putR i r e with
  | some e' => .ok .nx e'
  | none => .st
theorem ss_set {i : Nat} {ta : TE} {ma : M RV} (ha : SE K mg E ta ma) : SS K mg E (tAsg ta (gName i)) (dSet i ma) := by
  intro pv F H σ e as held D c w
  refine ha pv F H σ e as held _ c (WE.bindE (W := WS K mg pv F held E D) (fun z => z) w (fun _ _ z => z) fun r1 e1 v1 F1 H1 as1 tr1 s1 c1 rr1 w1 => ?_)
  have w2 : WS K mg pv F held E D (match putR i r1 e1 with
    | some e' => .ok .nx e'
    | none => .st) := w1
  cases q : putR i r1 e1 with
  | none => rw [q] at w2; exact w2.elim
  | some e' =>
    rw [q] at w2
    obtain ⟨F', as', s', c'⟩ := c1.putR rr1 q
    exact w2 _ F' H1 as' (s1.trans s') c'
def dLst (a : M (List RV)) : M RV := a.bind fun rs e => match frzRs rs e with
  | some (ds, e') => if ds.length ≤ sizeLine then .ok (.own (.ol (ds.map .fz))) e' else .st
  | none => .st
def atoms (vs : List V) (ds : List D) : List AT := (vs.zip ds).map fun p => .fz p.1 p.2
theorem vals_atoms : ∀ {vs : List V} {ds : List D}, Reps K mg F vs ds → vals (atoms vs ds) = vs
  | [], [], _ => rfl
  | v :: vs, d :: ds, ⟨_, h⟩ => congrArg (v :: ·) (vals_atoms h)
  | [], _ :: _, h => h.elim
  | _ :: _, [], h => h.elim
theorem ers_atoms : ∀ {vs : List V} {ds : List D}, Reps K mg F vs ds → ers (atoms vs ds) = ds.map .fz
  | [], [], _ => rfl
  | v :: vs, d :: ds, ⟨_, h⟩ => congrArg (SV.fz d :: ·) (ers_atoms h)
  | [], _ :: _, h => h.elim
  | _ :: _, [], h => h.elim
theorem cells_atoms : ∀ (vs : List V) (ds : List D), cellsL (atoms vs ds) = []
  | [], _ => rfl
  | _ :: _, [] => rfl
  | v :: vs, d :: ds => cells_atoms vs ds
theorem oks_atoms : ∀ {vs : List V} {ds : List D}, Reps K mg F vs ds → Oks K mg F (atoms vs ds)
  | [], [], _ => trivial
  | v :: vs, d :: ds, ⟨h1, h⟩ => ⟨h1, oks_atoms h⟩
  | [], _ :: _, h => h.elim
  | _ :: _, [], h => h.elim
theorem Good.atoms {vs : List V} {ds : List D} (g : Good K mg F H us) (h : Reps K mg F vs ds) : Good K mg F H (atoms vs ds ++ us) :=
  ⟨fun c hc => g.at_ c (by rw [cellsL_append, cells_atoms] at hc; exact hc), Oks.append.mpr ⟨oks_atoms h, g.ok⟩, by rw [cellsL_append, cells_atoms]; exact g.nd⟩
theorem Cf.newL {p : Addr} {vs : List V} {ds : List D} (c : Cf K mg pv F H σ e as held) (h : Reps K mg F vs ds) (hp : H p = none) :
    ∃ t, t.val = .ref p ∧ er t = .ol (ds.map .fz) ∧ Cf K mg pv F (upd H p (.lst vs)) σ e as ([t] ++ held) := by
  refine ⟨.ol p (VF.atoms vs ds), rfl, ?_, same_own c.s (c.s.free hp), c.r, ?_⟩
  · show SV.ol (ers (VF.atoms vs ds)) = _
    rw [ers_atoms h]
  · have g := (c.g.atoms h).new c.s hp
    rw [vals_atoms h] at g
    exact g.perm (List.perm_middle (l₁ := opts as) (l₂ := held)).symm
theorem se_lst {ta : TA} {ma : M (List RV)} (ha : SA K mg E ta ma) : SE K mg E (tLst ta) (dLst ma) := by
  intro pv F H σ e as held Q c w
  refine ha pv F H σ e as held _ c (WA.bindA (W := WE K mg pv F held σ Q E) (fun z => z) w (fun _ _ z => z) fun rs e1 vs F1 H1 as1 tr1 s1 c1 rr1 w1 => ?_)
  have w2 : WE K mg pv F held σ Q E (match frzRs rs e1 with
    | some (ds, e') => if ds.length ≤ sizeLine then .ok (.own (.ol (ds.map .fz))) e' else .st
    | none => .st) := w1
  cases q : frzRs rs e1 with
  | none => rw [q] at w2; exact w2.elim
  | some pr =>
    obtain ⟨ds, e2⟩ := pr
    rw [q] at w2
    obtain ⟨F2, as2, s2, c2, rps⟩ := c1.frzRs rr1 q
    by_cases hz : ds.length ≤ sizeLine
    · simp only [if_pos hz] at w2
      refine ⟨by rw [rps.length]; exact hz, fun p hp => ?_⟩
      obtain ⟨t, e1, e2', c3⟩ := c2.newL rps hp
      exact w2 (.ref p) F2 _ as2 [t] (s1.trans s2) c3 ⟨t, rfl, e1, e2'⟩
    · simp only [if_neg hz] at w2; exact w2.elim
def kid (xs : List SV) (i : Int) : Option D := match atI xs i with
  | some (.fz d) => some d
  | _ => none
def itemD (d : D) (i : Int) : Option D := match d with
  | .lst ds => atI ds i
  | .tup ds => atI ds i
  | .scr ns => (atI ns i).map .int
  | .str z => if z.length ≤ sizeLine then (atI z.cps.toList i).map fun c => .str ⟨#[c]⟩ else none
  | _ => none
def itemS (s : SV) (i : Int) : Option D := match s with
  | .fz d => itemD d i
  | .ol xs => kid xs i
  | _ => none
def itemR (e : Env) (r : RV) (i : Int) : Option D := match r with
  | .fz d => itemD d i
  | .own s => itemS s i
  | .var j => match e.sl[j]? with
    | some (some s) => itemS s i
    | _ => none
def dIx (a b : M RV) : M RV := a.bind fun r => b.bind fun q e => match view e q with
  | some (.int i) => (match itemR e r i with
    | some d => .ok (.fz d) e
    | none => .st)
  | _ => .st
theorem atI_map {α β : Type} (f : α → β) (xs : List α) (i : Int) : atI (xs.map f) i = (atI xs i).map f := by
  unfold atI
  rw [List.length_map]
  cases ixN xs.length i with
  | none => rfl
  | some j => show (xs.map f)[j]? = _; rw [List.getElem?_map]; rfl
theorem Reps.at {vs : List V} {ds : List D} {i : Int} {d : D} (h : Reps K mg F vs ds) (q : atI ds i = some d) : ∃ v, atI vs i = some v ∧ Rep K mg F v d := by
  unfold atI at q ⊢
  rw [h.length]
  cases z : ixN ds.length i with
  | none => rw [z] at q; cases q
  | some j => rw [z] at q; exact h.get q
theorem item_data {v : V} {d x : D} {i : Int} (s : Same F H) (h : Rep K mg F v d) (q : itemD d i = some x) : ∃ y, Rep K mg F y x ∧ ∀ Q : VK, Q y H → rIx K v (.int i) H Q := by
  cases d with
  | lst ds =>
    obtain ⟨p, vs, e, h1, h2⟩ := h
    subst e
    obtain ⟨y, hy, ry⟩ := h2.at q
    exact ⟨y, ry, fun Q k => .inl ⟨p, vs, i, y, rfl, rfl, SqL.of (s _ _ h1), hy, k⟩⟩
  | tup ds =>
    obtain ⟨p, vs, e, h1, h2⟩ := h
    subst e
    obtain ⟨y, hy, ry⟩ := h2.at q
    exact ⟨y, ry, fun Q k => .inr (.inl ⟨p, vs, i, y, rfl, rfl, SqT_same s h1, hy, k⟩)⟩
  | scr ns =>
    obtain ⟨p, e, h1⟩ := h
    subst e
    have q' : (atI ns i).map D.int = some x := q
    cases z : atI ns i with
    | none => rw [z] at q'; cases q'
    | some n =>
      rw [z] at q'
      cases q'
      exact ⟨.int n, rfl, fun Q k => .inl ⟨p, _, i, .int n, rfl, rfl, s.seq h1, by rw [atI_map, z]; rfl, k⟩⟩
  | str z =>
    have e : v = .str z := h
    subst e
    have q' : (if z.length ≤ sizeLine then (atI z.cps.toList i).map (fun c => D.str ⟨#[c]⟩) else none) = some x := q
    by_cases hz : z.length ≤ sizeLine
    · rw [if_pos hz] at q'
      cases w : atI z.cps.toList i with
      | none => rw [w] at q'; cases q'
      | some c =>
        rw [w] at q'
        cases q'
        exact ⟨.str ⟨#[c]⟩, rfl, fun Q k => .inr (.inr ⟨z, i, c, rfl, rfl, hz, w, k⟩)⟩
    · rw [if_neg hz] at q'; cases q'
  | _ => cases q
theorem item_tree {t : AT} {x : D} {i : Int} (g : Good K mg F H us) (hm : t ∈ us) (s : Same F H) (q : itemS (er t) i = some x) : ∃ y, Rep K mg F y x ∧ ∀ Q : VK, Q y H → rIx K t.val (.int i) H Q := by
  have ok := Oks.mem.mp g.ok t hm
  cases t with
  | fz v d => exact item_data s ok q
  | ol p xs =>
    have hc : H p = some (.lst (vals xs)) := (g.at_ (p, .lst (vals xs)) (by rw [cellsL_eq]; exact List.mem_flatMap.mpr ⟨_, hm, List.mem_cons_self⟩)).1
    have q' : kid (ers xs) i = some x := q
    unfold kid at q'
    rw [ers_eq, atI_map] at q'
    cases z : atI xs i with
    | none => rw [z] at q'; cases q'
    | some u =>
      rw [z] at q'
      cases u with
      | fz v d =>
        have ed : d = x := Option.some.inj q'
        subst ed
        have hu : AT.fz v d ∈ xs := by
          unfold atI at z
          cases w : ixN xs.length i with
          | none => rw [w] at z; cases z
          | some j => rw [w] at z; exact List.mem_of_getElem? z
        have oku : Rep K mg F v d := Oks.mem.mp (show Oks K mg F xs from ok) _ hu
        refine ⟨v, oku, fun Q k => .inl ⟨p, vals xs, i, v, rfl, rfl, SqL.of hc, ?_, k⟩⟩
        show atI (xs.map AT.val) i = some v
        rw [atI_map, z]
        rfl
      | ol _ _ => cases q'
      | oo _ _ _ _ _ _ => cases q'
      | od _ _ _ => cases q'
  | oo _ _ _ _ _ _ => cases q
  | od _ _ _ => cases q
theorem Cf.item {v : V} {r : RV} {x : D} {i : Int} (c : Cf K mg pv F H σ e as held) (h : RR σ v r tr) (hm : ∀ t ∈ tr, t ∈ held) (q : itemR e r i = some x) : ∃ y, Rep K mg F y x ∧ ∀ Q : VK, Q y H → rIx K v (.int i) H Q := by
  cases r with
  | fz d =>
    have e1 : tr = [.fz v d] := h
    subst e1
    exact item_tree (t := .fz v d) c.g (List.mem_append_right _ (hm _ List.mem_cons_self)) c.s q
  | own s =>
    obtain ⟨t, e1, e2, e3⟩ := h
    subst e1 e2 e3
    exact item_tree c.g (List.mem_append_right _ (hm _ List.mem_cons_self)) c.s q
  | var j =>
    obtain ⟨_, hv⟩ := h
    have q' : (match e.sl[j]? with | some (some s) => itemS s i | _ => none) = some x := q
    cases z : e.sl[j]? with
    | none => rw [z] at q'; cases q'
    | some o =>
      cases o with
      | none => rw [z] at q'; cases q'
      | some s =>
        rw [z] at q'
        obtain ⟨t, ht, et⟩ := c.r.slotOf z
        subst et
        have hv2 := c.r.at_ j t ht
        rw [hv] at hv2
        have ev : v = t.val := by simpa using hv2
        subst ev
        exact item_tree c.g (List.mem_append_left _ (mem_opts ht)) c.s q'
theorem se_ix {ta tb : TE} {ma mb : M RV} (ha : SE K mg E ta ma) (hb : SE K mg E tb mb) : SE K mg E (tOp (rIx K) ta tb) (dIx ma mb) := by
  intro pv F H σ e as held Q c w
  refine ha pv F H σ e as held _ c (WE.bindE (W := WE K mg pv F held σ Q E) (fun z => z) w (fun _ _ z => z) fun r1 e1 v1 F1 H1 as1 tr1 s1 c1 rr1 w1 => ?_)
  refine hb pv F1 H1 σ e1 as1 (tr1 ++ held) _ c1 (WE.bindE (W := WE K mg pv F held σ Q E) (fun z => z) w1 (fun _ _ z => (WX.mono s1 z).drop) fun r2 e2 v2 F2 H2 as2 tr2 s2 c2 rr2 w2 => ?_)
  have w3 : WE K mg pv F held σ Q E (match view e2 r2 with
    | some (.int i) => (match itemR e2 r1 i with
      | some d => .ok (.fz d) e2
      | none => .st)
    | _ => .st) := w2
  cases q2 : view e2 r2 with
  | none => rw [q2] at w3; exact w3.elim
  | some y =>
    have p2 := c2.seen rr2 (fun t ht => List.mem_append_left _ ht) q2
    rw [q2] at w3
    cases y with
    | int i =>
      have ev : v2 = .int i := p2
      subst ev
      simp only at w3
      cases q3 : itemR e2 r1 i with
      | none => rw [q3] at w3; exact w3.elim
      | some d =>
        rw [q3] at w3
        obtain ⟨y, ry, k⟩ := c2.item rr1 (fun t ht => List.mem_append_right _ (List.mem_append_left _ ht)) q3
        exact k Q (w3 y F2 H2 as2 _ (s1.trans s2) (c2.drop.drop.fz ry) rfl)
    | _ => exact w3.elim
end
end VF
set_option maxRecDepth 100000
set_option maxHeartbeats 4000000
namespace VF
set_option autoImplicit false
open PySem PySem.Spec PyProof.Rows L2
open AT (cells cellsL er ers)
section
variable {K : PySem.W.Frag} {mg : Str → Option Value} {pv : List (Nat × V)} {F F' H H' : Hp} {σ : L2.St} {e e' : Env} {as as' : List (Option AT)} {held tr ts us : List AT} {E : XS}
theorem pswap {α : Type} (a b c : List α) : (a ++ (b ++ c)).Perm (b ++ (a ++ c)) := by
  rw [← List.append_assoc, ← List.append_assoc]
  exact List.perm_append_comm.append_right c
theorem er_ol {t : AT} {xs : List SV} (h : er t = .ol xs) : ∃ p ys, t = .ol p ys ∧ ers ys = xs := by
  cases t with
  | ol p ys => exact ⟨p, ys, rfl, by simpa [er] using h⟩
  | fz _ _ => simp [er] at h
  | oo _ _ _ _ _ _ => simp [er] at h
  | od _ _ _ => simp [er] at h
theorem Cf.ownL {i : Nat} {xs : List SV} (c : Cf K mg pv F H σ e as held) (z : e.sl[i]? = some (some (.ol xs))) :
    ∃ p ys, as[i]? = some (some (.ol p ys)) ∧ ers ys = xs ∧ σ[i]? = some (some (.ref p)) ∧ H p = some (.lst (vals ys)) := by
  obtain ⟨t, ht, et⟩ := c.r.slotOf z
  obtain ⟨p, ys, rfl, ey⟩ := er_ol et
  exact ⟨p, ys, ht, ey, c.r.at_ i _ ht, (c.take ht).cell.1⟩
theorem Cf.relist {i : Nat} {p : Addr} {xs ys zs junk : List AT} (c : Cf K mg pv F H σ e as us) (h : as[i]? = some (some (.ol p xs))) (pm : (xs ++ us).Perm (junk ++ (ys ++ zs))) :
    Cf K mg pv F (upd H p (.lst (vals ys))) σ (e.setS i (.ol (ers ys))) (as.set i (some (.ol p ys))) zs := by
  have g := c.take h
  have g2 : Good K mg F (upd H p (.lst (vals ys))) (.ol p ys :: (opts (as.set i none) ++ zs)) := by
    refine g.relist (junk := junk) ?_
    exact (pswap _ _ _).trans ((pm.append_left _).trans ((pswap _ _ _).trans (List.Perm.append_left _ (pswap _ _ _))))
  exact Cf.put (t' := .ol p ys) c.r h (same_own c.s g.cell.2) g2 rfl
theorem Cf.fzs {v : V} {d : D} (c : Cf K mg pv F H σ e as held) (r : Rep K mg F v d) : Cf K mg pv F H σ e as (.fz v d :: held) := c.fz r
def dApp (i : Nat) (a : M RV) : M RV := fun e0 => match e0.sl[i]? with
  | some (some (.ol _)) => (a e0).bind fun r e => match frzR r e with
    | some (d, e1) => (match e1.sl[i]? with
      | some (some (.ol xs)) => if xs.length < sizeLine then .ok (.fz .non) (e1.setS i (.ol (xs ++ [.fz d]))) else .st
      | _ => .st)
    | none => .st
  | _ => .st
theorem vals_snoc (ys : List AT) (v : V) (d : D) : vals (ys ++ [.fz v d]) = vals ys ++ [v] := by
  unfold vals; rw [List.map_append]; rfl
theorem ers_snoc (ys : List AT) (v : V) (d : D) : ers (ys ++ [.fz v d]) = ers ys ++ [.fz d] := by
  rw [ers_eq, ers_eq, List.map_append]; rfl
theorem se_app {i : Nat} {ta : TE} {ma : M RV} (ha : SE K mg E ta ma) : SE K mg E (tBM K "list" rAppend (tVar i) (tCons ta tNil)) (dApp i ma) := by
  intro pv F H σ e as held Q c w
  unfold dApp at w
  cases z : e.sl[i]? with
  | none => simp only [z] at w; exact w.elim
  | some o =>
    cases o with
    | none => simp only [z] at w; exact w.elim
    | some s =>
      cases s with
      | ol xs0 =>
        simp only [z] at w
        obtain ⟨p, ys0, h0, _, hv, hp⟩ := c.ownL z
        refine ⟨_, hv, .inl ⟨rfl, _, SqL.of hp⟩, ?_⟩
        refine ha pv F H σ e as held _ c (WE.bindE (W := WE K mg pv F held σ Q E) (fun z => z) w (fun _ _ z => z) fun r1 e1 v1 F1 H1 as1 tr1 s1 c1 rr1 w1 => ?_)
        cases q : frzR r1 e1 with
        | none => simp only [q] at w1; exact w1.elim
        | some pr =>
          obtain ⟨d, e2⟩ := pr
          simp only [q] at w1
          obtain ⟨F2, as2, s2, c2, rp⟩ := c1.frzR rr1 q
          cases z2 : e2.sl[i]? with
          | none => simp only [z2] at w1; exact w1.elim
          | some o =>
            cases o with
            | none => simp only [z2] at w1; exact w1.elim
            | some s =>
              cases s with
              | ol xs =>
                simp only [z2] at w1
                by_cases hz : xs.length < sizeLine
                · rw [if_pos hz] at w1
                  obtain ⟨p2, ys, h2, ey, hv2, hp2⟩ := c2.ownL z2
                  have ep : p2 = p := by rw [hv] at hv2; simpa using hv2.symm
                  subst ep
                  have ly : (vals ys).length = xs.length := by rw [← ey, ers_length]; exact List.length_map _
                  refine ⟨p2, vals ys, v1, rfl, rfl, hp2, by rw [ly]; exact hz, ?_⟩
                  have c3 := (c2.fzs rp).relist (ys := ys ++ [.fz v1 d]) (zs := held) (junk := []) h2 (by simp)
                  rw [vals_snoc, ers_snoc, ey] at c3
                  exact w1 .non F2 _ _ _ (s1.trans s2) (c3.fz (show Rep K mg F2 .non .non from rfl)) rfl
                · rw [if_neg hz] at w1; exact w1.elim
              | _ => simp only [z2] at w1; exact w1.elim
      | _ => simp only [z] at w; exact w.elim
def svR : SV → RV
  | .fz d => .fz d
  | .ol xs => .own (.ol xs)
  | .oo c ns xs => .own (.oo c ns xs)
  | .od ks xs => .own (.od ks xs)
theorem rr_svR (t : AT) : RR σ t.val (svR (er t)) [t] := by
  cases t with
  | fz v d => exact rfl
  | ol p xs => exact ⟨_, rfl, rfl, rfl⟩
  | oo p C dx c ns xs => exact ⟨_, rfl, rfl, rfl⟩
  | od p ks xs => exact ⟨_, rfl, rfl, rfl⟩
theorem map_erase {α β : Type} (f : α → β) : ∀ (xs : List α) (k : Nat), (xs.eraseIdx k).map f = (xs.map f).eraseIdx k
  | [], _ => rfl
  | _ :: _, 0 => rfl
  | x :: xs, k + 1 => congrArg (f x :: ·) (map_erase f xs k)
def dSetIx (j : Nat) (b a : M RV) : M Fl := a.bind fun r e0 => match e0.sl[j]? with
  | some (some (.ol _)) => (b e0).bind fun q e => match view e q with
    | some (.int k) => (match frzR r e with
      | some (d, e1) => (match e1.sl[j]? with
        | some (some (.ol xs)) => (match ixN xs.length k with
          | some n => .ok .nx (e1.setS j (.ol (xs.set n (.fz d))))
          | none => .st)
        | _ => .st)
      | none => .st)
    | _ => .st
  | _ => .st
theorem perm_set {α : Type} {y : α} : ∀ {xs : List α} {k : Nat} {x : α}, xs[k]? = some x → (y :: xs).Perm (x :: xs.set k y)
  | a :: xs, 0, x, h => by
    have e : a = x := by simpa using h
    subst e
    exact List.Perm.swap _ _ _
  | a :: xs, k + 1, x, h => by
    have ih := perm_set (y := y) (xs := xs) (k := k) (x := x) (by simpa using h)
    exact ((List.Perm.swap _ _ _).trans (ih.cons a)).trans (List.Perm.swap _ _ _)
theorem Cf.setL {j k : Nat} {p : Addr} {ys : List AT} {v : V} {d : D} (c : Cf K mg pv F H σ e as held) (h : as[j]? = some (some (.ol p ys))) (rp : Rep K mg F v d) (hk : k < ys.length) :
    Cf K mg pv F (upd H p (.lst ((vals ys).set k v))) σ (e.setS j (.ol ((ers ys).set k (.fz d)))) (as.set j (some (.ol p (ys.set k (.fz v d))))) held := by
  have gk : ys[k]? = some ys[k] := List.getElem?_eq_getElem hk
  have c3 := (c.fzs rp).relist (ys := ys.set k (.fz v d)) (zs := held) (junk := [ys[k]]) h (by
    refine (List.perm_middle (l₁ := ys) (l₂ := held) (a := AT.fz v d)).trans ?_
    exact (perm_set (y := AT.fz v d) gk).append_right held)
  have e1 : vals (ys.set k (.fz v d)) = (vals ys).set k v := by unfold vals; rw [List.map_set]; rfl
  have e2 : ers (ys.set k (.fz v d)) = (ers ys).set k (.fz d) := by rw [ers_eq, ers_eq, List.map_set]; rfl
  rw [e1, e2] at c3
  exact c3
theorem ixN_lt {n : Nat} {i : Int} {j : Nat} (h : ixN n i = some j) : j < n := (ixN_seq h).2.1
theorem ss_setIx {j : Nat} {ta tb : TE} {ma mb : M RV} (hb : SE K mg E tb mb) (ha : SE K mg E ta ma) : SS K mg E (tAsg ta (gSub (tVar j) tb rSetL)) (dSetIx j mb ma) := by
  intro pv F H σ e as held D c w
  refine ha pv F H σ e as held _ c (WE.bindE (W := WS K mg pv F held E D) (fun z => z) w (fun _ _ z => z) fun r1 e1 v1 F1 H1 as1 tr1 s1 c1 rr1 w1 => ?_)
  cases z : e1.sl[j]? with
  | none => simp only [z] at w1; exact w1.elim
  | some o =>
    cases o with
    | none => simp only [z] at w1; exact w1.elim
    | some s =>
      cases s with
      | ol xs0 =>
        simp only [z] at w1
        obtain ⟨p, ys0, h0, _, hv, hp⟩ := c1.ownL z
        refine ⟨_, hv, ?_⟩
        refine hb pv F1 H1 σ e1 as1 (tr1 ++ held) _ c1 (WE.bindE (W := WS K mg pv F held E D) (fun z => z) w1 (fun _ _ z => (WX.mono s1 z).drop) fun r2 e2 v2 F2 H2 as2 tr2 s2 c2 rr2 w2 => ?_)
        cases q : view e2 r2 with
        | none => simp only [q] at w2; exact w2.elim
        | some x =>
          have p1 := c2.seen rr2 (fun t ht => List.mem_append_left _ ht) q
          cases x with
          | int k =>
            have ev : v2 = .int k := p1
            subst ev
            simp only [q] at w2
            cases q2 : frzR r1 e2 with
            | none => simp only [q2] at w2; exact w2.elim
            | some pr =>
              obtain ⟨d, e3⟩ := pr
              simp only [q2] at w2
              obtain ⟨F3, as3, s3, c3, rp⟩ := (c2.drop).frzR rr1 q2
              cases z2 : e3.sl[j]? with
              | none => simp only [z2] at w2; exact w2.elim
              | some o =>
                cases o with
                | none => simp only [z2] at w2; exact w2.elim
                | some s =>
                  cases s with
                  | ol xs =>
                    simp only [z2] at w2
                    obtain ⟨p2, ys, h2, ey, hv2, hp2⟩ := c3.ownL z2
                    have ep : p2 = p := by rw [hv] at hv2; simpa using hv2.symm
                    subst ep
                    have ly : (vals ys).length = xs.length := by rw [← ey, ers_length]; exact List.length_map _
                    cases q3 : ixN xs.length k with
                    | none => simp only [q3] at w2; exact w2.elim
                    | some n =>
                      simp only [q3] at w2
                      refine ⟨p2, vals ys, k, n, rfl, rfl, hp2, by rw [ly]; exact q3, ?_⟩
                      have hn := ixN_lt q3
                      have c4 := c3.setL h2 rp (show n < ys.length by rw [← ey, ers_length] at hn; exact hn)
                      rw [ey] at c4
                      exact w2 σ F3 _ _ ((s1.trans s2).trans s3) c4
                  | _ => simp only [z2] at w2; exact w2.elim
          | _ => simp only [q] at w2; exact w2.elim
      | _ => simp only [z] at w1; exact w1.elim
end
end VF
set_option maxRecDepth 100000
set_option maxHeartbeats 4000000
namespace VF
set_option autoImplicit false
open PySem PySem.Spec PyProof.Rows L2
open AT (cells cellsL er ers)
section
variable {K : PySem.W.Frag} {mg : Str → Option Value} {pv : List (Nat × V)} {F F' H H' : Hp} {σ : L2.St} {e e' : Env} {as as' : List (Option AT)} {held tr ts us : List AT} {E : XS}
def kidI (e : Env) (j : Nat) (k : Int) : Option Int := match e.sl[j]? with
  | some (some (.ol xs)) => (match kid xs k with
    | some (.int x) => some x
    | _ => none)
  | _ => none
def dAugIx (j : Nat) (b : M RV) (f : Int → Int → Int) (a : M RV) : M Fl := fun e0 => match e0.sl[j]? with
  | some (some (.ol _)) => (b e0).bind fun q e => match view e q with
    | some (.int k) => if 0 ≤ k then (match kidI e j k with
      | some x => (a e).bind fun r e1 => (match view e1 r with
        | some (.int y) => (match e1.sl[j]? with
          | some (some (.ol xs)) => (match ixN xs.length k with
            | some n => .ok .nx (e1.setS j (.ol (xs.set n (.fz (.int (f x y))))))
            | none => .st)
          | _ => .st)
        | _ => .st)
      | _ => .st) else .st
    | _ => .st
  | _ => .st
inductive FR where
  | st | ok (r : SV) (as : List SV) | ex (x : Exc) (as : List SV)
abbrev Fn := List SV → FR
def spF (K : PySem.W.Frag) (mg : Str → Option Value) (n : Nat) (φ : Fn) : Sp := fun vs H Q E => ∃ (F : Hp) (ts held : List AT), vs = vals ts ∧ ts.length = n ∧ Same F H ∧ Good K mg F H (ts ++ held) ∧ match φ (ers ts) with
  | .st => False
  | .ok r as' => ∀ v F' H' t ts', Same F F' → Same F' H' → t.val = v → er t = r → vals ts' = vs → ers ts' = as' → Good K mg F' H' (t :: (ts' ++ held)) → Q v H'
  | .ex x as' => ∀ cls d F' H' ts', Same F F' → Same F' H' → RX mg H' x cls d → (∀ dd, d = some dd → F dd = none) → vals ts' = vs → ers ts' = as' → Good K mg F' H' (ts' ++ held) → E cls d H'
def Env.clr (e : Env) (i : Nat) : Env := ⟨e.sl.set i none, e.pn⟩
def loadOne (md : Bool) (r : RV) (e : Env) : Option (SV × Env) := match md with
  | false => (match frzR r e with
    | some (d, e1) => some (.fz d, e1)
    | none => none)
  | true => (match r with
    | .var i => (match e.sl[i]? with
      | some (some s) => some (s, e.clr i)
      | _ => none)
    | _ => none)
def load : List Bool → List RV → Env → Option (List SV × Env)
  | [], [], e => some ([], e)
  | md :: mds, r :: rs, e => (match loadOne md r e with
    | some (s, e1) => (match load mds rs e1 with
      | some (ss, e2) => some (s :: ss, e2)
      | none => none)
    | none => none)
  | _, _, _ => none
def isClr (e : Env) (i : Nat) : Bool := match e.sl[i]? with
  | some none => true
  | _ => false
theorem isClr_ok {i : Nat} (h : isClr e i = true) : e.sl[i]? = some none := by
  unfold isClr at h
  cases z : e.sl[i]? with
  | none => rw [z] at h; cases h
  | some o => cases o with
    | none => rfl
    | some s => rw [z] at h; cases h
def unload : List Bool → List RV → List SV → Env → Option Env
  | [], [], [], e => some e
  | false :: mds, _ :: rs, _ :: ss, e => unload mds rs ss e
  | true :: mds, .var i :: rs, s :: ss, e => if isClr e i = true then unload mds rs ss (e.setS i s) else none
  | _, _, _, _ => none
theorem Cf.clr {i : Nat} {t : AT} (c : Cf K mg pv F H σ e as held) (h : as[i]? = some (some t)) : Cf K mg pv F H σ (e.clr i) (as.set i none) ([t] ++ held) := by
  refine ⟨c.s, ⟨?_, by rw [List.length_set]; exact c.r.len, fun j u hj => ?_, c.r.pin⟩, ?_⟩
  · show e.sl.set i none = _
    rw [List.map_set, c.r.sl]; rfl
  · by_cases q : j = i
    · subst q
      have hlt : j < as.length := (List.getElem?_eq_some_iff.mp h).1
      rw [List.getElem?_set_self hlt] at hj
      cases hj
    · rw [List.getElem?_set_ne (Ne.symm q)] at hj
      exact c.r.at_ j u hj
  · exact (c.take h).perm (List.perm_middle (l₁ := opts (as.set i none)) (l₂ := held)).symm
theorem Cf.perm {us' : List AT} (c : Cf K mg pv F H σ e as us) (p : us.Perm us') : Cf K mg pv F H σ e as us' := ⟨c.s, c.r, c.g.perm (p.append_left _)⟩
theorem Cf.loadOne {md : Bool} {v : V} {r : RV} {s : SV} {e' : Env} (c : Cf K mg pv F H σ e as (tr ++ held)) (h : RR σ v r tr) (q : loadOne md r e = some (s, e')) :
    ∃ F' as' t, Same F F' ∧ Cf K mg pv F' H σ e' as' ([t] ++ held) ∧ t.val = v ∧ er t = s := by
  cases md with
  | false =>
    unfold VF.loadOne at q
    cases q1 : VF.frzR r e with
    | none => rw [q1] at q; cases q
    | some p =>
      obtain ⟨d, e1⟩ := p
      rw [q1] at q
      cases q
      obtain ⟨F', as', s1, c1, rp⟩ := c.frzR h q1
      exact ⟨F', as', .fz v d, s1, c1.fz rp, rfl, rfl⟩
  | true =>
    unfold VF.loadOne at q
    cases r with
    | var i =>
      obtain ⟨e1, hv⟩ := h
      subst e1
      cases z : e.sl[i]? with
      | none => simp only [z] at q; cases q
      | some o =>
        cases o with
        | none => simp only [z] at q; cases q
        | some s0 =>
          simp only [z] at q
          cases q
          obtain ⟨t, ht, et⟩ := c.r.slotOf z
          have hv2 := c.r.at_ i t ht
          rw [hv] at hv2
          have ev : v = t.val := by simpa using hv2
          exact ⟨F, _, t, Same.refl _, c.clr ht, ev.symm, et⟩
    | fz _ => cases q
    | own _ => cases q
theorem Cf.load : ∀ {md : List Bool} {rs : List RV} {vs : List V} {ss : List SV} {F : Hp} {e e' : Env} {as : List (Option AT)} {tr held : List AT}, Cf K mg pv F H σ e as (tr ++ held) → RRs σ vs rs tr → load md rs e = some (ss, e') →
    ∃ F' as' ts, Same F F' ∧ Cf K mg pv F' H σ e' as' (ts ++ held) ∧ vals ts = vs ∧ ers ts = ss
  | [], [], [], ss, F, e, e', as, tr, held, c, h, q => by
    have e1 : tr = [] := h
    subst e1
    have q' : some (([] : List SV), e) = some (ss, e') := q
    cases q'
    exact ⟨F, as, [], Same.refl _, c, rfl, rfl⟩
  | md :: mds, r :: rs, v :: vs, ss, F, e, e', as, tr, held, c, ⟨t1, t2, e1, h1, h2⟩, q => by
    subst e1
    have q' : (match VF.loadOne md r e with
      | some (s, e1) => (match VF.load mds rs e1 with
        | some (ss, e2) => some (s :: ss, e2)
        | none => none)
      | none => none) = some (ss, e') := q
    cases q1 : VF.loadOne md r e with
    | none => rw [q1] at q'; cases q'
    | some p =>
      obtain ⟨s, e1⟩ := p
      rw [q1] at q'
      cases q2 : VF.load mds rs e1 with
      | none => simp only [q2] at q'; cases q'
      | some p2 =>
        obtain ⟨ss2, e2⟩ := p2
        simp only [q2] at q'
        cases q'
        have c1 : Cf K mg pv F H σ e as (t1 ++ (t2 ++ held)) := c.perm (by rw [List.append_assoc]; exact pswap _ _ _)
        obtain ⟨F1, as1, t, s1, c2, ev, et⟩ := c1.loadOne h1 q1
        obtain ⟨F2, as2, ts, s2, c3, evs, ets⟩ := Cf.load (held := [t] ++ held) (c2.perm (pswap _ _ _)) h2 q2
        refine ⟨F2, as2, t :: ts, s1.trans s2, c3.perm (pswap ts [t] held), ?_, ?_⟩
        · show t.val :: vals ts = _
          rw [ev, evs]
        · show er t :: ers ts = _
          rw [et, ets]
  | [], _ :: _, _, _, _, _, _, _, _, _, _, _, q => by cases q
  | _ :: _, [], _, _, _, _, _, _, _, _, _, _, q => by cases q
  | _, [], _ :: _, _, _, _, _, _, _, _, _, h, _ => h.elim
  | _, _ :: _, [], _, _, _, _, _, _, _, _, h, _ => h.elim
theorem Cf.unload : ∀ {md : List Bool} {rs : List RV} {vs : List V} {ss : List SV} {e e' : Env} {as : List (Option AT)} {ts tr : List AT}, Cf K mg pv F H σ e as (ts ++ held) → RRs σ vs rs tr → vals ts = vs → ers ts = ss → unload md rs ss e = some e' →
    ∃ as', Cf K mg pv F H σ e' as' held
  | [], [], [], ss, e, e', as, ts, tr, c, h, ev, es, q => by
    cases ts with
    | nil =>
      have : ss = [] := es.symm
      subst this
      have q' : some e = some e' := q
      cases q'
      exact ⟨as, c⟩
    | cons t ts => cases ev
  | false :: mds, r :: rs, v :: vs, ss, e, e', as, ts, tr, c, ⟨t1, t2, e1, h1, h2⟩, ev, es, q => by
    cases ts with
    | nil => cases ev
    | cons t ts =>
      cases ss with
      | nil => cases es
      | cons s ss =>
        injection ev with ev1 ev2
        injection es with es1 es2
        exact Cf.unload (md := mds) (ts := ts) (Cf.drop (tr := [t]) c) h2 ev2 es2 q
  | true :: mds, r :: rs, v :: vs, ss, e, e', as, ts, tr, c, ⟨t1, t2, e1, h1, h2⟩, ev, es, q => by
    cases ts with
    | nil => cases ev
    | cons t ts =>
      cases ss with
      | nil => cases es
      | cons s ss =>
        injection ev with ev1 ev2
        injection es with es1 es2
        cases r with
        | fz _ => cases q
        | own _ => cases q
        | var i =>
          have q' : (if isClr e i = true then VF.unload mds rs ss (e.setS i s) else none) = some e' := q
          by_cases hi' : isClr e i = true
          · rw [if_pos hi'] at q'
            have hi := isClr_ok hi'
            have hv : σ[i]? = some (some v) := h1.2
            have hai : as[i]? = some none := by
              rw [c.r.sl, List.getElem?_map] at hi
              cases z : as[i]? with
              | none => rw [z] at hi; cases hi
              | some o => cases o with
                | none => rfl
                | some u => rw [z] at hi; cases hi
            have hlt : i < as.length := (List.getElem?_eq_some_iff.mp hai).1
            have c1 : Cf K mg pv F H σ (e.setS i s) (as.set i (some t)) (ts ++ held) := by
              refine ⟨c.s, ⟨?_, by rw [List.length_set]; exact c.r.len, fun j u hj => ?_, c.r.pin⟩, ?_⟩
              · show e.sl.set i (some s) = _
                rw [List.map_set, c.r.sl, ← es1]; rfl
              · by_cases z : j = i
                · subst z
                  rw [List.getElem?_set_self hlt] at hj
                  cases hj
                  rw [hv, ev1]
                · rw [List.getElem?_set_ne (Ne.symm z)] at hj
                  exact c.r.at_ j u hj
              · have g : Good K mg F H (t :: (opts as ++ (ts ++ held))) := c.g.perm (List.perm_middle (l₁ := opts as) (l₂ := ts ++ held) (a := t))
                exact g.perm ((opts_put t hai).append_right (ts ++ held))
            exact Cf.unload (md := mds) (ts := ts) c1 h2 ev2 es2 q'
          · rw [if_neg hi'] at q'; cases q'
  | [], _ :: _, _, _, _, _, _, _, _, _, _, _, _, q => by cases q
  | true :: _, [], _, _, _, _, _, _, _, _, _, _, _, q => by cases q
  | false :: _, [], _, _, _, _, _, _, _, _, _, _, _, q => by cases q
  | _, [], _ :: _, _, _, _, _, _, _, _, h, _, _, _ => h.elim
  | _, _ :: _, [], _, _, _, _, _, _, _, h, _, _, _ => h.elim
def dCall (md : List Bool) (φ : Fn) (a : M (List RV)) : M RV := a.bind fun rs e => match load md rs e with
  | some (ss, e1) => (match φ ss with
    | .st => .st
    | .ok r ss' => (match unload md rs ss' e1 with
      | some e2 => .ok (svR r) e2
      | none => .st)
    | .ex x ss' => (match unload md rs ss' e1 with
      | some e2 => .ex x e2
      | none => .st))
  | none => .st
theorem load_len : ∀ {md : List Bool} {rs : List RV} {e : Env} {p : List SV × Env}, load md rs e = some p → rs.length = md.length
  | [], [], _, _, _ => rfl
  | md :: mds, r :: rs, e, p, q => by
    have q' : (match VF.loadOne md r e with
      | some (s, e1) => (match VF.load mds rs e1 with
        | some (ss, e2) => some (s :: ss, e2)
        | none => none)
      | none => none) = some p := q
    cases q1 : VF.loadOne md r e with
    | none => rw [q1] at q'; cases q'
    | some p1 =>
      rw [q1] at q'
      cases q2 : VF.load mds rs p1.2 with
      | none => simp only [q2] at q'; cases q'
      | some p2 => exact congrArg Nat.succ (load_len q2)
  | [], _ :: _, _, _, q => by cases q
  | _ :: _, [], _, _, q => by cases q
theorem RRs.length : ∀ {vs : List V} {rs : List RV} {tr : List AT}, RRs σ vs rs tr → vs.length = rs.length
  | [], [], _, _ => rfl
  | _ :: _, _ :: _, _, ⟨_, _, _, _, h⟩ => congrArg Nat.succ (RRs.length h)
  | [], _ :: _, _, h => h.elim
  | _ :: _, [], _, h => h.elim
theorem se_call {md : List Bool} {φ : Fn} {ta : TA} {ma : M (List RV)} (ha : SA K mg E ta ma) : SE K mg E (tCallS (spF K mg md.length φ) (fun σ cls d H => E cls d σ H) ta) (dCall md φ ma) := by
  intro pv F H σ e as held Q c w
  refine ha pv F H σ e as held _ c (WA.bindA (W := WE K mg pv F held σ Q E) (fun z => z) w (fun _ _ z => z) fun rs e1 vs F1 H1 as1 tr1 s1 c1 rr1 w1 => ?_)
  cases q : load md rs e1 with
  | none => simp only [q] at w1; exact w1.elim
  | some p =>
    obtain ⟨ss, e2⟩ := p
    simp only [q] at w1
    obtain ⟨F2, as2, ts, s2, c2, ev, es⟩ := c1.load rr1 q
    have lt : ts.length = md.length := by
      rw [← load_len q, ← rr1.length, ← ev]; exact (List.length_map _).symm
    refine ⟨F2, ts, opts as2 ++ held, ev.symm, lt, c2.s, c2.g.perm (pswap _ _ _), ?_⟩
    rw [es]
    cases q2 : φ ss with
    | st => simp only [q2] at w1; exact w1.elim
    | ok r ss' =>
      simp only [q2] at w1
      intro v F3 H3 t ts' s3 s4 et er' evs ess g
      cases q3 : unload md rs ss' e2 with
      | none => simp only [q3] at w1; exact w1.elim
      | some e3 =>
        simp only [q3] at w1
        have c3 : Cf K mg pv F3 H3 σ e2 as2 (ts' ++ ([t] ++ held)) := ⟨s4, c2.r, g.perm (by
          have h1 : (t :: (ts' ++ (opts as2 ++ held))).Perm (ts' ++ (opts as2 ++ ([t] ++ held))) := by
            refine (List.perm_middle (l₁ := ts') (l₂ := opts as2 ++ held) (a := t)).symm.trans ?_
            exact List.Perm.append_left _ (List.perm_middle (l₁ := opts as2) (l₂ := held) (a := t)).symm
          exact h1.trans (pswap _ _ _))⟩
        obtain ⟨as3, c4⟩ := c3.unload rr1 evs ess q3
        subst et er'
        exact w1 t.val F3 H3 as3 [t] ((s1.trans s2).trans s3) c4 (rr_svR t)
    | ex x ss' =>
      simp only [q2] at w1
      intro cls d F3 H3 ts' s3 s4 rx hn evs ess g
      cases q3 : unload md rs ss' e2 with
      | none => simp only [q3] at w1; exact w1.elim
      | some e3 =>
        simp only [q3] at w1
        have c3 : Cf K mg pv F3 H3 σ e2 as2 (ts' ++ held) := ⟨s4, c2.r, g.perm (pswap _ _ _)⟩
        obtain ⟨as3, c4⟩ := c3.unload rr1 evs ess q3
        exact w1 cls d F3 H3 σ as3 ((s1.trans s2).trans s3) c4 rx fun dd q => none_le (s1.trans s2) (hn dd q)
end
end VF
set_option maxRecDepth 100000
set_option maxHeartbeats 4000000
namespace VF
set_option autoImplicit false
open PySem PySem.Spec PyProof.Rows L2
open AT (cells cellsL er ers)
section
variable {K : PySem.W.Frag} {mg : Str → Option Value} {pv : List (Nat × V)} {F F' H H' : Hp} {σ : L2.St} {e e' : Env} {as as' : List (Option AT)} {held tr ts us : List AT} {E : XS}
def immS : SV → Option D
  | .fz d => (match imm d with
    | some _ => some d
    | none => none)
  | _ => none
def dCallB (n : Nat) (φ : Fn) (a : M (List RV)) : M RV := a.bind fun rs e => match rs.mapM (view e) with
  | some ds => if ds.length = n then (match φ (ds.map .fz) with
    | .ok r _ => (match immS r with
      | some d => .ok (.fz d) e
      | none => .st)
    | .ex x _ => .ex x e
    | .st => .st) else .st
  | none => .st
theorem Good.same {ts : List AT} (g : Good K mg F H ts) (s : Same H H') : Good K mg F H' ts := ⟨fun c hc => ⟨s _ _ (g.at_ c hc).1, (g.at_ c hc).2⟩, g.ok, g.nd⟩
theorem Cf.same (c : Cf K mg pv F H σ e as held) (s : Same H H') : Cf K mg pv F H' σ e as held := ⟨c.s.trans s, c.r, c.g.same s⟩
theorem se_callB {n : Nat} {φ : Fn} {ta : TA} {ma : M (List RV)} (ha : SA K mg E ta ma) : SE K mg E (tCallS (spF K mg n φ) (fun σ cls d H => E cls d σ H) ta) (dCallB n φ ma) := by
  intro pv F H σ e as held Q c w
  refine ha pv F H σ e as held _ c (WA.bindA (W := WE K mg pv F held σ Q E) (fun z => z) w (fun _ _ z => z) fun rs e1 vs F1 H1 as1 tr1 s1 c1 rr1 w1 => ?_)
  cases q : rs.mapM (view e1) with
  | none => simp only [q] at w1; exact w1.elim
  | some ds =>
    simp only [q] at w1
    have rp := RRs.seen (rs := rs) c1 rr1 (fun t ht => List.mem_append_left _ ht) q
    by_cases hn : ds.length = n
    · rw [if_pos hn] at w1
      have g0 : Good K mg H1 H1 ([] : List AT) := ⟨fun c hc => absurd (show c ∈ ([] : List (Addr × HO)) from hc) List.not_mem_nil, trivial, List.nodup_nil⟩
      have lz : (atoms vs ds).length = n := by
        unfold atoms
        rw [List.length_map, List.length_zip, rp.length, Nat.min_self]; exact hn
      refine ⟨H1, atoms vs ds, [], by rw [vals_atoms rp], lz, Same.refl _, g0.atoms rp, ?_⟩
      rw [ers_atoms rp]
      have c1' := c1.drop
      cases q2 : φ (ds.map .fz) with
      | st => simp only [q2] at w1; exact w1.elim
      | ok r ss' =>
        simp only [q2] at w1
        intro v F3 H3 t ts' s3 s4 et er' _ _ g
        cases q3 : immS r with
        | none => simp only [q3] at w1; exact w1.elim
        | some d =>
          simp only [q3] at w1
          subst et
          have sh : Same H1 H3 := s3.trans s4
          cases r with
          | fz d' =>
            have q3' : (match imm d' with | some _ => some d' | none => none) = some d := q3
            cases q4 : imm d' with
            | none => rw [q4] at q3'; cases q3'
            | some u =>
              rw [q4] at q3'
              have ed : d' = d := Option.some.inj q3'
              subst ed
              cases t with
              | fz v0 d0 =>
                have e0 : d0 = d' := by simpa [er] using er'
                subst e0
                have rv : Rep K mg F3 v0 d0 := g.unfz.2
                have ev : v0 = u := by
                  cases d0 <;> first | (cases q4; exact rv) | cases q4
                subst ev
                exact w1 v0 F1 H3 as1 _ s1 ((c1'.same sh).fz (rep_imm q4)) rfl
              | ol _ _ => simp [er] at er'
              | oo _ _ _ _ _ _ => simp [er] at er'
              | od _ _ _ => simp [er] at er'
          | ol _ => cases q3
          | oo _ _ _ => cases q3
          | od _ _ => cases q3
      | ex x ss' =>
        simp only [q2] at w1
        intro cls d F3 H3 ts' s3 s4 rx hn _ _ g
        have sh : Same H1 H3 := s3.trans s4
        have n0 : ∀ dd, d = some dd → F dd = none := fun dd q => none_le (s1.trans c1.s) (hn dd q)
        exact w1 cls d F1 H3 σ as1 s1 (c1'.same sh) rx n0
    · rw [if_neg hn] at w1; exact w1.elim
def pinIx (i : Nat) : List Bool → List Nat
  | [] => []
  | true :: l => i :: pinIx (i + 1) l
  | false :: l => pinIx (i + 1) l
def okArgs : List Bool → List SV → Bool
  | [], [] => true
  | true :: l, _ :: ss => okArgs l ss
  | false :: l, .fz _ :: ss => okArgs l ss
  | _, _ => false
def outs (i : Nat) : List Bool → List SV → Env → Option (List SV)
  | [], [], _ => some []
  | false :: l, s :: ss, e => (match outs (i + 1) l ss e with
    | some r => some (s :: r)
    | none => none)
  | true :: l, _ :: ss, e => (match e.sl[i]? with
    | some (some s) => (match outs (i + 1) l ss (e.clr i) with
      | some r => some (s :: r)
      | none => none)
    | _ => none)
  | _, _, _ => none
def resOf (f : Fl) (e : Env) : Option (SV × Env) := match f with
  | .nx => some (.fz .non, e)
  | .rt (.fz d) => some (.fz d, e)
  | .rt (.own s) => some (s, e)
  | .rt (.var i) => (match e.sl[i]? with
    | some (some s) => if i ∈ e.pn then some (.fz s.toD, e.setS i (.fz s.toD)) else some (s, e.clr i)
    | _ => none)
  | _ => none
def env0 (md : List Bool) (n : Nat) (ss : List SV) : Env := ⟨ss.map some ++ List.replicate (n - ss.length) none, pinIx 0 md⟩
def mkFn (md : List Bool) (n : Nat) (m : M Fl) : Fn := fun ss => if okArgs md ss = true then (match m (env0 md n ss) with
  | .st => .st
  | .ok f e => (match resOf f e with
    | some (r, e1) => (match outs 0 md ss e1 with
      | some ss' => .ok r ss'
      | none => .st)
    | none => .st)
  | .ex x e => (match outs 0 md ss e with
    | some ss' => .ex x ss'
    | none => .st)) else .st
theorem outs_ok {md : List Bool} : ∀ {i : Nat} {ss ss' : List SV} {vs : List V} {ts0 us : List AT} {e : Env} {as : List (Option AT)}, Cf K mg pv F' H' σ e as us → Oks K mg F' (ts0.filter fun t => match t with | .fz _ _ => true | _ => false) → okArgs md ss = true → vals ts0 = vs → ers ts0 = ss →
    (∀ (j : Nat) (v : V), vs[j]? = some v → md[j]? = some true → σ[i + j]? = some (some v)) → outs i md ss e = some ss' → ∃ ts', Good K mg F' H' (ts' ++ us) ∧ vals ts' = vs ∧ ers ts' = ss' := by
  induction md with
  | nil =>
    intro i ss ss' vs ts0 us e as c hok ho hv he hs q
    cases ss with
    | nil =>
      cases ts0 with
      | nil =>
        have : ss' = [] := by simpa [outs] using q.symm
        subst this
        exact ⟨[], c.g.sub, by rw [← hv], rfl⟩
      | cons _ _ => cases he
    | cons _ _ => cases ho
  | cons b md ih =>
    intro i ss ss' vs ts0 us e as c hok ho hv he hs q
    cases ss with
    | nil => cases b <;> cases ho
    | cons s ss =>
      cases ts0 with
      | nil => cases he
      | cons t ts0 =>
        cases vs with
        | nil => cases hv
        | cons v vs =>
          injection hv with hv1 hv2
          injection he with he1 he2
          have hs' : ∀ (j : Nat) (w : V), vs[j]? = some w → md[j]? = some true → σ[i + 1 + j]? = some (some w) := fun j w h1 h2 => by
            have := hs (j + 1) w (by simpa using h1) (by simpa using h2)
            rw [show i + 1 + j = i + (j + 1) by omega]
            exact this
          cases b with
          | false =>
            cases s with
            | fz d =>
              have q' : (match outs (i + 1) md ss e with | some r => some (SV.fz d :: r) | none => none) = some ss' := q
              cases q1 : outs (i + 1) md ss e with
              | none => rw [q1] at q'; cases q'
              | some r =>
                rw [q1] at q'
                cases q'
                cases t with
                | fz v0 d0 =>
                  have hok' : Ok K mg F' (.fz v0 d0) ∧ Oks K mg F' (ts0.filter fun t => match t with | .fz _ _ => true | _ => false) := by
                    simpa [List.filter_cons, Oks] using hok
                  obtain ⟨ts', g, e1, e2⟩ := ih c hok'.2 (by simpa [okArgs] using ho) hv2 he2 hs' q1
                  refine ⟨.fz v0 d0 :: ts', g.fz hok'.1, ?_, ?_⟩
                  · show v0 :: vals ts' = _
                    rw [e1]
                    rw [show v0 = v from hv1]
                  · show SV.fz d0 :: ers ts' = _
                    rw [e2]
                    rw [show SV.fz d0 = .fz d from he1]
                | ol _ _ => cases he1
                | oo _ _ _ _ _ _ => cases he1
                | od _ _ _ => cases he1
            | ol _ => cases ho
            | oo _ _ _ => cases ho
            | od _ _ => cases ho
          | true =>
            have q' : (match e.sl[i]? with
              | some (some s) => (match outs (i + 1) md ss (e.clr i) with
                | some r => some (s :: r)
                | none => none)
              | _ => none) = some ss' := q
            cases z : e.sl[i]? with
            | none => rw [z] at q'; cases q'
            | some o =>
              cases o with
              | none => rw [z] at q'; cases q'
              | some s' =>
                rw [z] at q'
                simp only at q'
                cases q1 : outs (i + 1) md ss (e.clr i) with
                | none => rw [q1] at q'; cases q'
                | some r =>
                  rw [q1] at q'
                  cases q'
                  obtain ⟨u, hu, eu⟩ := c.r.slotOf z
                  have hv3 := c.r.at_ i u hu
                  have hv4 := hs 0 v rfl rfl
                  rw [Nat.add_zero, hv3] at hv4
                  have euv : u.val = v := by simpa using hv4
                  have hok' : Oks K mg F' (ts0.filter fun t => match t with | .fz _ _ => true | _ => false) := by
                    cases t with
                    | fz v0 d0 => exact (by simpa [List.filter_cons, Oks] using hok : Ok K mg F' (.fz v0 d0) ∧ _).2
                    | ol _ _ => simpa [List.filter_cons] using hok
                    | oo _ _ _ _ _ _ => simpa [List.filter_cons] using hok
                    | od _ _ _ => simpa [List.filter_cons] using hok
                  obtain ⟨ts', g, e1, e2⟩ := ih (c.clr hu) hok' (by simpa [okArgs] using ho) hv2 he2 hs' q1
                  refine ⟨u :: ts', g.perm ?_, ?_, ?_⟩
                  · exact List.perm_middle (l₁ := ts') (l₂ := us) (a := u)
                  · show u.val :: vals ts' = _
                    rw [e1, euv]
                  · show er u :: ers ts' = _
                    rw [e2, eu]
end
end VF
set_option maxRecDepth 100000
set_option maxHeartbeats 4000000
namespace VF
set_option autoImplicit false
open PySem PySem.Spec PyProof.Rows L2
open AT (cells cellsL er ers)
section
variable {K : PySem.W.Frag} {mg : Str → Option Value} {pv : List (Nat × V)} {F F' H H' : Hp} {σ : L2.St} {e e' : Env} {as as' : List (Option AT)} {held tr ts us : List AT} {E : XS}
def pins (i : Nat) : List Bool → List V → List (Nat × V)
  | true :: l, v :: vs => (i, v) :: pins (i + 1) l vs
  | false :: l, _ :: vs => pins (i + 1) l vs
  | _, _ => []
theorem pins_at : ∀ {md : List Bool} {vs : List V} {i j : Nat} {v : V}, md[j]? = some true → vs[j]? = some v → (i + j, v) ∈ pins i md vs
  | true :: _, v :: _, i, 0, _, _, h => by cases h; exact List.mem_cons_self
  | false :: _, _ :: _, _, 0, _, h, _ => by cases h
  | true :: md, v :: vs, i, j + 1, _, h, h' => by
    have := pins_at (md := md) (vs := vs) (i := i + 1) (j := j) (by simpa using h) (by simpa using h')
    rw [show i + (j + 1) = i + 1 + j by omega]
    exact List.mem_cons_of_mem _ this
  | false :: md, v :: vs, i, j + 1, _, h, h' => by
    have := pins_at (md := md) (vs := vs) (i := i + 1) (j := j) (by simpa using h) (by simpa using h')
    rw [show i + (j + 1) = i + 1 + j by omega]
    exact this
  | [], _, _, _, _, h, _ => by cases h
  | _ :: _, [], _, _, _, _, h => by cases h
theorem pins_mem : ∀ {md : List Bool} {vs : List V} {i : Nat} {p : Nat × V}, p ∈ pins i md vs → ∃ j, p.1 = i + j ∧ vs[j]? = some p.2 ∧ p.1 ∈ pinIx i md
  | true :: md, v :: vs, i, p, h => by
    rcases List.mem_cons.mp (show p ∈ (i, v) :: pins (i + 1) md vs from h) with q | q
    · subst q; exact ⟨0, rfl, rfl, List.mem_cons_self⟩
    · obtain ⟨j, h1, h2, h3⟩ := pins_mem q
      exact ⟨j + 1, by omega, by simpa using h2, List.mem_cons_of_mem _ h3⟩
  | false :: md, v :: vs, i, p, h => by
    obtain ⟨j, h1, h2, h3⟩ := pins_mem (show p ∈ pins (i + 1) md vs from h)
    exact ⟨j + 1, by omega, by simpa using h2, h3⟩
  | [], _, _, _, h => absurd (show _ ∈ ([] : List (Nat × V)) from h) List.not_mem_nil
  | true :: _, [], _, _, h => absurd (show _ ∈ ([] : List (Nat × V)) from h) List.not_mem_nil
  | false :: _, [], _, _, h => absurd (show _ ∈ ([] : List (Nat × V)) from h) List.not_mem_nil
theorem opts_start (ts : List AT) (k : Nat) : opts (ts.map some ++ List.replicate k none) = ts := by
  unfold opts
  rw [List.filterMap_append]
  have h1 : ∀ l : List AT, (l.map some).filterMap id = l := fun l => by
    induction l with
    | nil => rfl
    | cons a l ih => rw [List.map_cons, List.filterMap_cons]; simp [ih]
  have h2 : (List.replicate k (none : Option AT)).filterMap id = [] := by
    induction k with
    | zero => rfl
    | succ k ih => rw [List.replicate_succ, List.filterMap_cons]; simpa using ih
  rw [h1, h2, List.append_nil]
theorem start_ok {md : List Bool} {N : List Str} (s : Same F H) (g : Good K mg F H (ts ++ held)) :
    Cf K mg (pins 0 md (vals ts)) F H (L2.start N (vals ts)) (env0 md N.length (ers ts)) (ts.map some ++ List.replicate (N.length - ts.length) none) held := by
  have lv : (vals ts).length = ts.length := List.length_map _
  refine ⟨s, ⟨?_, ?_, fun j u hj => ?_, fun p hp => ?_⟩, by rw [opts_start]; exact g⟩
  · show (ers ts).map some ++ List.replicate (N.length - (ers ts).length) none = _
    rw [List.map_append, List.map_replicate, ers_length, ers_eq, List.map_map, List.map_map]
    rfl
  · unfold L2.start
    rw [List.length_append, List.length_append, List.length_map, List.length_map, List.length_replicate, List.length_replicate, lv]
  · have hlt : j < ts.length := by
      by_cases q : j < ts.length
      · exact q
      · rw [List.getElem?_append_right (by simpa using q), List.getElem?_replicate] at hj
        split at hj <;> cases hj
    rw [List.getElem?_append_left (by simpa using hlt), List.getElem?_map] at hj
    unfold L2.start
    rw [List.getElem?_append_left (by rw [List.length_map, lv]; exact hlt), List.getElem?_map]
    unfold vals
    rw [List.getElem?_map]
    cases z : ts[j]? with
    | none => rw [z] at hj; cases hj
    | some t => rw [z] at hj; cases hj; rfl
  · obtain ⟨j, h1, h2, h3⟩ := pins_mem hp
    refine ⟨h3, ?_⟩
    rw [Nat.zero_add] at h1
    rw [h1]
    have hlt : j < (vals ts).length := (List.getElem?_eq_some_iff.mp h2).1
    unfold L2.start
    rw [List.getElem?_append_left (by rw [List.length_map]; exact hlt), List.getElem?_map, h2]
    rfl
theorem body_ok {Ef : XK} {md : List Bool} {N : List Str} {m : M Fl} {t : TS} {vs : List V} {Q : VK} (ht : SS K mg (fun cls d _ H => Ef cls d H) t m) (w : spF K mg md.length (mkFn md N.length m) vs H Q Ef) :
    t { nx := fun _ H' => Q .non H', rt := Q } (L2.start N vs) H := by
  obtain ⟨F, ts, held, rfl, lt, s, g, w⟩ := w
  have okf : ∀ {F'}, Same F F' → Oks K mg F' (ts.filter fun t => match t with | .fz _ _ => true | _ => false) := fun s' => by
    refine Oks.mem.mpr fun t ht => ?_
    exact Ok.same s' (Oks.mem.mp g.ok t (List.mem_append_left _ (List.mem_filter.mp ht).1))
  unfold mkFn at w
  by_cases ha : okArgs md (ers ts) = true
  · rw [if_pos ha] at w
    have fin : ∀ {F' H' σ' e2 as2 us ss'}, Same F F' → Cf K mg (pins 0 md (vals ts)) F' H' σ' e2 as2 us → outs 0 md (ers ts) e2 = some ss' → ∃ ts', Good K mg F' H' (ts' ++ us) ∧ vals ts' = vals ts ∧ ers ts' = ss' := fun s' c' q =>
      outs_ok c' (okf s') ha rfl rfl (fun j v h1 h2 => (c'.r.pin (0 + j, v) (pins_at h2 h1)).2) q
    refine ht _ F H _ _ _ held _ (start_ok (md := md) (N := N) s g) ?_
    cases q : m (env0 md N.length (ers ts)) with
    | st => simp only [q] at w
    | ex x e1 =>
      simp only [q] at w
      intro cls d F' H' σ' as' s' c' rx hn
      cases q2 : outs 0 md (ers ts) e1 with
      | none => simp only [q2] at w
      | some ss' =>
        simp only [q2] at w
        obtain ⟨ts', g', h1, h2⟩ := fin s' c' q2
        exact w cls d F' H' ts' s' c'.s rx hn h1 h2 g'
    | ok f e1 =>
      simp only [q] at w
      cases f with
      | bk => simp only [resOf] at w
      | ct => simp only [resOf] at w
      | nx =>
        simp only [resOf] at w
        intro σ' F' H' as' s' c'
        cases q2 : outs 0 md (ers ts) e1 with
        | none => simp only [q2] at w
        | some ss' =>
          simp only [q2] at w
          obtain ⟨ts', g', h1, h2⟩ := fin s' (c'.fz (show Rep K mg F' .non .non from rfl)) q2
          exact w .non F' H' (.fz .non .non) ts' s' c'.s rfl rfl h1 h2 (g'.perm (pswap ts' [.fz .non .non] held))
      | rt r =>
        intro v σ' F' H' as' tr s' c' rr
        cases r with
        | fz d =>
          simp only [resOf] at w
          have e1 : tr = [.fz v d] := rr
          subst e1
          cases q2 : outs 0 md (ers ts) e1 with
          | none => simp only [q2] at w
          | some ss' =>
            simp only [q2] at w
            obtain ⟨ts', g', h1, h2⟩ := fin s' c' q2
            exact w v F' H' (.fz v d) ts' s' c'.s rfl rfl h1 h2 (g'.perm (pswap ts' [.fz v d] held))
        | own s =>
          simp only [resOf] at w
          obtain ⟨t0, e1, e2, e3⟩ := rr
          subst e1
          cases q2 : outs 0 md (ers ts) e1 with
          | none => simp only [q2] at w
          | some ss' =>
            simp only [q2] at w
            obtain ⟨ts', g', h1, h2⟩ := fin s' c' q2
            exact w v F' H' t0 ts' s' c'.s e2 e3 h1 h2 (g'.perm (pswap ts' [t0] held))
        | var i =>
          obtain ⟨e2, hv⟩ := rr
          subst e2
          simp only [resOf] at w
          cases z : e1.sl[i]? with
          | none => simp only [z] at w
          | some o =>
            cases o with
            | none => simp only [z] at w
            | some s0 =>
              simp only [z] at w
              obtain ⟨t0, h0, e0⟩ := c'.r.slotOf z
              have hv2 := c'.r.at_ i t0 h0
              rw [hv] at hv2
              have ev : v = t0.val := by simpa using hv2
              subst e0
              by_cases hp : i ∈ e1.pn
              · simp only [if_pos hp] at w
                obtain ⟨F2, s2, c2, rp⟩ := Cf.frzS (held := held) c' h0
                cases q2 : outs 0 md (ers ts) (e1.setS i (.fz (er t0).toD)) with
                | none => simp only [q2] at w
                | some ss' =>
                  simp only [q2] at w
                  obtain ⟨ts', g', h1, h2⟩ := fin (s'.trans s2) (c2.fz rp) q2
                  exact w v F2 H' (.fz t0.val (er t0).toD) ts' (s'.trans s2) c2.s ev.symm rfl h1 h2 (g'.perm (pswap ts' [.fz t0.val (er t0).toD] held))
              · simp only [if_neg hp] at w
                cases q2 : outs 0 md (ers ts) (e1.clr i) with
                | none => simp only [q2] at w
                | some ss' =>
                  simp only [q2] at w
                  obtain ⟨ts', g', h1, h2⟩ := fin s' (Cf.clr (held := held) c' h0) q2
                  exact w v F' H' t0 ts' s' c'.s ev.symm rfl h1 h2 (g'.perm (pswap ts' [t0] held))
  · rw [if_neg ha] at w; exact w.elim
end
def wE (K : PySem.W.Frag) (mg : Str → Option Value) (E : XS) (m : M RV) : TE := fun σ H Q => ∃ pv F e as held, Cf K mg pv F H σ e as held ∧ WE K mg pv F held σ Q E (m e)
def wT (K : PySem.W.Frag) (mg : Str → Option Value) (E : XS) (m : M Bool) : TT := fun σ H Q => ∃ pv F e as held, Cf K mg pv F H σ e as held ∧ WT K mg pv F held σ Q E (m e)
def wA (K : PySem.W.Frag) (mg : Str → Option Value) (E : XS) (m : M (List RV)) : TA := fun σ H Q => ∃ pv F e as held, Cf K mg pv F H σ e as held ∧ WA K mg pv F held σ Q E (m e)
def wS (K : PySem.W.Frag) (mg : Str → Option Value) (E : XS) (m : M Fl) : TS := fun D σ H => ∃ pv F e as held, Cf K mg pv F H σ e as held ∧ WS K mg pv F held E D (m e)
section
variable {K : PySem.W.Frag} {mg : Str → Option Value} {E : XS}
theorem se_w {m : M RV} : SE K mg E (wE K mg E m) m := fun pv F H σ e as held Q c w => ⟨pv, F, e, as, held, c, w⟩
theorem st_w {m : M Bool} : ST K mg E (wT K mg E m) m := fun pv F H σ e as held Q c w => ⟨pv, F, e, as, held, c, w⟩
theorem sa_w {m : M (List RV)} : SA K mg E (wA K mg E m) m := fun pv F H σ e as held Q c w => ⟨pv, F, e, as, held, c, w⟩
theorem ss_w {m : M Fl} : SS K mg E (wS K mg E m) m := fun pv F H σ e as held D c w => ⟨pv, F, e, as, held, c, w⟩
end
def VE (X : Cx) (E : XS) (e : Expr) (m : M RV) : Prop := PE X e (wE X.K X.mg E m)
def VT (X : Cx) (E : XS) (e : Expr) (m : M Bool) : Prop := PT X e (wT X.K X.mg E m)
def VA (X : Cx) (E : XS) (es : List Expr) (m : M (List RV)) : Prop := PA X es (wA X.K X.mg E m)
def VS (X : Cx) (E : XS) (s : Stmt) (m : M Fl) : Prop := PS X s (wS X.K X.mg E m)
def VB (X : Cx) (E : XS) (ss : List Stmt) (m : M Fl) : Prop := PSs X ss (wS X.K X.mg E m)
section
variable {X : Cx} {E : XS}
theorem VE.mk {e : Expr} {t : TE} {m : M RV} (h : PE X e t) (s : SE X.K X.mg E t m) : VE X E e m := ⟨fun pins s0 σ H Q I ⟨pv, F, e0, as, held, c, w⟩ => h.run pins s0 σ H Q I (s pv F H σ e0 as held Q c w)⟩
theorem VT.mk {e : Expr} {t : TT} {m : M Bool} (h : PT X e t) (s : ST X.K X.mg E t m) : VT X E e m := ⟨fun pins s0 σ H Q I ⟨pv, F, e0, as, held, c, w⟩ => h.run pins s0 σ H Q I (s pv F H σ e0 as held Q c w)⟩
theorem VA.mk {e : List Expr} {t : TA} {m : M (List RV)} (h : PA X e t) (s : SA X.K X.mg E t m) : VA X E e m := ⟨fun pos pins s0 σ H Q I ⟨pv, F, e0, as, held, c, w⟩ => h.run pos pins s0 σ H Q I (s pv F H σ e0 as held Q c w)⟩
theorem VS.mk {e : Stmt} {t : TS} {m : M Fl} (h : PS X e t) (s : SS X.K X.mg E t m) : VS X E e m := ⟨fun pins s0 σ H D I ⟨pv, F, e0, as, held, c, w⟩ => h.run pins s0 σ H D I (s pv F H σ e0 as held D c w)⟩
theorem VB.mk {e : List Stmt} {t : TS} {m : M Fl} (h : PSs X e t) (s : SS X.K X.mg E t m) : VB X E e m := ⟨fun pins s0 σ H D I ⟨pv, F, e0, as, held, c, w⟩ => h.run pins s0 σ H D I (s pv F H σ e0 as held D c w)⟩
end
def mkFn0 (md : List Bool) (n : Nat) (m : M Fl) : Fn := fun ss => match mkFn md n m ss with
  | .ok r as => .ok r as
  | _ => .st
theorem fn_ok {P : Program} {w : World} {K : PySem.W.Frag} {mg : Str → Option Value} {base : Heap} {x qual : Str} {params : Arguments} {body : List Stmt} {scope : Scope} {dvs : List V} {kws : List (Str × V)} {f : Addr} {fd : FuncData} {N ps : List Str} {k : Nat}
    (F : FunD K x qual params body scope dvs kws f fd) (S : FnScope N ps scope) (md : List Bool) (hl : md.length = ps.length) {m : M Fl} {n : Nat} (hN : N.length = n)
    (hb : ∀ (cdv : Value) (A : Around) (outer : List PySem.Env) (s : Shared) (H : Hp) (E : XK), Room k (A.deeper (envOfC qual scope s.heap.objs.size f cdv)) → VB (cxOf CX0 P w K mg base N qual scope f cdv A outer s H E).nox E0 body m) :
    FnOk P w K mg base CX0 (k + 1) f fd ps (spF K mg md.length (mkFn0 md n m)) := by
  subst hN
  refine F.ok S (fun vs H Q E h => ?_) (fun cdv A outer s H vs Q E hr h => ⟨_, (hb cdv A outer s H E hr).nox, ?_⟩)
  · obtain ⟨F, ts, held, rfl, lt, _⟩ := h
    rw [← hl, ← lt]; exact List.length_map _
  · have h' : spF K mg md.length (mkFn md N.length m) vs H Q L2.E0 := by
      obtain ⟨F, ts, held, e1, lt, s, g, w⟩ := h
      refine ⟨F, ts, held, e1, lt, s, g, ?_⟩
      unfold mkFn0 at w
      cases q : mkFn md N.length m (ers ts) with
      | st => rw [q] at w; exact w
      | ok r as => rw [q] at w; exact w
      | ex x as => rw [q] at w; exact w.elim
    exact body_ok (Ef := L2.E0) ss_w h'
end VF
set_option maxRecDepth 100000
set_option maxHeartbeats 4000000
namespace VF
set_option autoImplicit false
open PySem PySem.Spec PyProof.Rows L2
open AT (cells cellsL er ers)
structure ItOk (K : PySem.W.Frag) (mg : Str → Option Value) (F0 : Hp) (J : It) (ds : List D) : Prop where
  go : ∀ (i : Nat) F H, Same F0 F → Same F H → i < ds.length → J.go i H
  yld : ∀ (i : Nat) F H x H', Same F0 F → Same F H → i < ds.length → J.yld i H x H' → ∃ F' d, Same F F' ∧ Same F' H' ∧ (∀ us, Good K mg F H us → Good K mg F' H' us) ∧ ds[i]? = some d ∧ Rep K mg F' x d
  stop : ∀ (i : Nat) F H, Same F0 F → Same F H → ds.length ≤ i → J.stop i H
section
variable {K : PySem.W.Frag} {mg : Str → Option Value} {pv : List (Nat × V)} {F F' H H' : Hp} {σ : L2.St} {e e' : Env} {as as' : List (Option AT)} {held tr ts us : List AT} {E : XS}
def WI (K : PySem.W.Frag) (mg : Str → Option Value) (pv : List (Nat × V)) (F : Hp) (held : List AT) (σ : L2.St) (Q : It → Hp → Prop) (E : XS) : R (List D) → Prop
  | .st => False
  | .ok ds e' => ∀ J F' H' as', Same F F' → Cf K mg pv F' H' σ e' as' held → ItOk K mg F' J ds → Q J H'
  | .ex x e' => WX K mg pv F held E x e'
def SI (K : PySem.W.Frag) (mg : Str → Option Value) (E : XS) (t : TI) (m : M (List D)) : Prop := ∀ pv F H σ e as held Q, Cf K mg pv F H σ e as held → WI K mg pv F held σ Q E (m e) → t σ H Q
theorem it_list {a : Addr} {vs : List V} {ds : List D} (h : F a = some (.lst vs)) (r : Reps K mg F vs ds) : ItOk K mg F (Itl K a) ds where
  go := fun i F1 H1 s s' hi => by
    have hv : i < vs.length := by rw [r.length]; exact hi
    exact ⟨vs, vs[i], SqL.of (s' _ _ (s _ _ h)), List.getElem?_eq_getElem hv⟩
  yld := fun i F1 H1 x H' s s' hi y => by
    obtain ⟨e1, y⟩ := y
    subst e1
    obtain ⟨d, hd, rd⟩ := r.getV (y vs (SqL.of (s' _ _ (s _ _ h))))
    exact ⟨F1, d, Same.refl _, s', fun us g => g, hd, Rep.same s rd⟩
  stop := fun i F1 H1 s s' hi => ⟨vs, SqL.of (s' _ _ (s _ _ h)), by rw [r.length]; exact hi⟩
theorem it_tup {a : Addr} {vs : List V} {ds : List D} (h : SqT K F a vs) (r : Reps K mg F vs ds) : ItOk K mg F (Itt K a) ds where
  go := fun i F1 H1 s s' hi => by
    have hv : i < vs.length := by rw [r.length]; exact hi
    exact ⟨vs, vs[i], SqT_same s' (SqT_same s h), List.getElem?_eq_getElem hv⟩
  yld := fun i F1 H1 x H' s s' hi y => by
    obtain ⟨e1, y⟩ := y
    subst e1
    obtain ⟨d, hd, rd⟩ := r.getV (y vs (SqT_same s' (SqT_same s h)))
    exact ⟨F1, d, Same.refl _, s', fun us g => g, hd, Rep.same s rd⟩
  stop := fun i F1 H1 s s' hi => ⟨vs, SqT_same s' (SqT_same s h), by rw [r.length]; exact hi⟩
def signs (z : Str) : List D := z.cps.toList.map fun c => .str ⟨#[c]⟩
theorem it_str {z : Str} : ItOk K mg F (Its z) (signs z) where
  go := fun i F1 H1 s s' hi => by
    have : i < z.cps.size := by simpa [signs] using hi
    exact this
  yld := fun i F1 H1 x H' s s' hi y => by
    obtain ⟨e1, c, hc, ex⟩ := y
    subst e1 ex
    refine ⟨F1, .str ⟨#[c]⟩, Same.refl _, s', fun us g => g, ?_, rfl⟩
    unfold signs
    rw [List.getElem?_map, Array.getElem?_toList, hc]
    rfl
  stop := fun i F1 H1 s s' hi => by
    have : z.cps.size ≤ i := by simpa [signs] using hi
    exact this
def rngD (lo : Int) (n : Nat) : List D := (List.range n).map fun i => .int (lo + (i : Nat))
theorem it_rng {lo : Int} {n : Nat} : ItOk K mg F (Itr lo n) (rngD lo n) where
  go := fun i F1 H1 s s' hi => by
    have : i < n := by simpa [rngD] using hi
    exact this
  yld := fun i F1 H1 x H' s s' hi y => by
    obtain ⟨e1, ex⟩ := y
    subst e1 ex
    have hi' : i < n := by simpa [rngD] using hi
    refine ⟨F1, .int (lo + (i : Nat)), Same.refl _, s', fun us g => g, ?_, rfl⟩
    unfold rngD
    rw [List.getElem?_map, List.getElem?_range hi']
    rfl
  stop := fun i F1 H1 s s' hi => by
    have : n ≤ i := by simpa [rngD] using hi
    exact this
def zipD (ds es : List D) : List D := (ds.zip es).map fun p => .tup [p.1, p.2]
theorem it_zip {a b : Addr} {vs ws : List V} {ds es : List D} (h : F a = some (.lst vs)) (r : Reps K mg F vs ds) (h' : F b = some (.lst ws)) (r' : Reps K mg F ws es) : ItOk K mg F (Itz K a b) (zipD ds es) where
  go := fun i F1 H1 s s' hi => by
    have hi' : i < ds.length ∧ i < es.length := by simpa [zipD, Nat.lt_min] using hi
    have hv : i < vs.length := by rw [r.length]; exact hi'.1
    have hw : i < ws.length := by rw [r'.length]; exact hi'.2
    exact ⟨vs, ws, vs[i], ws[i], SqL.of (s' _ _ (s _ _ h)), SqL.of (s' _ _ (s _ _ h')), List.getElem?_eq_getElem hv, List.getElem?_eq_getElem hw⟩
  yld := fun i F1 H1 x H' s s' hi y => by
    obtain ⟨T, u, u', e1, hT, e2, y, y'⟩ := y
    subst e1 e2
    obtain ⟨d, hd, rd⟩ := r.getV (y vs (SqL.of (s' _ _ (s _ _ h))))
    obtain ⟨d', hd', rd'⟩ := r'.getV (y' ws (SqL.of (s' _ _ (s _ _ h'))))
    have sb := same_both (o := .tup [u, u']) s' hT
    refine ⟨upd F1 T (.tup [u, u']), .tup [d, d'], sb.1, sb.2, fun us g => g.newF s' hT, ?_, ⟨T, _, rfl, SqT.of upd_same, Rep.same (s.trans sb.1) rd, Rep.same (s.trans sb.1) rd', trivial⟩⟩
    unfold zipD
    rw [List.getElem?_map, (List.getElem?_zip_eq_some (z := (d, d'))).mpr ⟨hd, hd'⟩]
    rfl
  stop := fun i F1 H1 s s' hi => by
    have hi' : ds.length ≤ i ∨ es.length ≤ i := by
      have : min ds.length es.length ≤ i := by simpa [zipD] using hi
      omega
    exact ⟨vs, ws, SqL.of (s' _ _ (s _ _ h)), SqL.of (s' _ _ (s _ _ h')), by rw [r.length, r'.length]; exact hi'⟩
theorem WE.bindI {f : RV → M (List D)} {m : M RV} {R0 : It → Hp → Prop} (h : WI K mg pv F held σ R0 E ((m e).bind f)) {P : V → Hp → Prop}
    (k : ∀ r e' v F' H' as' tr, Same F F' → Cf K mg pv F' H' σ e' as' (tr ++ held) → RR σ v r tr → WI K mg pv F held σ R0 E (f r e') → P v H') : WE K mg pv F held σ P E (m e) :=
  WE.bindE (W := WI K mg pv F held σ R0 E) (fun z => z) h (fun _ _ z => z) k
def walk (d : D) : Option (List D) := match d with
  | .lst ds => some ds
  | .tup ds => some ds
  | .str z => some (signs z)
  | _ => none
def dIt (a : M RV) : M (List D) := a.bind fun r e => match frzR r e with
  | some (d, e1) => (match walk d with
    | some ds => .ok ds e1
    | none => .st)
  | none => .st
def iAny (K : PySem.W.Frag) (tl : TE) : TI := fun σ H R => iList K tl σ H R ∨ iTup K tl σ H R ∨ iStr tl σ H R
theorem pi_any {X : Cx} {tg l : Expr} {tl : TE} (hl : PE X l tl) : PI X tg l (iAny X.K tl) := ⟨fun pins s σ H R I h => by
  rcases h with h | h | h
  · exact (pi_list hl).run pins s σ H R I h
  · exact (pi_tup hl).run pins s σ H R I h
  · exact (pi_str hl).run pins s σ H R I h⟩
theorem si_any {ta : TE} {ma : M RV} (ha : SE K mg E ta ma) : SI K mg E (iAny K ta) (dIt ma) := by
  intro pv F H σ e as held R0 c w
  have key : ∀ (P : V → Hp → Prop), (∀ r e' v F' H' as' tr, ma e = .ok r e' → Same F F' → Cf K mg pv F' H' σ e' as' (tr ++ held) → RR σ v r tr → P v H') → ta σ H P := fun P k => by
    refine ha pv F H σ e as held P c ?_
    have w' : WI K mg pv F held σ R0 E ((ma e).bind fun r e => match frzR r e with
      | some (d, e1) => (match walk d with
        | some ds => .ok ds e1
        | none => .st)
      | none => .st) := w
    cases q : ma e with
    | st => rw [q] at w'; exact w'.elim
    | ok r e' => exact fun v F' H' as' tr s c' rr => k r e' v F' H' as' tr q s c' rr
    | ex x e' => rw [q] at w'; exact w'
  have w' : WI K mg pv F held σ R0 E ((ma e).bind fun r e => match frzR r e with
    | some (d, e1) => (match walk d with
      | some ds => .ok ds e1
      | none => .st)
    | none => .st) := w
  cases q : ma e with
  | st => rw [q] at w'; exact w'.elim
  | ex x e1 =>
    refine .inl (ha pv F H σ e as held _ c ?_)
    rw [q] at w' ⊢
    exact w'
  | ok r e1 =>
    rw [q] at w'
    have w2 : WI K mg pv F held σ R0 E (match frzR r e1 with
      | some (d, e1) => (match walk d with
        | some ds => .ok ds e1
        | none => .st)
      | none => .st) := w'
    cases q1 : frzR r e1 with
    | none => rw [q1] at w2; exact w2.elim
    | some p =>
      obtain ⟨d, e2⟩ := p
      rw [q1] at w2
      cases d with
      | lst ds =>
        refine .inl (key _ fun r' e' v F' H' as' tr q' s c' rr => ?_)
        rw [q] at q'
        cases q'
        obtain ⟨F2, as2, s2, c2, rp⟩ := c'.frzR rr q1
        obtain ⟨p, vs, ev, h1, h2⟩ := rp
        exact ⟨p, ev, ⟨vs, SqL.of (c2.s _ _ h1)⟩, w2 _ F2 H' as2 (s.trans s2) c2 (it_list h1 h2)⟩
      | tup ds =>
        refine .inr (.inl (key _ fun r' e' v F' H' as' tr q' s c' rr => ?_))
        rw [q] at q'
        cases q'
        obtain ⟨F2, as2, s2, c2, rp⟩ := c'.frzR rr q1
        obtain ⟨p, vs, ev, h1, h2⟩ := rp
        exact ⟨p, ev, ⟨vs, SqT_same c2.s h1⟩, w2 _ F2 H' as2 (s.trans s2) c2 (it_tup h1 h2)⟩
      | str z =>
        refine .inr (.inr (key _ fun r' e' v F' H' as' tr q' s c' rr => ?_))
        rw [q] at q'
        cases q'
        obtain ⟨F2, as2, s2, c2, rp⟩ := c'.frzR rr q1
        have ev : v = .str z := rp
        exact ⟨z, ev, w2 _ F2 H' as2 (s.trans s2) c2 it_str⟩
      | _ => exact w2.elim
theorem WA.bindI {f : List RV → M (List D)} {m : M (List RV)} {R0 : It → Hp → Prop} (h : WI K mg pv F held σ R0 E ((m e).bind f)) {P : List V → Hp → Prop}
    (k : ∀ r e' v F' H' as' tr, Same F F' → Cf K mg pv F' H' σ e' as' (tr ++ held) → RRs σ v r tr → WI K mg pv F held σ R0 E (f r e') → P v H') : WA K mg pv F held σ P E (m e) :=
  WA.bindA (W := WI K mg pv F held σ R0 E) (fun z => z) h (fun _ _ z => z) k
def small62 (i : Int) : Bool := decide (-(2 ^ 62) ≤ i ∧ i < 2 ^ 62)
def oneI : List D → Option Int
  | [.int i] => some i
  | _ => none
def twoI : List D → Option (Int × Int)
  | [.int i, .int j] => some (i, j)
  | _ => none
theorem oneI_some {ds : List D} {p : Int} (h : oneI ds = some p) : ds = [.int p] := by
  unfold oneI at h
  split at h
  · cases h; rfl
  · cases h
theorem twoI_some {ds : List D} {p : Int × Int} (h : twoI ds = some p) : ds = [.int p.1, .int p.2] := by
  unfold twoI at h
  split at h
  · cases h; rfl
  · cases h
def dRng1 (a : M (List RV)) : M (List D) := a.bind fun rs e => match rs.mapM (view e) with
  | some ds => (match oneI ds with
    | some j => if small62 j = true then .ok (rngD 0 j.toNat) e else .st
    | none => .st)
  | none => .st
def dRng2 (a : M (List RV)) : M (List D) := a.bind fun rs e => match rs.mapM (view e) with
  | some ds => (match twoI ds with
    | some (i, j) => if (small62 i && small62 j) = true then .ok (rngD i (j - i).toNat) e else .st
    | none => .st)
  | none => .st
theorem reps1 {vs : List V} {d : D} (h : Reps K mg F vs [d]) : ∃ v, vs = [v] ∧ Rep K mg F v d := by
  match vs, h with
  | [v], ⟨h1, _⟩ => exact ⟨v, rfl, h1⟩
theorem reps2 {vs : List V} {d d' : D} (h : Reps K mg F vs [d, d']) : ∃ v v', vs = [v, v'] ∧ Rep K mg F v d ∧ Rep K mg F v' d' := by
  match vs, h with
  | [v, v'], ⟨h1, h2, _⟩ => exact ⟨v, v', rfl, h1, h2⟩
theorem si_rng1 {ta : TA} {ma : M (List RV)} (ha : SA K mg E ta ma) : SI K mg E (iRng1 ta) (dRng1 ma) := by
  intro pv F H σ e as held R0 c w
  refine ha pv F H σ e as held _ c (WA.bindI w fun r1 e1 v1 F1 H1 as1 tr1 s1 c1 rr1 w1 => ?_)
  cases q : r1.mapM (view e1) with
  | none => simp only [q] at w1; exact w1.elim
  | some ds =>
    have rp := RRs.seen (rs := r1) c1 rr1 (fun t ht => List.mem_append_left _ ht) q
    simp only [q] at w1
    cases q2 : oneI ds with
    | none => simp only [q2] at w1; exact w1.elim
    | some j =>
      simp only [q2] at w1
      rw [oneI_some q2] at rp
      obtain ⟨v, e2, rv⟩ := reps1 rp
      by_cases hj : small62 j = true
      · rw [if_pos hj] at w1
        have hj2 := of_decide_eq_true hj
        have ev : v = .int j := rv
        subst ev
        exact ⟨j, e2, hj2.1, hj2.2, w1 _ F1 H1 as1 s1 c1.drop it_rng⟩
      · rw [if_neg hj] at w1; exact w1.elim
theorem si_rng2 {ta : TA} {ma : M (List RV)} (ha : SA K mg E ta ma) : SI K mg E (iRng2 ta) (dRng2 ma) := by
  intro pv F H σ e as held R0 c w
  refine ha pv F H σ e as held _ c (WA.bindI w fun r1 e1 v1 F1 H1 as1 tr1 s1 c1 rr1 w1 => ?_)
  cases q : r1.mapM (view e1) with
  | none => simp only [q] at w1; exact w1.elim
  | some ds =>
    have rp := RRs.seen (rs := r1) c1 rr1 (fun t ht => List.mem_append_left _ ht) q
    simp only [q] at w1
    cases q2 : twoI ds with
    | none => simp only [q2] at w1; exact w1.elim
    | some p =>
      obtain ⟨i, j⟩ := p
      simp only [q2] at w1
      rw [twoI_some q2] at rp
      obtain ⟨v, v', e2, rv, rv'⟩ := reps2 rp
      by_cases hj : (small62 i && small62 j) = true
      · rw [if_pos hj] at w1
        have hj2 := Bool.and_eq_true_iff.mp hj
        have h1 := of_decide_eq_true hj2.1
        have h2 := of_decide_eq_true hj2.2
        have ev : v = .int i := rv
        have ev' : v' = .int j := rv'
        subst ev ev'
        exact ⟨i, j, e2, ⟨h1.1, h1.2, h2.1, h2.2⟩, w1 _ F1 H1 as1 s1 c1.drop it_rng⟩
      · rw [if_neg hj] at w1; exact w1.elim
def twoL : List D → Option (List D × List D)
  | [.lst ds, .lst es] => some (ds, es)
  | _ => none
theorem twoL_some {ds : List D} {p : List D × List D} (h : twoL ds = some p) : ds = [.lst p.1, .lst p.2] := by
  unfold twoL at h
  split at h
  · cases h; rfl
  · cases h
def dZip (a : M (List RV)) : M (List D) := a.bind fun rs e => match frzRs rs e with
  | some (ds, e1) => (match twoL ds with
    | some (xs, ys) => .ok (zipD xs ys) e1
    | none => .st)
  | none => .st
theorem si_zip {ta : TA} {ma : M (List RV)} (ha : SA K mg E ta ma) : SI K mg E (iZip K ta) (dZip ma) := by
  intro pv F H σ e as held R0 c w
  refine ha pv F H σ e as held _ c (WA.bindI w fun r1 e1 v1 F1 H1 as1 tr1 s1 c1 rr1 w1 => ?_)
  cases q : frzRs r1 e1 with
  | none => simp only [q] at w1; exact w1.elim
  | some p =>
    obtain ⟨ds, e2⟩ := p
    simp only [q] at w1
    obtain ⟨F2, as2, s2, c2, rp⟩ := c1.frzRs rr1 q
    cases q2 : twoL ds with
    | none => simp only [q2] at w1; exact w1.elim
    | some xs =>
      obtain ⟨xs, ys⟩ := xs
      simp only [q2] at w1
      rw [twoL_some q2] at rp
      obtain ⟨v, v', e3, ⟨p, vs, ev, h1, h2⟩, ⟨p', vs', ev', h1', h2'⟩⟩ := reps2 rp
      subst ev ev'
      exact ⟨p, p', vs, vs', e3, SqL.of (c2.s _ _ h1), SqL.of (c2.s _ _ h1'), w1 _ F2 H1 as2 (s1.trans s2) c2 (it_zip h1 h2 h1' h2')⟩
abbrev Tg := D → Env → Option Env
abbrev Tgs := List D → Env → Option Env
def SG (K : PySem.W.Frag) (mg : Str → Option Value) (L : List Nat) (tg : TG) (g : Tg) : Prop := ∀ pv F H σ e as held v d e' Q, Cf K mg pv F H σ e as held → Rep K mg F v d → g d e = some e' → (∀ σ' as', (∀ vs, (∀ i ∈ L, i ∈ vs) → wipe σ' vs = wipe σ vs) → Cf K mg pv F H σ' e' as' held → Q σ' H) → tg v σ H Q
def SGs (K : PySem.W.Frag) (mg : Str → Option Value) (L : List Nat) (tg : TGs) (g : Tgs) : Prop := ∀ pv F H σ e as held v d e' Q, Cf K mg pv F H σ e as held → Reps K mg F v d → g d e = some e' → (∀ σ' as', (∀ vs, (∀ i ∈ L, i ∈ vs) → wipe σ' vs = wipe σ vs) → Cf K mg pv F H σ' e' as' held → Q σ' H) → tg v σ H Q
def gN (i : Nat) : Tg := fun d e => putR i (.fz d) e
theorem wipe_set {σ : L2.St} {i : Nat} {x : Option V} : ∀ {vs : List Nat}, i ∈ vs → wipe (σ.set i x) vs = wipe σ vs
  | v :: vs, h => by
    by_cases hv : i ∈ vs
    · show (wipe (σ.set i x) vs).set v none = (wipe σ vs).set v none
      rw [wipe_set hv]
    · have e : i = v := by
        rcases List.mem_cons.mp h with q | q
        · exact q
        · exact absurd q hv
      subst e
      have key : ∀ (us : List Nat), i ∉ us → wipe (σ.set i x) us = (wipe σ us).set i x := fun us => by
        induction us with
        | nil => intro _; rfl
        | cons u us ih =>
          intro hu
          have h1 : i ≠ u := fun z => hu (by rw [z]; exact List.mem_cons_self)
          show (wipe (σ.set i x) us).set u none = ((wipe σ us).set u none).set i x
          rw [ih fun z => hu (List.mem_cons_of_mem _ z), List.set_comm _ _ h1]
      show (wipe (σ.set i x) vs).set i none = (wipe σ vs).set i none
      rw [key vs hv, List.set_set]
theorem sg_name {i : Nat} : SG K mg [i] (gName i) (gN i) := by
  intro pv F H σ e as held v d e' Q c r q k
  unfold gN VF.putR at q
  by_cases hi : i ∈ e.pn
  · rw [if_pos hi] at q; cases q
  · rw [if_neg hi] at q
    cases q
    exact k _ _ (fun vs h => wipe_set (h i List.mem_cons_self)) ((c.fz r).store (t := .fz v d) hi)
def gNo : Tgs := fun ds e => match ds with
  | [] => some e
  | _ => none
def gCo (g : Tg) (h : Tgs) : Tgs := fun ds e => match ds with
  | d :: r => (match g d e with
    | some e1 => h r e1
    | none => none)
  | [] => none
theorem sgs_nil : SGs K mg [] gNil gNo := by
  intro pv F H σ e as held v d e' Q c r q k
  cases d with
  | nil =>
    cases v with
    | nil => cases q; exact ⟨rfl, k σ as (fun _ _ => rfl) c⟩
    | cons _ _ => exact r.elim
  | cons _ _ => cases q
theorem sgs_cons {L L' : List Nat} {t : TG} {u : TGs} {g : Tg} {h : Tgs} (hg : SG K mg L t g) (hh : SGs K mg L' u h) : SGs K mg (L ++ L') (gCons t u) (gCo g h) := by
  intro pv F H σ e as held v d e' Q c r q k
  cases d with
  | nil => cases q
  | cons d ds =>
    cases v with
    | nil => exact r.elim
    | cons v vs =>
      have q' : (match g d e with | some e1 => h ds e1 | none => none) = some e' := q
      cases q1 : g d e with
      | none => rw [q1] at q'; cases q'
      | some e1 =>
        rw [q1] at q'
        exact ⟨v, vs, rfl, hg pv F H σ e as held v d e1 _ c r.1 q1 fun σ' as' hw c' => hh pv F H σ' e1 as' held vs ds e' Q c' r.2 q' fun σ2 as2 hw2 c2 => k σ2 as2 (fun ws h => (hw2 ws fun i hi => h i (List.mem_append_right _ hi)).trans (hw ws fun i hi => h i (List.mem_append_left _ hi))) c2⟩
def gTp (n : Nat) (h : Tgs) : Tg := fun d e => match d with
  | .tup ds => if ds.length = n then h ds e else none
  | _ => none
theorem sg_tup {L : List Nat} {n : Nat} {u : TGs} {h : Tgs} (hh : SGs K mg L u h) : SG K mg L (gTup K n u) (gTp n h) := by
  intro pv F H σ e as held v d e' Q c r q k
  cases d with
  | tup ds =>
    obtain ⟨p, vs, ev, h1, h2⟩ := r
    have q' : (if ds.length = n then h ds e else none) = some e' := q
    by_cases hn : ds.length = n
    · rw [if_pos hn] at q'
      exact ⟨p, vs, ev, SqT_same c.s h1, by rw [h2.length]; exact hn, hh pv F H σ e as held vs ds e' Q c h2 q' k⟩
    · rw [if_neg hn] at q'; cases q'
  | _ => cases q
def loopF (g : Tg) (body : M Fl) : List D → M Fl
  | [] => fun e => .ok .nx e
  | d :: ds => fun e => match g d e with
    | none => .st
    | some e1 => (match body e1 with
      | .ok .nx e2 => loopF g body ds e2
      | .ok .ct e2 => loopF g body ds e2
      | .ok .bk e2 => .ok .nx e2
      | .ok (.rt r) e2 => .ok (.rt r) e2
      | .ex x e2 => .ex x e2
      | .st => .st)
def dFor (it : M (List D)) (g : Tg) (body : M Fl) : M Fl := it.bind fun ds => loopF g body ds
theorem WI.bindS {f : List D → M Fl} {m : M (List D)} {D' : Ends} (h : WS K mg pv F held E D' ((m e).bind f)) {P : It → Hp → Prop}
    (k : ∀ ds e' J F' H' as', Same F F' → Cf K mg pv F' H' σ e' as' held → ItOk K mg F' J ds → WS K mg pv F held E D' (f ds e') → P J H') : WI K mg pv F held σ P E (m e) := by
  cases q : m e with
  | st => rw [q] at h; exact h.elim
  | ok r e' => rw [q] at h; exact fun J F' H' as' s c it => k r e' J F' H' as' s c it h
  | ex x e' => rw [q] at h; exact h
theorem ss_for {L : List Nat} {wi : TI} {tg : TG} {tb : TS} {mi : M (List D)} {g : Tg} {mb : M Fl} (hi : SI K mg E wi mi) (hg : SG K mg L tg g) (hb : SS K mg E tb mb) : SS K mg E (tFor wi tg tb) (dFor mi g mb) := by
  intro pv F H σ e as held D' c w
  refine hi pv F H σ e as held _ c (WI.bindS w fun ds e1 J F1 H1 as1 s1 c1 it w1 => ?_)
  refine ⟨fun i m σ H => m = ds.length - i ∧ ∃ F e as, Same F1 F ∧ Cf K mg pv F H σ e as held ∧ WS K mg pv F held E D' (loopF g mb (ds.drop i) e), ⟨_, rfl, F1, e1, as1, Same.refl _, c1, WS.mono s1 w1⟩, ?_⟩
  rintro i m σ2 H2 ⟨rfl, F2, e2, as2, s2, c2, w2⟩
  by_cases hlt : i < ds.length
  · refine .inr ⟨it.go i F2 H2 s2 c2.s hlt, fun σ' H' => ∃ F e as, Same F1 F ∧ Cf K mg pv F H' σ' e as held ∧ WS K mg pv F held E D' (loopF g mb (ds.drop (i + 1)) e), fun σ' H' ⟨F3, e3, as3, s3, c3, w3⟩ => ⟨ds.length - (i + 1), by omega, rfl, F3, e3, as3, s3, c3, w3⟩, fun x H' y => ?_⟩
    obtain ⟨F3, d, s3, s3', gg, hd, rd⟩ := it.yld i F2 H2 x H' s2 c2.s hlt y
    have c3 : Cf K mg pv F3 H' σ2 e2 as2 held := ⟨s3', c2.r, gg _ c2.g⟩
    have e4 : ds.drop i = d :: ds.drop (i + 1) := by
      have hdd : ds[i] = d := by rw [List.getElem?_eq_getElem hlt] at hd; exact Option.some.inj hd
      rw [List.drop_eq_getElem_cons hlt, hdd]
    rw [e4] at w2
    have w2' : WS K mg pv F2 held E D' (match g d e2 with
      | none => .st
      | some e1 => (match mb e1 with
        | .ok .nx e2 => loopF g mb (ds.drop (i + 1)) e2
        | .ok .ct e2 => loopF g mb (ds.drop (i + 1)) e2
        | .ok .bk e2 => .ok .nx e2
        | .ok (.rt r) e2 => .ok (.rt r) e2
        | .ex x e2 => .ex x e2
        | .st => .st)) := w2
    cases q1 : g d e2 with
    | none => rw [q1] at w2'; exact w2'.elim
    | some e3 =>
      rw [q1] at w2'
      refine hg pv F3 H' σ2 e2 as2 held x d e3 _ c3 rd q1 fun σ4 as4 _ c4 => ?_
      refine hb pv F3 H' σ4 e3 as4 held _ c4 ?_
      simp only at w2'
      cases q2 : mb e3 with
      | st => rw [q2] at w2'; exact w2'.elim
      | ex x e5 => rw [q2] at w2'; exact WX.mono s3 w2'
      | ok f e5 =>
        rw [q2] at w2'
        cases f with
        | nx => exact fun σ5 F5 H5 as5 s5 c5 => ⟨F5, e5, as5, (s2.trans s3).trans s5, c5, WS.mono (s3.trans s5) w2'⟩
        | ct => exact fun σ5 F5 H5 as5 s5 c5 => ⟨F5, e5, as5, (s2.trans s3).trans s5, c5, WS.mono (s3.trans s5) w2'⟩
        | bk => exact fun σ5 F5 H5 as5 s5 c5 => w2' σ5 F5 H5 as5 (s3.trans s5) c5
        | rt r => exact fun v σ5 F5 H5 as5 tr5 s5 c5 rr => w2' v σ5 F5 H5 as5 tr5 (s3.trans s5) c5 rr
  · refine .inl ⟨it.stop i F2 H2 s2 c2.s (by omega), ?_⟩
    rw [List.drop_eq_nil_of_le (by omega)] at w2
    exact w2 σ2 F2 H2 as2 (Same.refl _) c2
end
end VF
set_option maxRecDepth 100000
set_option maxHeartbeats 4000000
namespace VF
set_option autoImplicit false
open PySem PySem.Spec PyProof.Rows L2
open AT (cells cellsL er ers)
section
variable {K : PySem.W.Frag} {mg : Str → Option Value} {pv : List (Nat × V)} {F F' H H' : Hp} {σ : L2.St} {e e' : Env} {as as' : List (Option AT)} {held tr ts us : List AT} {E : XS}
def wipeE : List Nat → Env → Env
  | [], e => e
  | v :: vs, e => (wipeE vs e).clr v
theorem wipeE_pn : ∀ (vs : List Nat) (e : Env), (wipeE vs e).pn = e.pn
  | [], _ => rfl
  | _ :: vs, e => wipeE_pn vs e
theorem Cf.wipe1 {v : Nat} (c : Cf K mg pv F H σ e as us) (hv : v ∉ e.pn) : Cf K mg pv F H (σ.set v none) (e.clr v) (as.set v none) us := by
  refine ⟨c.s, ⟨?_, by rw [List.length_set, List.length_set]; exact c.r.len, fun j u hj => ?_, fun p hp => ?_⟩, ?_⟩
  · show e.sl.set v none = _
    rw [List.map_set, c.r.sl]; rfl
  · by_cases q : j = v
    · subst q
      have hlt : j < as.length := by simpa using (List.getElem?_eq_some_iff.mp hj).1
      rw [List.getElem?_set_self hlt] at hj
      cases hj
    · rw [List.getElem?_set_ne (Ne.symm q)] at hj ⊢
      exact c.r.at_ j u hj
  · obtain ⟨h1, h2⟩ := c.r.pin p hp
    refine ⟨h1, ?_⟩
    have ne : v ≠ p.1 := fun q => hv (by rw [q]; exact h1)
    rw [List.getElem?_set_ne ne]
    exact h2
  · cases z : as[v]? with
    | none =>
      rw [List.set_eq_of_length_le (List.getElem?_eq_none_iff.mp z)]
      exact c.g
    | some o =>
      cases o with
      | none =>
        have hlt : v < as.length := (List.getElem?_eq_some_iff.mp z).1
        have e0 : as[v] = none := by rw [List.getElem?_eq_getElem hlt] at z; exact Option.some.inj z
        rw [← e0, List.set_getElem_self]
        exact c.g
      | some t => exact (c.take z).tail
def wipeA : List Nat → List (Option AT) → List (Option AT)
  | [], as => as
  | v :: vs, as => (wipeA vs as).set v none
theorem Cf.wipe : ∀ {vs : List Nat} {e : Env} {as : List (Option AT)}, Cf K mg pv F H σ e as us → (∀ v ∈ vs, v ∉ e.pn) → Cf K mg pv F H (wipe σ vs) (wipeE vs e) (wipeA vs as) us
  | [], _, _, c, _ => c
  | v :: vs, e, as, c, h => (Cf.wipe (vs := vs) c fun u hu => h u (List.mem_cons_of_mem _ hu)).wipe1 (by rw [wipeE_pn]; exact h v List.mem_cons_self)
theorem wipe_wipe : ∀ (vs : List Nat) (σ : L2.St), wipe (wipe σ vs) vs = wipe σ vs := by
  intro vs σ
  have key : ∀ (us ws : List Nat), (∀ v ∈ ws, v ∈ us) → wipe (wipe σ ws) us = wipe σ us := fun us ws => by
    induction ws with
    | nil => intro _; rfl
    | cons w ws ih =>
      intro h
      show wipe ((wipe σ ws).set w none) us = _
      rw [wipe_set (h w List.mem_cons_self), ih fun v hv => h v (List.mem_cons_of_mem _ hv)]
  exact key vs vs fun _ h => h
def noPn (own : List Nat) (e : Env) : Bool := own.all fun v => !e.pn.contains v
theorem noPn_ok {own : List Nat} (h : noPn own e = true) : ∀ v ∈ own, v ∉ e.pn := fun v hv q => by
  have := List.all_eq_true.mp h v hv
  rw [List.contains_iff_mem.mpr q] at this
  cases this
def restE : List Nat → Env → Env → Option Env
  | [], _, e1 => some e1
  | v :: vs, e0, e1 => if vs.contains v = true then none else if isClr e1 v = true then (match e0.sl[v]? with
    | some none => restE vs e0 e1
    | some (some (.fz d)) => restE vs e0 (e1.setS v (.fz d))
    | _ => none) else none
theorem Cf.rest {e0 : Env} : ∀ {own : List Nat} {σ : L2.St} {e1 e2 : Env} {as1 : List (Option AT)}, Cf K mg pv F H (L2.wipe σ own) e1 as1 us → (∀ (v : Nat) (d : D), v ∈ own → e0.sl[v]? = some (some (.fz d)) → ∃ u, σ[v]? = some (some u) ∧ Rep K mg F u d) → restE own e0 e1 = some e2 →
    ∃ as2, Cf K mg pv F H σ e2 as2 us
  | [], σ, e1, e2, as1, c, _, q => by
    have q' : some e1 = some e2 := q
    cases q'
    exact ⟨as1, c⟩
  | v :: vs, σ, e1, e2, as1, c, h, q => by
    unfold restE at q
    by_cases h1 : vs.contains v = true
    · rw [if_pos h1] at q; cases q
    rw [if_neg h1] at q
    have hv : v ∉ vs := fun z => h1 (List.contains_iff_mem.mpr z)
    by_cases h2 : isClr e1 v = true
    · rw [if_pos h2] at q
      have hc := isClr_ok h2
      have ha : as1[v]? = some none := by
        rw [c.r.sl, List.getElem?_map] at hc
        cases z : as1[v]? with
        | none => rw [z] at hc; cases hc
        | some o => cases o with
          | none => rfl
          | some u => rw [z] at hc; cases hc
      have weak : ∀ (j : Nat) (u : V), (L2.wipe σ (v :: vs))[j]? = some (some u) → (L2.wipe σ vs)[j]? = some (some u) := fun j u hj => by
        have hj' : ((L2.wipe σ vs).set v none)[j]? = some (some u) := hj
        by_cases z : j = v
        · subst z
          have hlt : j < ((L2.wipe σ vs).set j none).length := (List.getElem?_eq_some_iff.mp hj').1
          rw [List.getElem?_set_self (by simpa using hlt)] at hj'
          cases hj'
        · rwa [List.getElem?_set_ne (Ne.symm z)] at hj'
      have ln : (L2.wipe σ vs).length = as1.length := by
        have := c.r.len
        rw [show L2.wipe σ (v :: vs) = (L2.wipe σ vs).set v none from rfl, List.length_set] at this
        exact this
      have c1 : Cf K mg pv F H (L2.wipe σ vs) e1 as1 us := ⟨c.s, ⟨c.r.sl, ln, fun j u hj => weak j _ (c.r.at_ j u hj), fun p hp => ⟨(c.r.pin p hp).1, weak _ _ (c.r.pin p hp).2⟩⟩, c.g⟩
      cases z : e0.sl[v]? with
      | none => rw [z] at q; cases q
      | some o =>
        cases o with
        | none =>
          rw [z] at q
          exact Cf.rest c1 (fun u d hu => h u d (List.mem_cons_of_mem _ hu)) q
        | some s =>
          cases s with
          | fz d =>
            rw [z] at q
            obtain ⟨u, hu, ru⟩ := h v d List.mem_cons_self z
            have hlt : v < as1.length := (List.getElem?_eq_some_iff.mp ha).1
            have hsv : (L2.wipe σ vs)[v]? = some (some u) := by rw [wipe_out hv]; exact hu
            have c2 : Cf K mg pv F H (L2.wipe σ vs) (e1.setS v (.fz d)) (as1.set v (some (.fz u d))) us := by
              refine ⟨c1.s, ⟨?_, by rw [List.length_set]; exact ln, fun j w hj => ?_, c1.r.pin⟩, ?_⟩
              · show e1.sl.set v (some (.fz d)) = _
                rw [List.map_set, c1.r.sl]; rfl
              · by_cases zz : j = v
                · subst zz
                  rw [List.getElem?_set_self hlt] at hj
                  cases hj
                  exact hsv
                · rw [List.getElem?_set_ne (Ne.symm zz)] at hj
                  exact c1.r.at_ j w hj
              · exact (c1.g.fz ru).perm ((opts_put (.fz u d) ha).append_right us)
            exact Cf.rest c2 (fun u d hu => h u d (List.mem_cons_of_mem _ hu)) q
          | _ => rw [z] at q; cases q
    · rw [if_neg h2] at q; cases q
theorem Cf.relistH {p : Addr} {xs ys zs junk : List AT} (c : Cf K mg pv F H σ e as (.ol p xs :: us)) (pm : (xs ++ us).Perm (junk ++ (ys ++ zs))) : Cf K mg pv F (upd H p (.lst (vals ys))) σ e as (.ol p ys :: zs) := by
  have g : Good K mg F H (.ol p xs :: (opts as ++ us)) := c.g.perm (List.perm_middle (l₁ := opts as) (l₂ := us) (a := AT.ol p xs))
  have g2 : Good K mg F (upd H p (.lst (vals ys))) (.ol p ys :: (opts as ++ zs)) := g.relist (junk := junk) ((pswap _ _ _).trans ((pm.append_left _).trans ((pswap _ _ _).trans (List.Perm.append_left _ (pswap _ _ _)))))
  exact ⟨same_own c.s g.cell.2, c.r, g2.perm (List.perm_middle (l₁ := opts as) (l₂ := zs) (a := AT.ol p ys)).symm⟩
theorem atoms_snoc : ∀ {vs : List V} {ds : List D} {v : V} {d : D}, vs.length = ds.length → atoms (vs ++ [v]) (ds ++ [d]) = atoms vs ds ++ [.fz v d]
  | [], [], _, _, _ => rfl
  | v :: vs, d :: ds, _, _, h => by
    show AT.fz v d :: atoms (vs ++ _) (ds ++ _) = AT.fz v d :: (atoms vs ds ++ _)
    rw [atoms_snoc (by simpa using h)]
  | [], _ :: _, _, _, h => by cases h
  | _ :: _, [], _, _, h => by cases h
def loopC (own : List Nat) (g : Tg) (tt : M Bool) (te : M RV) : List D → List D → M (List D)
  | [], acc => fun e => .ok acc e
  | d :: ds, acc => fun e => match g d e with
    | none => .st
    | some e1 => (match tt e1 with
      | .ok true e2 => (match te e2 with
        | .ok r e3 => (match frzR r e3 with
          | some (y, e4) => if (decide (acc.length < sizeLine) && noPn own e4) = true then loopC own g tt te ds (acc ++ [y]) (wipeE own e4) else .st
          | none => .st)
        | _ => .st)
      | .ok false e2 => if noPn own e2 = true then loopC own g tt te ds acc (wipeE own e2) else .st
      | _ => .st)
def dComp (own : List Nat) (it : M (List D)) (g : Tg) (tt : M Bool) (te : M RV) : M RV := it.bind fun ds e0 => if noPn own e0 = true then (match loopC own g tt te ds [] (wipeE own e0) with
  | .ok acc e1 => (match restE own e0 e1 with
    | some e2 => .ok (.own (.ol (acc.map .fz))) e2
    | none => .st)
  | _ => .st) else .st
theorem WI.bindE {f : List D → M RV} {m : M (List D)} {Q : VK} (h : WE K mg pv F held σ Q E ((m e).bind f)) {P : It → Hp → Prop}
    (k : ∀ ds e' J F' H' as', Same F F' → Cf K mg pv F' H' σ e' as' held → ItOk K mg F' J ds → WE K mg pv F held σ Q E (f ds e') → P J H') : WI K mg pv F held σ P E (m e) := by
  cases q : m e with
  | st => rw [q] at h; exact h.elim
  | ok r e' => rw [q] at h; exact fun J F' H' as' s c it => k r e' J F' H' as' s c it h
  | ex x e' => rw [q] at h; exact h
def dYes : M Bool := fun e => .ok true e
theorem st_yes : ST K mg E tYes dYes := fun pv F H σ e as held Q c w => w F H as (Same.refl _) c
theorem se_comp {L own : List Nat} {wi : TI} {tg : TG} {tt : TT} {te : TE} {mi : M (List D)} {g : Tg} {mt : M Bool} {me : M RV} (hi : SI K mg E wi mi) (hg : SG K mg L tg g) (hL : ∀ i ∈ L, i ∈ own) (ht : ST K mg E0 tt mt) (he : SE K mg E0 te me) :
    SE K mg E (tLc wi tg tt te own) (dComp own mi g mt me) := by
  intro pv F H σ e as held Q c w
  refine hi pv F H σ e as held _ c (WI.bindE w fun ds e1 J F1 H1 as1 s1 c1 it w1 => ?_)
  intro D hD
  by_cases hp : noPn own e1 = true
  · rw [if_pos hp] at w1
    cases q : loopC own g mt me ds [] (wipeE own e1) with
    | st => rw [q] at w1; exact w1.elim
    | ex _ _ => rw [q] at w1; exact w1.elim
    | ok accF eF =>
      rw [q] at w1
      cases q2 : restE own e1 eF with
      | none => simp only [q2] at w1; exact w1.elim
      | some e2 =>
        simp only [q2] at w1
        have c0 : Cf K mg pv F1 (upd H1 D (.lst [])) σ e1 as1 (.ol D (atoms [] []) :: held) := by
          refine ⟨same_own c1.s (c1.s.free hD), c1.r, ?_⟩
          exact (Good.new (xs := []) c1.g c1.s hD).perm (List.perm_middle (l₁ := opts as1) (l₂ := held)).symm
        have cw := c0.wipe (vs := own) (noPn_ok hp)
        refine ⟨fun i m H => m = ds.length - i ∧ ∃ F e as va acc, Same F1 F ∧ Cf K mg pv F H (wipe σ own) e as (.ol D (atoms va acc) :: held) ∧ Reps K mg F va acc ∧ loopC own g mt me (ds.drop i) acc e = .ok accF eF,
          ⟨_, rfl, F1, _, _, [], [], Same.refl _, cw, trivial, q⟩, ?_⟩
        rintro i m H2 ⟨rfl, F2, e3, as3, va, acc, s2, c2, ra, q3⟩
        by_cases hlt : i < ds.length
        · refine .inr ⟨it.go i F2 H2 s2 c2.s hlt, fun H' => ∃ F e as va acc, Same F1 F ∧ Cf K mg pv F H' (wipe σ own) e as (.ol D (atoms va acc) :: held) ∧ Reps K mg F va acc ∧ loopC own g mt me (ds.drop (i + 1)) acc e = .ok accF eF,
            fun H' ⟨F, e, as, va, acc, z1, z2, z3, z4⟩ => ⟨ds.length - (i + 1), by omega, rfl, F, e, as, va, acc, z1, z2, z3, z4⟩, fun x H' y => ?_⟩
          obtain ⟨F3, d, s3, s3', gg, hd, rd⟩ := it.yld i F2 H2 x H' s2 c2.s hlt y
          have c3 : Cf K mg pv F3 H' (wipe σ own) e3 as3 (.ol D (atoms va acc) :: held) := ⟨s3', c2.r, gg _ c2.g⟩
          have e4 : ds.drop i = d :: ds.drop (i + 1) := by
            have hdd : ds[i] = d := by rw [List.getElem?_eq_getElem hlt] at hd; exact Option.some.inj hd
            rw [List.drop_eq_getElem_cons hlt, hdd]
          rw [e4] at q3
          unfold loopC at q3
          cases q4 : g d e3 with
          | none => simp only [q4] at q3; cases q3
          | some e5 =>
            simp only [q4] at q3
            refine hg pv F3 H' _ e3 as3 _ x d e5 _ c3 rd q4 fun σ4 as4 hw c4 => ?_
            refine ⟨(hw own hL).trans (wipe_wipe own σ), ?_⟩
            refine ht pv F3 H' σ4 e5 as4 _ _ c4 ?_
            cases q5 : mt e5 with
            | st => simp only [q5] at q3; cases q3
            | ex _ _ => simp only [q5] at q3; cases q3
            | ok b e6 =>
              simp only [q5] at q3
              intro F5 H5 as5 s5 c5
              have hwσ : wipe σ4 own = wipe σ own := (hw own hL).trans (wipe_wipe own σ)
              cases b with
              | false =>
                simp only at q3
                rw [if_neg (by decide)]
                by_cases hp2 : noPn own e6 = true
                · rw [if_pos hp2] at q3
                  have c6 := c5.wipe (vs := own) (noPn_ok hp2)
                  rw [hwσ] at c6
                  exact ⟨F5, _, _, va, acc, (s2.trans s3).trans s5, c6, Reps.same (s3.trans s5) ra, q3⟩
                · rw [if_neg hp2] at q3; cases q3
              | true =>
                simp only at q3
                rw [if_pos rfl]
                refine he pv F5 H5 σ4 e6 as5 _ _ c5 ?_
                cases q6 : me e6 with
                | st => simp only [q6] at q3; cases q3
                | ex _ _ => simp only [q6] at q3; cases q3
                | ok r e7 =>
                  simp only [q6] at q3
                  intro y6 F6 H6 as6 tr6 s6 c6 rr6
                  cases q7 : frzR r e7 with
                  | none => simp only [q7] at q3; cases q3
                  | some pr =>
                    obtain ⟨dy, e8⟩ := pr
                    simp only [q7] at q3
                    obtain ⟨F7, as7, s7, c7, ry⟩ := c6.frzR rr6 q7
                    have rva : Reps K mg F7 va acc := Reps.same (((s3.trans s5).trans s6).trans s7) ra
                    by_cases hp2 : (decide (acc.length < sizeLine) && noPn own e8) = true
                    · rw [if_pos hp2] at q3
                      obtain ⟨hp3, hp4⟩ := Bool.and_eq_true_iff.mp hp2
                      have hcell : H6 D = some (.lst va) := by
                        have gg : Good K mg F7 H6 (.ol D (atoms va acc) :: (opts as7 ++ held)) := c7.g.perm (List.perm_middle (l₁ := opts as7) (l₂ := held) (a := AT.ol D (atoms va acc)))
                        have := gg.cell.1
                        rwa [vals_atoms rva] at this
                      refine ⟨va, hcell, by rw [rva.length]; exact of_decide_eq_true hp3, ?_⟩
                      have rsn : Reps K mg F7 (va ++ [y6]) (acc ++ [dy]) := rva.append ⟨ry, trivial⟩
                      have c8 : Cf K mg pv F7 (upd H6 D (.lst (va ++ [y6]))) σ4 e8 as7 (.ol D (atoms (va ++ [y6]) (acc ++ [dy])) :: held) := by
                        have c8 := (c7.fzs ry).perm (List.Perm.swap (AT.ol D (atoms va acc)) (AT.fz y6 dy) held)
                        have c9 := c8.relistH (ys := atoms va acc ++ [.fz y6 dy]) (zs := held) (junk := []) (by simp)
                        rw [← atoms_snoc rva.length, vals_atoms rsn] at c9
                        exact c9
                      have c10 := c8.wipe (vs := own) (noPn_ok hp4)
                      rw [hwσ] at c10
                      exact ⟨F7, _, _, va ++ [y6], acc ++ [dy], ((((s2.trans s3).trans s5).trans s6).trans s7), c10, rsn, q3⟩
                    · rw [if_neg hp2] at q3; cases q3
        · refine .inl ⟨it.stop i F2 H2 s2 c2.s (by omega), ?_⟩
          rw [List.drop_eq_nil_of_le (by omega)] at q3
          unfold loopC at q3
          have q3' : R.ok acc e3 = R.ok accF eF := q3
          cases q3'
          obtain ⟨as4, c4⟩ := c2.rest (e0 := e1) (fun v d hv hz => by
            obtain ⟨t, ht, et⟩ := c1.r.slotOf hz
            have hσ := c1.r.at_ v t ht
            cases t with
            | fz u d' =>
              have ed : d' = d := by simpa [er] using et
              subst ed
              have ok : Rep K mg F1 u d' := Oks.mem.mp c1.g.ok _ (List.mem_append_left _ (mem_opts ht))
              exact ⟨u, hσ, Rep.same s2 ok⟩
            | ol _ _ => simp [er] at et
            | oo _ _ _ _ _ _ => simp [er] at et
            | od _ _ _ => simp [er] at et) q2
          refine w1 (.ref D) F2 H2 as4 [.ol D (atoms va accF)] (s1.trans s2) c4 ⟨_, rfl, rfl, ?_⟩
          show SV.ol (ers (atoms va accF)) = _
          rw [ers_atoms ra]
  · rw [if_neg hp] at w1; exact w1.elim
end
end VF
set_option maxRecDepth 100000
set_option maxHeartbeats 4000000
namespace VF
set_option autoImplicit false
open PySem PySem.Spec PyProof.Rows L2
open AT (cells cellsL er ers)
def fI (g : Int → Int → Int) : D → D → Option D := fun a b => match a, b with
  | .int i, .int j => some (.int (g i j))
  | _, _ => none
def fB (g : Int → Int → Bool) : D → D → Option D := fun a b => match a, b with
  | .int i, .int j => some (.bl (g i j))
  | _, _ => none
def inB (i : Int) (k : Nat) : Bool := decide (-(2 ^ k) < i ∧ i < 2 ^ k)
def fMul : D → D → Option D := fun a b => match a, b with
  | .int i, .int j => if (inB i 64 || inB j 64) = true then some (.int (i * j)) else none
  | _, _ => none
def fMod : D → D → Option D := fun a b => match a, b with
  | .int i, .int j => if 0 < j then some (.int (i % j)) else none
  | _, _ => none
def fDiv : D → D → Option D := fun a b => match a, b with
  | .int i, .int j => if 0 < j ∧ j < 1073741824 then some (.int (i / j)) else none
  | _, _ => none
def fPow : D → D → Option D := fun a b => match a, b with
  | .int i, .int j => if 0 ≤ j ∧ j ≤ 1000000 ∧ i.natAbs < 2 ^ 64 then some (.int (i ^ j.toNat)) else none
  | _, _ => none
section
variable {K : PySem.W.Frag} {mg : Str → Option Value}
theorem opd_I {g : Int → Int → Int} : OpD (rI0 fun i j => .int (g i j)) K mg (fI g) := by
  intro H x y a b d ra rb q
  cases a <;> first | (cases q; done) | (cases b <;> first | (cases q; done) | skip)
  rename_i i j
  cases q
  have e1 : x = .int i := ra
  have e2 : y = .int j := rb
  exact ⟨_, rfl, fun Q k => ⟨i, j, e1, e2, k⟩⟩
theorem opd_B {g : Int → Int → Bool} : OpD (rI0 fun i j => .bl (g i j)) K mg (fB g) := by
  intro H x y a b d ra rb q
  cases a <;> first | (cases q; done) | (cases b <;> first | (cases q; done) | skip)
  rename_i i j
  cases q
  have e1 : x = .int i := ra
  have e2 : y = .int j := rb
  exact ⟨_, rfl, fun Q k => ⟨i, j, e1, e2, k⟩⟩
theorem opd_C {C : Int → Int → Prop} {g : Int → Int → Int} {f : D → D → Option D} (h : ∀ a b d, f a b = some d → ∃ i j, a = .int i ∧ b = .int j ∧ C i j ∧ d = .int (g i j)) : OpD (rI C fun i j => .int (g i j)) K mg f := by
  intro H x y a b d ra rb q
  obtain ⟨i, j, rfl, rfl, c, rfl⟩ := h a b d q
  have e1 : x = .int i := ra
  have e2 : y = .int j := rb
  exact ⟨_, rfl, fun Q k => ⟨i, j, e1, e2, c, k⟩⟩
theorem opd_mul : OpD (rI CMul fun i j => .int (i * j)) K mg fMul := opd_C fun a b d q => by
  unfold fMul at q
  split at q
  · rename_i i j
    split at q
    · rename_i h
      cases q
      refine ⟨i, j, rfl, rfl, ?_, rfl⟩
      rcases Bool.or_eq_true_iff.mp h with h | h
      · exact .inl (of_decide_eq_true h)
      · exact .inr (of_decide_eq_true h)
    · cases q
  · cases q
theorem opd_mod : OpD (rI (fun _ j => 0 < j) fun i j => .int (i % j)) K mg fMod := opd_C fun a b d q => by
  unfold fMod at q
  split at q
  · rename_i i j
    split at q
    · rename_i h
      cases q
      exact ⟨i, j, rfl, rfl, h, rfl⟩
    · cases q
  · cases q
theorem opd_div : OpD (rI CDiv fun i j => .int (i / j)) K mg fDiv := opd_C fun a b d q => by
  unfold fDiv at q
  split at q
  · rename_i i j
    split at q
    · rename_i h
      cases q
      exact ⟨i, j, rfl, rfl, h, rfl⟩
    · cases q
  · cases q
theorem opd_pow : OpD (rI CPow fun i j => .int (i ^ j.toNat)) K mg fPow := opd_C fun a b d q => by
  unfold fPow at q
  split at q
  · rename_i i j
    split at q
    · rename_i h
      cases q
      exact ⟨i, j, rfl, rfl, h, rfl⟩
    · cases q
  · cases q
mutual
def toP : D → Option PyData
  | .non => some .none
  | .bl b => some (.bool b)
  | .int i => some (.int i)
  | .str s => some (.str s)
  | .lst ds => (toPs ds).map .list
  | .tup ds => (toPs ds).map .tuple
  | _ => none
def toPs : List D → Option (List PyData)
  | [] => some []
  | d :: ds => match toP d, toPs ds with
    | some p, some ps => some (p :: ps)
    | _, _ => none
end
mutual
theorem dp_of {H : Hp} : ∀ (d : D) {v : V} {p : PyData}, Rep K mg H v d → toP d = some p → Dp K H v p
  | .non, v, p, r, q => by
    have e : v = .non := r
    cases (show some PyData.none = some p from q); subst e; exact .non
  | .bl b, v, p, r, q => by
    have e : v = .bl b := r
    cases (show some (PyData.bool b) = some p from q); subst e; exact .bl b
  | .int i, v, p, r, q => by
    have e : v = .int i := r
    cases (show some (PyData.int i) = some p from q); subst e; exact .int i
  | .str s, v, p, r, q => by
    have e : v = .str s := r
    cases (show some (PyData.str s) = some p from q); subst e; exact .str s
  | .lst ds, v, p, ⟨a, vs, e, h1, h2⟩, q => by
    have q' : (toPs ds).map PyData.list = some p := q
    cases z : toPs ds with
    | none => rw [z] at q'; cases q'
    | some ps => rw [z] at q'; cases q'; subst e; exact .lst (SqL.of h1) (dps_of ds h2 z)
  | .tup ds, v, p, ⟨a, vs, e, h1, h2⟩, q => by
    have q' : (toPs ds).map PyData.tuple = some p := q
    cases z : toPs ds with
    | none => rw [z] at q'; cases q'
    | some ps => rw [z] at q'; cases q'; subst e; exact .tup h1 (dps_of ds h2 z)
  | .ty _, _, _, _, q => nomatch (show (none : Option PyData) = some _ from q)
  | .dct _ _, _, _, _, q => nomatch (show (none : Option PyData) = some _ from q)
  | .obj _ _ _, _, _, _, q => nomatch (show (none : Option PyData) = some _ from q)
  | .scr _, _, _, _, q => nomatch (show (none : Option PyData) = some _ from q)
theorem dps_of {H : Hp} : ∀ (ds : List D) {vs : List V} {ps : List PyData}, Reps K mg H vs ds → toPs ds = some ps → DpAll K H vs ps
  | [], [], ps, _, q => by cases (show some ([] : List PyData) = some ps from q); exact .nil
  | d :: ds, v :: vs, ps, ⟨h1, h2⟩, q => by
    have q' : (match toP d, toPs ds with | some p, some ps => some (p :: ps) | _, _ => none) = some ps := q
    cases z1 : toP d with
    | none => rw [z1] at q'; cases q'
    | some p => cases z2 : toPs ds with
      | none => rw [z1, z2] at q'; cases q'
      | some ps2 => rw [z1, z2] at q'; cases q'; exact .cons (dp_of d h1 z1) (dps_of ds h2 z2)
  | [], _ :: _, _, h, _ => h.elim
  | _ :: _, [], _, h, _ => h.elim
end
def shp (p : PyData) : Bool := p.plain && decide (p.depth ≤ 64)
theorem shp_ok {p : PyData} (h : shp p = true) : p.plain = true ∧ p.depth ≤ 64 := by
  obtain ⟨a, b⟩ := Bool.and_eq_true_iff.mp h
  exact ⟨a, of_decide_eq_true b⟩
def rEqP (K : PySem.W.Frag) : R2 := fun x y H Q => ∃ d e, Dp K H x d ∧ Dp K H y e ∧ shp d = true ∧ shp e = true ∧ Q (.bl (PyData.eqv d e)) H
def rNeP (K : PySem.W.Frag) : R2 := fun x y H Q => ∃ d e, Dp K H x d ∧ Dp K H y e ∧ shp d = true ∧ shp e = true ∧ Q (.bl (!PyData.eqv d e)) H
section
variable {X : Cx}
theorem op_eqP (hu : X.A.units + 64 < cLine) : OpR X (compareOp .Eq) (rEqP X.K) := by
  intro pins s σ H x y v u Q I rx ry h
  obtain ⟨d, e, hd, he, sd, se, q⟩ := h
  obtain ⟨as, r1⟩ := Dp.reads I d x v hd rx
  obtain ⟨bs, r2⟩ := Dp.reads I e y u he ry
  have s1 := shp_ok sd
  have s2 := shp_ok se
  exact SeqAt.eq_plain r1 r2 s1.1 s2.1 (by omega) ⟨.bl _, H, I, rfl, q⟩
theorem op_neP (hu : X.A.units + 64 < cLine) : OpR X (compareOp .NotEq) (rNeP X.K) := by
  intro pins s σ H x y v u Q I rx ry h
  obtain ⟨d, e, hd, he, sd, se, q⟩ := h
  obtain ⟨as, r1⟩ := Dp.reads I d x v hd rx
  obtain ⟨bs, r2⟩ := Dp.reads I e y u he ry
  have s1 := shp_ok sd
  have s2 := shp_ok se
  exact SeqAt.ne_plain r1 r2 s1.1 s2.1 (by omega) ⟨.bl _, H, I, rfl, q⟩
end
def eqD (a b : D) : Option Bool := match toP a, toP b with
  | some p, some q => if (shp p && shp q) = true then some (PyData.eqv p q) else none
  | _, _ => none
def fEq : D → D → Option D := fun a b => (eqD a b).map .bl
def fNe : D → D → Option D := fun a b => (eqD a b).map fun k => .bl (!k)
theorem eqD_some {a b : D} {k : Bool} (h : eqD a b = some k) : ∃ p q, toP a = some p ∧ toP b = some q ∧ shp p = true ∧ shp q = true ∧ PyData.eqv p q = k := by
  unfold eqD at h
  cases z1 : toP a with
  | none => rw [z1] at h; cases h
  | some p => cases z2 : toP b with
    | none => rw [z1, z2] at h; cases h
    | some q =>
      rw [z1, z2] at h
      simp only at h
      split at h
      · rename_i hh
        obtain ⟨h1, h2⟩ := Bool.and_eq_true_iff.mp hh
        exact ⟨p, q, rfl, rfl, h1, h2, Option.some.inj h⟩
      · cases h
theorem opd_eq : OpD (rEqP K) K mg fEq := by
  intro H x y a b d ra rb q
  unfold fEq at q
  cases z : eqD a b with
  | none => rw [z] at q; cases q
  | some k =>
    rw [z] at q; cases q
    obtain ⟨p, q, h1, h2, h3, h4, h5⟩ := eqD_some z
    exact ⟨.bl k, rfl, fun Q hk => ⟨p, q, dp_of a ra h1, dp_of b rb h2, h3, h4, by rw [h5]; exact hk⟩⟩
theorem opd_ne : OpD (rNeP K) K mg fNe := by
  intro H x y a b d ra rb q
  unfold fNe at q
  cases z : eqD a b with
  | none => rw [z] at q; cases q
  | some k =>
    rw [z] at q; cases q
    obtain ⟨p, q, h1, h2, h3, h4, h5⟩ := eqD_some z
    exact ⟨.bl (!k), rfl, fun Q hk => ⟨p, q, dp_of a ra h1, dp_of b rb h2, h3, h4, by rw [h5]; exact hk⟩⟩
def lenD : List D → Option D
  | [.lst ds] => some (.int (ds.length : Nat))
  | [.tup ds] => some (.int (ds.length : Nat))
  | [.scr ns] => some (.int (ns.length : Nat))
  | [.str z] => if z.length ≤ sizeLine then some (.int (z.length : Nat)) else none
  | _ => none
theorem cbd_len : CbD (fun xs H Q => ∃ x n, xs = [x] ∧ LenV K x H n ∧ Q (.int n) H) K mg lenD := by
  intro H xs as d r q
  match as, r with
  | [a], r =>
    obtain ⟨v, e, rv⟩ := reps1 r
    subst e
    cases a with
    | lst ds =>
      obtain ⟨p, vs, e, h1, h2⟩ := rv
      subst e
      cases q
      exact ⟨_, rfl, fun Q k => ⟨_, ds.length, rfl, .inl ⟨vs, SqL.of h1, h2.length.symm⟩, k⟩⟩
    | tup ds =>
      obtain ⟨p, vs, e, h1, h2⟩ := rv
      subst e
      cases q
      exact ⟨_, rfl, fun Q k => ⟨_, ds.length, rfl, .inr ⟨vs, h1, h2.length.symm⟩, k⟩⟩
    | scr ns =>
      obtain ⟨p, e, h1⟩ := rv
      subst e
      cases q
      exact ⟨_, rfl, fun Q k => ⟨_, ns.length, rfl, .inl ⟨_, h1, (List.length_map _).symm⟩, k⟩⟩
    | str z =>
      have e : v = .str z := rv
      subst e
      have q' : (if z.length ≤ sizeLine then some (D.int (z.length : Nat)) else none) = some d := q
      split at q'
      · rename_i h
        cases q'
        exact ⟨_, rfl, fun Q k => ⟨_, z.length, rfl, ⟨h, rfl⟩, k⟩⟩
      · cases q'
    | _ => cases q
  | [], _ => simp [lenD] at q
  | _ :: _ :: _, _ => simp [lenD] at q
def intD : List D → Option D
  | [.int i] => some (.int i)
  | [.bl b] => some (.int (if b then 1 else 0))
  | _ => none
theorem cbd_int : CbD (fun xs H Q => (∃ i, xs = [.int i] ∧ Q (.int i) H) ∨ ∃ k, xs = [.bl k] ∧ Q (.int (if k then 1 else 0)) H) K mg intD := by
  intro H xs as d r q
  match as, r with
  | [a], r =>
    obtain ⟨v, e, rv⟩ := reps1 r
    subst e
    cases a with
    | int i => cases q; exact ⟨_, rfl, fun Q k => .inl ⟨i, by rw [show v = .int i from rv], k⟩⟩
    | bl b => cases q; exact ⟨_, rfl, fun Q k => .inr ⟨b, by rw [show v = .bl b from rv], k⟩⟩
    | _ => cases q
  | [], _ => simp [intD] at q
  | _ :: _ :: _, _ => simp [intD] at q
def intsOf : List D → Option (List Int)
  | [] => some []
  | .int i :: ds => (intsOf ds).map (i :: ·)
  | _ => none
theorem intsOf_eq : ∀ {ds : List D} {ns : List Int}, intsOf ds = some ns → ds = ns.map .int
  | [], ns, h => by cases h; rfl
  | d :: ds, ns, h => by
    cases d with
    | int i =>
      have h' : (intsOf ds).map (i :: ·) = some ns := h
      cases z : intsOf ds with
      | none => rw [z] at h'; cases h'
      | some ms => rw [z] at h'; cases h'; rw [intsOf_eq z]; rfl
    | _ => cases h
theorem intsOf_map (ns : List Int) : intsOf (ns.map .int) = some ns := by
  induction ns with
  | nil => rfl
  | cons n ns ih => show (intsOf (ns.map .int)).map (n :: ·) = _; rw [ih]; rfl
def intsL : List D → Option (List Int)
  | [.lst ds] => intsOf ds
  | _ => none
theorem intsL_ok {H : Hp} {xs : List V} {as : List D} {ns : List Int} (r : Reps K mg H xs as) (q : intsL as = some ns) : ∃ a, xs = [.ref a] ∧ H a = some (.lst (ns.map V.int)) := by
  match as, r with
  | [a], r =>
    obtain ⟨v, e, rv⟩ := reps1 r
    subst e
    cases a with
    | lst ds =>
      obtain ⟨p, vs, e, h1, h2⟩ := rv
      have q' : intsOf ds = some ns := q
      rw [intsOf_eq q'] at h2
      rw [h2.ints] at h1
      exact ⟨p, by rw [e], h1⟩
    | _ => cases q
  | [], _ => simp [intsL] at q
  | _ :: _ :: _, _ => simp [intsL] at q
def sumD (as : List D) : Option D := (intsL as).map fun ns => .int ns.sum
theorem cbd_sum : CbD (rSum K) K mg sumD := by
  intro H xs as d r q
  unfold sumD at q
  cases z : intsL as with
  | none => rw [z] at q; cases q
  | some ns =>
    rw [z] at q; cases q
    obtain ⟨a, e, h⟩ := intsL_ok r z
    exact ⟨_, rfl, fun Q k => ⟨a, ns, e, SqL.of h, k⟩⟩
def tyName : D → Option String
  | .non => some "NoneType"
  | .bl _ => some "bool"
  | .int _ => some "int"
  | .str _ => some "str"
  | .lst _ => some "list"
  | .tup _ => some "tuple"
  | .dct _ _ => some "dict"
  | _ => none
def isiD : List D → Option D
  | [x, .ty n] => (match tyName x with
    | some t => (kitB t n).map .bl
    | none => none)
  | _ => none
theorem tyName_ok {H : Hp} {v : V} {d : D} {t : String} (r : Rep K mg H v d) (q : tyName d = some t) : TyX K H v (.type t) := by
  cases d with
  | non => cases q; rw [show v = .non from r]; exact .base .non
  | bl b => cases q; rw [show v = .bl b from r]; exact .base (.bl b)
  | int b => cases q; rw [show v = .int b from r]; exact .base (.int b)
  | str b => cases q; rw [show v = .str b from r]; exact .base (.str b)
  | lst ds => obtain ⟨p, vs, e, h1, h2⟩ := r; cases q; subst e; exact .base (.lst h1)
  | tup ds =>
    obtain ⟨p, vs, e, h1, h2⟩ := r; cases q; subst e
    rcases h1 with (h1 | ⟨o, h1⟩) | ⟨o, its, n, hk, hc, _⟩
    · exact .base (.tup h1)
    · exact .fTuple h1
    · exact .kTuple hk hc
  | dct ks ds => obtain ⟨p, vs, e, h1, h2⟩ := r; cases q; subst e; exact .base (.dK h1)
  | _ => cases q
theorem cbd_isi : CbD (rIsi K) K mg isiD := by
  intro H xs as d r q
  match as, r with
  | [x, .ty n], r =>
    obtain ⟨v, v', e, r1, r2⟩ := reps2 r
    subst e
    rw [show v' = .ty n from r2]
    have q' : (match tyName x with
      | some t => (kitB t n).map D.bl
      | none => none) = some d := q
    cases z : tyName x with
    | none => rw [z] at q'; cases q'
    | some t =>
      rw [z] at q'
      simp only at q'
      cases z2 : kitB t n with
      | none => rw [z2] at q'; cases q'
      | some b =>
        rw [z2] at q'; cases q'
        exact ⟨_, rfl, fun Q k => ⟨v, .ty n, .type t, .type n, b, rfl, .ty n, tyName_ok r1 z, kit_ty z2, k⟩⟩
  | [], _ => cases q
  | [_], _ => cases q
  | _ :: _ :: _ :: _, _ => simp only [isiD] at q; cases q
  | [x, .non], _ => cases q
  | [x, .bl _], _ => cases q
  | [x, .int _], _ => cases q
  | [x, .str _], _ => cases q
  | [x, .lst _], _ => cases q
  | [x, .tup _], _ => cases q
  | [x, .dct _ _], _ => cases q
  | [x, .obj _ _ _], _ => cases q
  | [x, .scr _], _ => cases q
def truD : D → Option Bool
  | .non => some false
  | .bl b => some b
  | .int i => some (i != 0)
  | .str y => if y.length ≤ sizeLine then some ((y.length : Int) != 0) else none
  | .lst ds => some !ds.isEmpty
  | .tup ds => some !ds.isEmpty
  | .dct ks _ => some !ks.isEmpty
  | _ => none
theorem isEmpty_len {α β : Type} {xs : List α} {ys : List β} (h : xs.length = ys.length) : xs.isEmpty = ys.isEmpty := by
  cases xs <;> cases ys <;> first | rfl | cases h
theorem truD_ok {H : Hp} {v : V} {d : D} {k : Bool} (r : Rep K mg H v d) (q : truD d = some k) : TruV K v H k := by
  cases d with
  | non => cases q; rw [show v = .non from r]; exact rfl
  | bl b => cases q; rw [show v = .bl _ from r]; exact rfl
  | int b => cases q; rw [show v = .int b from r]; exact rfl
  | str b =>
    rw [show v = .str b from r]
    have q' : (if b.length ≤ sizeLine then some ((b.length : Int) != 0) else none) = some k := q
    split at q'
    · rename_i h; cases q'; exact ⟨h, rfl⟩
    · cases q'
  | lst ds => obtain ⟨p, vs, e, h1, h2⟩ := r; cases q; subst e; exact .inl ⟨vs, SqL.of h1, by rw [isEmpty_len h2.length]⟩
  | tup ds => obtain ⟨p, vs, e, h1, h2⟩ := r; cases q; subst e; exact .inr (.inl ⟨vs, h1, by rw [isEmpty_len h2.length]⟩)
  | dct ks ds =>
    obtain ⟨p, vs, e, h1, h3, h2⟩ := r; cases q; subst e
    refine .inr (.inr ⟨_, h1, ?_⟩)
    rw [isEmpty_len (xs := ks.zip vs) (ys := ks) (by rw [List.length_zip]; omega)]
  | _ => cases q
end
end VF
set_option maxRecDepth 100000
set_option maxHeartbeats 4000000
namespace VF
set_option autoImplicit false
open PySem PySem.Spec PyProof.Rows L2
open AT (cells cellsL er ers)
section
variable {K : PySem.W.Frag} {mg : Str → Option Value} {E : XS}
theorem SE.imp {t t' : TE} {m : M RV} (h : SE K mg E t m) (k : ∀ σ H Q, t σ H Q → t' σ H Q) : SE K mg E t' m := fun pv F H σ e as held Q c w => k _ _ _ (h pv F H σ e as held Q c w)
def blOf : D → Option Bool
  | .bl b => some b
  | _ => none
def dChain (f g : D → D → Option D) (a b c : M RV) : M RV := a.bind fun r => b.bind fun q => fun e => match view e r, view e q with
  | some x, some y => (match (f x y).bind blOf with
    | some true => (c e).bind fun p e => (match view e q, view e p with
      | some y, some z => (match g y z with
        | some d => .ok (.fz d) e
        | none => .st)
      | _, _ => .st)
    | some false => .ok (.fz (.bl false)) e
    | none => .st)
  | _, _ => .st
theorem blOf_some {d : Option D} {k : Bool} (h : d.bind blOf = some k) : d = some (.bl k) := by
  cases d with
  | none => cases h
  | some d => cases d with
    | bl b => cases h; rfl
    | _ => cases h
theorem se_chain {r r' : R2} {f g : D → D → Option D} {ta tb tc : TE} {ma mb mc : M RV} (hr : OpD r K mg f) (hr' : OpD r' K mg g) (ha : SE K mg E ta ma) (hb : SE K mg E tb mb) (hc : SE K mg E tc mc) : SE K mg E (tChain r r' ta tb tc) (dChain f g ma mb mc) := by
  intro pv F H σ e as held Q c w
  refine ha pv F H σ e as held _ c (WE.bindE (W := WE K mg pv F held σ Q E) (fun z => z) w (fun _ _ z => z) fun r1 e1 v1 F1 H1 as1 tr1 s1 c1 rr1 w1 => ?_)
  refine hb pv F1 H1 σ e1 as1 (tr1 ++ held) _ c1 (WE.bindE (W := WE K mg pv F held σ Q E) (fun z => z) w1 (fun _ _ z => (WX.mono s1 z).drop) fun r2 e2 v2 F2 H2 as2 tr2 s2 c2 rr2 w2 => ?_)
  cases q1 : view e2 r1 with
  | none => simp only [q1] at w2; exact w2.elim
  | some x =>
    cases q2 : view e2 r2 with
    | none => simp only [q1, q2] at w2; exact w2.elim
    | some y =>
      simp only [q1, q2] at w2
      have p1 := c2.seen rr1 (fun t ht => List.mem_append_right _ (List.mem_append_left _ ht)) q1
      have p2 := c2.seen rr2 (fun t ht => List.mem_append_left _ ht) q2
      cases q3 : (f x y).bind blOf with
      | none => simp only [q3] at w2; exact w2.elim
      | some k =>
        simp only [q3] at w2
        obtain ⟨v, hv, kk⟩ := hr H2 v1 v2 x y _ p1 p2 (blOf_some q3)
        cases hv
        refine kk _ ⟨k, rfl, ?_⟩
        cases k with
        | false =>
          rw [if_neg (by decide)]
          exact w2 (.bl false) F2 H2 as2 _ (s1.trans s2) (c2.drop.drop.fz (show Rep K mg F2 (.bl false) (.bl false) from rfl)) rfl
        | true =>
          rw [if_pos rfl]
          have c2' : Cf K mg pv F2 H2 σ e2 as2 (tr2 ++ held) := (c2.perm (pswap tr2 tr1 held)).drop
          refine hc pv F2 H2 σ e2 as2 _ _ c2' (WE.bindE (W := WE K mg pv F held σ Q E) (fun z => z) w2 (fun _ _ z => (WX.mono (s1.trans s2) z).drop) fun r3 e3 v3 F3 H3 as3 tr3 s3 c3 rr3 w3 => ?_)
          cases q4 : view e3 r2 with
          | none => simp only [q4] at w3; exact w3.elim
          | some y' =>
            cases q5 : view e3 r3 with
            | none => simp only [q4, q5] at w3; exact w3.elim
            | some z =>
              simp only [q4, q5] at w3
              have p3 := c3.seen rr2 (fun t ht => List.mem_append_right _ (List.mem_append_left _ ht)) q4
              have p4 := c3.seen rr3 (fun t ht => List.mem_append_left _ ht) q5
              cases q6 : g y' z with
              | none => simp only [q6] at w3; exact w3.elim
              | some d =>
                simp only [q6] at w3
                obtain ⟨u, hu, kk2⟩ := hr' H3 v2 v3 y' z d p3 p4 q6
                exact kk2 Q (w3 u F3 H3 as3 _ ((s1.trans s2).trans s3) (c3.drop.drop.fz (rep_imm hu)) rfl)
def dIfE (t : M Bool) (a b : M RV) : M RV := t.bind fun k => match k with
  | true => a
  | false => b
def dBl (a : M RV) (k : Bool → M RV) : M RV := a.bind fun r => fun e => match (view e r).bind blOf with
  | some b => k b e
  | none => .st
theorem se_bl {ta : TE} {ma : M RV} {k : Bool → M RV} {tk : Bool → TE} (ha : SE K mg E ta ma) (hk : ∀ b, SE K mg E (tk b) (k b)) : SE K mg E (fun σ H Q => ta σ H fun x H1 => ∃ c, x = .bl c ∧ tk c σ H1 Q) (dBl ma k) := by
  intro pv F H σ e as held Q c w
  refine ha pv F H σ e as held _ c (WE.bindE (W := WE K mg pv F held σ Q E) (fun z => z) w (fun _ _ z => z) fun r1 e1 v1 F1 H1 as1 tr1 s1 c1 rr1 w1 => ?_)
  cases q : (view e1 r1).bind blOf with
  | none => simp only [q] at w1; exact w1.elim
  | some b =>
    simp only [q] at w1
    have p1 := c1.seen rr1 (fun t ht => List.mem_append_left _ ht) (blOf_some q)
    exact ⟨b, p1, hk b pv F1 H1 σ e1 as1 held Q c1.drop (WE.mono s1 w1)⟩
def dAndV (a b : M RV) : M RV := dBl a fun c => match c with
  | true => b
  | false => dC (.bl false)
def dOrV (a b : M RV) : M RV := dBl a fun c => match c with
  | true => dC (.bl true)
  | false => b
def dNotV (a : M RV) : M RV := dBl a fun c => dC (.bl (!c))
theorem se_andV {ta tb : TE} {ma mb : M RV} (ha : SE K mg E ta ma) (hb : SE K mg E tb mb) : SE K mg E (tAndV ta tb) (dAndV ma mb) := by
  refine (se_bl (tk := fun c => if c = true then tb else tC (.bl false)) ha fun b => ?_).imp fun σ H Q h => ?_
  · cases b with
    | true => rw [if_pos rfl]; exact hb
    | false => rw [if_neg (by decide)]; exact se_c
  · revert h
    have key : (fun (x : V) H1 => ∃ c, x = .bl c ∧ (if c = true then tb else tC (.bl false)) σ H1 Q) = (fun x H1 => ∃ c, x = .bl c ∧ if c = true then tb σ H1 Q else Q (.bl false) H1) := by
      funext x H1
      refine propext ⟨fun ⟨c, h1, h2⟩ => ⟨c, h1, ?_⟩, fun ⟨c, h1, h2⟩ => ⟨c, h1, ?_⟩⟩
      · cases c with
        | true => rw [if_pos rfl] at h2 ⊢; exact h2
        | false => rw [if_neg (by decide)] at h2 ⊢; exact h2
      · cases c with
        | true => rw [if_pos rfl] at h2 ⊢; exact h2
        | false => rw [if_neg (by decide)] at h2 ⊢; exact h2
    intro h
    show ta σ H (fun x H1 => ∃ c, x = .bl c ∧ if c = true then tb σ H1 Q else Q (.bl false) H1)
    rw [← key]; exact h
theorem se_notV {ta : TE} {ma : M RV} (ha : SE K mg E ta ma) : SE K mg E (tNotV ta) (dNotV ma) :=
  se_bl (tk := fun c => tC (.bl (!c))) ha fun b => se_c
def dTru (a : M RV) : M Bool := a.bind fun r => fun e => match (view e r).bind truD with
  | some b => .ok b e
  | none => .st
theorem st_tru {ta : TE} {ma : M RV} (ha : SE K mg E ta ma) : ST K mg E (fun σ H Q => ta σ H fun x H' => ∃ k, TruV K x H' k ∧ Q k H') (dTru ma) := by
  intro pv F H σ e as held Q c w
  refine ha pv F H σ e as held _ c (WE.bindE (W := WT K mg pv F held σ Q E) (fun z => z) w (fun _ _ z => z) fun r1 e1 v1 F1 H1 as1 tr1 s1 c1 rr1 w1 => ?_)
  cases q1 : view e1 r1 with
  | none => simp only [q1] at w1; exact w1.elim
  | some x =>
    simp only [q1] at w1
    have p1 := c1.seen rr1 (fun t ht => List.mem_append_left _ ht) q1
    cases q2 : truD x with
    | none => simp only [Option.bind, q2] at w1; exact w1.elim
    | some b =>
      simp only [Option.bind, q2] at w1
      exact ⟨b, truD_ok p1 q2, w1 F1 H1 as1 s1 c1.drop⟩
def NewD (r : List V → Hp → VK → Prop) (K : PySem.W.Frag) (mg : Str → Option Value) (f : List D → Option (List D)) : Prop := ∀ (F H : Hp) (xs : List V) (as ds : List D), Same F H → Reps K mg F xs as → f as = some ds →
  ∃ ys, Reps K mg F ys ds ∧ ∀ Q : VK, (∀ p, H p = none → Q (.ref p) (upd H p (.lst ys))) → r xs H Q
def dNew (f : List D → Option (List D)) (a : M (List RV)) : M RV := a.bind fun rs e => match frzRs rs e with
  | some (as, e1) => (match f as with
    | some ds => .ok (.own (.ol (ds.map .fz))) e1
    | none => .st)
  | none => .st
theorem sa_new {r : List V → Hp → VK → Prop} {f : List D → Option (List D)} {ta : TA} {ma : M (List RV)} (hr : NewD r K mg f) (ha : SA K mg E ta ma) : SE K mg E (tCB r ta) (dNew f ma) := by
  intro pv F H σ e as held Q c w
  refine ha pv F H σ e as held _ c (WA.bindA (W := WE K mg pv F held σ Q E) (fun z => z) w (fun _ _ z => z) fun rs e1 vs F1 H1 as1 tr1 s1 c1 rr1 w1 => ?_)
  cases q : frzRs rs e1 with
  | none => simp only [q] at w1; exact w1.elim
  | some pr =>
    obtain ⟨ds, e2⟩ := pr
    simp only [q] at w1
    obtain ⟨F2, as2, s2, c2, rps⟩ := c1.frzRs rr1 q
    cases q2 : f ds with
    | none => simp only [q2] at w1; exact w1.elim
    | some es =>
      simp only [q2] at w1
      obtain ⟨ys, ry, k⟩ := hr F2 H1 vs ds es c2.s rps q2
      refine k Q fun p hp => ?_
      obtain ⟨t, e1, e2', c3⟩ := c2.newL ry hp
      exact w1 (.ref p) F2 _ as2 [t] (s1.trans s2) c3 ⟨t, rfl, e1, e2'⟩
def listD : List D → Option (List D)
  | [.lst ds] => some ds
  | [.tup ds] => some ds
  | _ => none
theorem newd_list : NewD (fun xs H Q => ∃ p ys, xs = [.ref p] ∧ (SqL K H p ys ∨ SqT K H p ys) ∧ ∀ l, H l = none → Q (.ref l) (upd H l (.lst ys))) K mg listD := by
  intro F H xs as ds s r q
  match as, r with
  | [a], r =>
    obtain ⟨v, e, rv⟩ := reps1 r
    subst e
    cases a with
    | lst es =>
      obtain ⟨p, vs, e, h1, h2⟩ := rv
      cases q; subst e
      exact ⟨vs, h2, fun Q k => ⟨p, vs, rfl, .inl (SqL.of (s _ _ h1)), k⟩⟩
    | tup es =>
      obtain ⟨p, vs, e, h1, h2⟩ := rv
      cases q; subst e
      exact ⟨vs, h2, fun Q k => ⟨p, vs, rfl, .inr (SqT_same s h1), k⟩⟩
    | _ => cases q
  | [], _ => simp [listD] at q
  | _ :: _ :: _, _ => simp [listD] at q
end
section
variable {X : Cx} {E : XS} {a b c : Expr} {ma mb mc : M RV} {pos : Pos}
theorem v_var {i : Nat} {x : Str} {p : Pos} (hN : X.N[i]? = some x) (hv : Vis X.env.scope x) (hd : (x == ("__debug__" : Str)) = false := by decide) (hcd : (x == ("__classdict__" : Str)) = false := by decide) : VE X E (.Name x p) (dVar i) := .mk (pe_var hN hv hd hcd) se_var
theorem v_int {i : Int} {j} : VE X E (.Constant (.int i) j pos) (dC (.int i)) := .mk pe_int se_c
theorem v_bl {k : Bool} {j} : VE X E (.Constant (.bool k) j pos) (dC (.bl k)) := .mk pe_bl se_c
theorem v_ty {x : Str} {n : String} (hg : Gl X x) (hm : X.mg x = none) (hv : bootBuiltins x = some (.type n)) (hn : x ≠ "__name__" := by decide) (hd : (x == ("__debug__" : Str)) = false := by decide) : VE X E (.Name x pos) (dC (.ty n)) :=
  .mk (pe_bltn hg hm hv (v := .ty n) rfl hn hd) se_c
theorem v_sub (ha : VE X E a ma) (hb : VE X E b mb) : VE X E (.BinOp a .Sub b pos) (dOp (fI (· - ·)) ma mb) := .mk (pe_op op_sub ha hb) (se_op opd_I se_w se_w)
theorem v_mul (ha : VE X E a ma) (hb : VE X E b mb) : VE X E (.BinOp a .Mult b pos) (dOp fMul ma mb) := .mk (pe_op op_mul ha hb) (se_op opd_mul se_w se_w)
theorem v_mod (ha : VE X E a ma) (hb : VE X E b mb) : VE X E (.BinOp a .Mod b pos) (dOp fMod ma mb) := .mk (pe_op op_mod ha hb) (se_op opd_mod se_w se_w)
theorem v_div (ha : VE X E a ma) (hb : VE X E b mb) : VE X E (.BinOp a .FloorDiv b pos) (dOp fDiv ma mb) := .mk (pe_op op_fdiv ha hb) (se_op opd_div se_w se_w)
theorem v_pow (ha : VE X E a ma) (hb : VE X E b mb) : VE X E (.BinOp a .Pow b pos) (dOp fPow ma mb) := .mk (pe_op op_pow ha hb) (se_op opd_pow se_w se_w)
theorem v_addI (ha : VE X E a ma) (hb : VE X E b mb) : VE X E (.BinOp a .Add b pos) (dOp (fI (· + ·)) ma mb) := .mk (pe_op op_add ha hb) (se_op opd_I se_w se_w)
theorem v_eq (hu : X.A.units + 64 < cLine) (ha : VE X E a ma) (hb : VE X E b mb) : VE X E (.Compare a [.Eq] [b] pos) (dOp fEq ma mb) := .mk (pe_cmpR (op_eqP hu) ha hb (nomark _)) (se_op opd_eq se_w se_w)
theorem t_lt (ha : VE X E a ma) (hb : VE X E b mb) : VT X E (.Compare a [.Lt] [b] pos) (dT (dOp (fB fun i j => decide (i < j)) ma mb)) := .mk (pt_cmpR op_lt ha hb (nomark _)) (st_test (se_op opd_B se_w se_w))
theorem t_gt (ha : VE X E a ma) (hb : VE X E b mb) : VT X E (.Compare a [.Gt] [b] pos) (dT (dOp (fB fun i j => decide (j < i)) ma mb)) := .mk (pt_cmpR op_gt ha hb (nomark _)) (st_test (se_op opd_B se_w se_w))
theorem t_ge (ha : VE X E a ma) (hb : VE X E b mb) : VT X E (.Compare a [.GtE] [b] pos) (dT (dOp (fB fun i j => decide (j ≤ i)) ma mb)) := .mk (pt_cmpR op_ge ha hb (nomark _)) (st_test (se_op opd_B se_w se_w))
theorem t_ne (hu : X.A.units + 64 < cLine) (ha : VE X E a ma) (hb : VE X E b mb) : VT X E (.Compare a [.NotEq] [b] pos) (dT (dOp fNe ma mb)) := .mk (pt_cmpR (op_neP hu) ha hb (nomark _)) (st_test (se_op opd_ne se_w se_w))
theorem t_leLt (ha : VE X E a ma) (hb : VE X E b mb) (hc : VE X E c mc) (hm : lastMarks [.LtE, .Lt] [b, c] = false := by with_unfolding_all rfl) : VT X E (.Compare a [.LtE, .Lt] [b, c] pos) (dT (dChain (fB fun i j => decide (i ≤ j)) (fB fun i j => decide (i < j)) ma mb mc)) := .mk (pt_chain op_le op_lt ha hb hc hm) (st_test (se_chain opd_B opd_B se_w se_w se_w))
theorem t_tru (ha : VE X E a ma) (he : ∀ whole, isTrue a X.env whole = (do let v ← whole; standAt a.pos; holding [v] (truthy v)) := by intro _; rfl) : VT X E a (dTru ma) := .mk (pt_truth ha he) (st_tru se_w)
variable {es : List Expr} {ta tb : M Bool} {mr : M (List RV)} {rest : List Expr}
def VW (X : Cx) (E : XS) (e : Expr) (m : M Bool) : Prop := PW X e (wT X.K X.mg E m)
theorem VW.mk {e : Expr} {t : TT} {m : M Bool} (h : PW X e t) (s : ST X.K X.mg E t m) : VW X E e m := ⟨fun wh pins s0 σ H Q I ⟨pv, F, e0, as, held, c, w⟩ => h.run wh pins s0 σ H Q I (s pv F H σ e0 as held Q c w)⟩
theorem VW.t {e : Expr} {m : M Bool} (h : VW X E e m) : VT X E e m := PW.pt h
theorem w_or1 (ha : VT X E a ta) : VW X E (.BoolOp .Or [a] pos) ta := pw_or1 ha
theorem w_or (ha : VT X E a ta) (hb : VW X E (.BoolOp .Or (b :: rest) pos) tb) : VW X E (.BoolOp .Or (a :: b :: rest) pos) (dOr ta tb) := .mk (pw_or ha hb) (st_or st_w st_w)
theorem t_not (ha : VT X E a ta) : VT X E (.UnaryOp .Not a pos) (dNot ta) := .mk (pt_not ha) (st_not st_w)
theorem v_one {op} (h : VE X E a ma) : VE X E (.BoolOp op [a] pos) ma := pe_one h
theorem v_and (ha : VE X E a ma) (hb : VE X E (.BoolOp .And (b :: rest) pos) mb) : VE X E (.BoolOp .And (a :: b :: rest) pos) (dAndV ma mb) := .mk (pe_and ha hb) (se_andV se_w se_w)
theorem v_not (ha : VE X E a ma) : VE X E (.UnaryOp .Not a pos) (dNotV ma) := .mk (pe_not ha) (se_notV se_w)
theorem a_nil : VA X E [] dNil := .mk pa_nil sa_nil
theorem a_cons (ha : VE X E a ma) (hr : VA X E es mr) (hs : starEach (a :: es) X.env = (false, eval a X.env) :: starEach es X.env := by rfl) : VA X E (a :: es) (dCons ma mr) := .mk (pa_cons ha hr hs) (sa_cons se_w sa_w)
theorem v_lst (ha : VA X E es mr) : VE X E (.List es pos) (dLst mr) := .mk (pe_lst ha) (se_lst sa_w)
theorem v_ix (ha : VE X E a ma) (hb : VE X E b mb) (hs : PlainIx b) : VE X E (.Subscript a b pos) (dIx ma mb) := .mk (pe_ix ix_seq ha hb hs) (se_ix se_w se_w)
theorem v_len {p : Pos} {es : List Expr} {mr : M (List RV)} (hg : Gl X "len") (hm : X.mg "len" = none) (ha : VA X E (a :: es) mr) (he : starEach (a :: es) X.env = (false, eval a X.env) :: starEach es X.env := by rfl) (hpl : (backTo pos (starEach es X.env)).any (·.1) = false := by rfl) :
    VE X E (.Call (.Name "len" p) (a :: es) [] pos) (dCB lenD mr) := .mk (pe_callB call_len hg hm (by decide +kernel) ha (by decide) (by decide) he hpl) (se_cb cbd_len sa_w)
theorem v_callInt {p : Pos} {es : List Expr} {mr : M (List RV)} (hg : Gl X "int") (hm : X.mg "int" = none) (ha : VA X E (a :: es) mr) (he : starEach (a :: es) X.env = (false, eval a X.env) :: starEach es X.env := by rfl) (hpl : (backTo pos (starEach es X.env)).any (·.1) = false := by rfl) :
    VE X E (.Call (.Name "int" p) (a :: es) [] pos) (dCB intD mr) := .mk (pe_callTy call_int1 hg hm (by decide +kernel) ha (by decide) (by decide) he hpl) (se_cb cbd_int sa_w)
theorem v_sum {p : Pos} {es : List Expr} {mr : M (List RV)} (hc : X.calm = true) (hg : Gl X "sum") (hm : X.mg "sum" = none) (ha : VA X E (a :: es) mr) (he : starEach (a :: es) X.env = (false, eval a X.env) :: starEach es X.env := by rfl) (hpl : (backTo pos (starEach es X.env)).any (·.1) = false := by rfl) :
    VE X E (.Call (.Name "sum" p) (a :: es) [] pos) (dCB sumD mr) := .mk (pe_callB (cr_sum hc) hg hm (by decide +kernel) ha (by decide) (by decide) he hpl) (se_cb cbd_sum sa_w)
theorem v_isi {p : Pos} {es : List Expr} {mr : M (List RV)} (hg : Gl X "isinstance") (hm : X.mg "isinstance" = none) (ha : VA X E (a :: es) mr) (he : starEach (a :: es) X.env = (false, eval a X.env) :: starEach es X.env := by rfl) (hpl : (backTo pos (starEach es X.env)).any (·.1) = false := by rfl) :
    VE X E (.Call (.Name "isinstance" p) (a :: es) [] pos) (dCB isiD mr) := .mk (pe_callB call_isi hg hm (by decide +kernel) ha (by decide) (by decide) he hpl) (se_cb cbd_isi sa_w)
theorem v_list {p : Pos} {es : List Expr} {mr : M (List RV)} (hg : Gl X "list") (hm : X.mg "list" = none) (ha : VA X E (a :: es) mr) (he : starEach (a :: es) X.env = (false, eval a X.env) :: starEach es X.env := by rfl) (hpl : (backTo pos (starEach es X.env)).any (·.1) = false := by rfl) :
    VE X E (.Call (.Name "list" p) (a :: es) [] pos) (dNew listD mr) := .mk (pe_callTy call_list_of hg hm (by decide +kernel) ha (by decide) (by decide) he hpl) (sa_new newd_list sa_w)
theorem v_call {CX : CXT} {k : Nat} {f : Addr} {fd : FuncData} {ps : List Str} {x : Str} {p : Pos} {md : List Bool} {φ : Fn} (F : FnOk X.prog X.w X.K X.mg X.base CX k f fd ps (spF X.K X.mg md.length φ)) (hr : Room k X.A) (hg : Gl X x) (hm : X.mg x = some (.ref f)) (hk : PySem.W.keepIn X.K (.ref f) = true) (hb : Binds X.K fd ps []) (hx : ∀ σ, PassesAt CX X σ fun cls d H => E cls d σ H)
    (ha : VA X E (a :: es) mr) (hdb : (x == ("__debug__" : Str)) = false := by decide) (he : starEach (a :: es) X.env = (false, eval a X.env) :: starEach es X.env := by rfl) (hpl : (backTo pos (starEach es X.env)).any (·.1) = false := by rfl) :
    VE X E (.Call (.Name x p) (a :: es) [] pos) (dCall md φ mr) := .mk (pe_callS F hr hg hm hk hb hx ha hdb he hpl) (se_call sa_w)
theorem v_callB {CX : CXT} {k n : Nat} {f : Addr} {fd : FuncData} {ps : List Str} {x : Str} {p : Pos} {φ : Fn} (F : FnOk X.prog X.w X.K X.mg X.base CX k f fd ps (spF X.K X.mg n φ)) (hr : Room k X.A) (hg : Gl X x) (hm : X.mg x = some (.ref f)) (hk : PySem.W.keepIn X.K (.ref f) = true) (hb : Binds X.K fd ps []) (hx : ∀ σ, PassesAt CX X σ fun cls d H => E cls d σ H)
    (ha : VA X E (a :: es) mr) (hdb : (x == ("__debug__" : Str)) = false := by decide) (he : starEach (a :: es) X.env = (false, eval a X.env) :: starEach es X.env := by rfl) (hpl : (backTo pos (starEach es X.env)).any (·.1) = false := by rfl) :
    VE X E (.Call (.Name x p) (a :: es) [] pos) (dCallB n φ mr) := .mk (pe_callS F hr hg hm hk hb hx ha hdb he hpl) (se_callB sa_w)
theorem v_app {i : Nat} {x : Str} {p p1 : Pos} (hN : X.N[i]? = some x) (hv : Vis X.env.scope x) (ha : VE X E a ma) (hs : starEach [a] X.env = (false, eval a X.env) :: starEach [] X.env := by rfl) (hd : (x == ("__debug__" : Str)) = false := by decide) (hcd : (x == ("__classdict__" : Str)) = false := by decide)
    (h : ∀ {to : TE} {t : TA}, PE X (.Name x p) to → PA X [a] t → PE X (.Call (.Attribute (.Name x p) "append" p1) [a] [] pos) (tBM X.K "list" rAppend to t)) : VE X E (.Call (.Attribute (.Name x p) "append" p1) [a] [] pos) (dApp i ma) :=
  .mk (h (pe_var hN hv hd hcd) (pa_cons ha pa_nil hs)) (se_app se_w)
end
section
variable {X : Cx} {E : XS} {s : Stmt} {ss rest : List Stmt} {m m' : M Fl} {e a b c : Expr} {me ma mb : M RV} {mc : M Bool} {pos : Pos}
theorem b_nil : VB X E [] dNext := .mk pss_nil ss_next
theorem b_cons (h1 : VS X E s m) (h2 : VB X E rest m') : VB X E (s :: rest) (dSeq m m') := .mk (pss_cons h1 h2) (ss_seq ss_w ss_w)
theorem b_one (h1 : VS X E s m) : VB X E [s] m := pss_one h1
theorem s_if {x y : List Stmt} (hc : VT X E c mc) (ha : VB X E x m) (hb : VB X E y m') : VS X E (.If c x y pos) (dIf mc m m') := .mk (ps_if hc ha hb) (ss_if st_w ss_w ss_w)
theorem s_ret (he : VE X E e me) : VS X E (.Return (some e) pos) (dRet me) := .mk (ps_ret he) (ss_ret se_w)
theorem s_expr (he : VE X E e me) (hs : swapsWith e none pos.line X.env = pure false := by rfl) : VS X E (.Expr e pos) (dDrop me) := .mk (ps_expr he hs) (ss_drop se_w)
theorem s_set {i : Nat} {x : Str} {p : Pos} (hN : X.N.Nodup) (hi : X.N[i]? = some x) (hx : Loc X.env.scope x) (he : VE X E e me) (hs : swapsWith e (some (.Name x p)) pos.line X.env = pure false := by rfl) (hf : X.fn x = true ∨ X.env.scope.names.lookup x = some .local := by first | exact .inl rfl | exact .inr rfl | assumption) :
    VS X E (.Assign [.Name x p] e pos) (dSet i me) := .mk (ps_set hN hi hx he hs hf) (ss_set se_w)
theorem s_setIx {j : Nat} {x : Str} {p p1 : Pos} (hN : X.N[j]? = some x) (hv : Vis X.env.scope x) (hb : VE X E b mb) (ha : VE X E a ma)
    (hg : ∀ {to ti : TE}, PE X (.Name x p) to → PE X b ti → PG X (.Subscript (.Name x p) b p1) (gSub to ti rSetL))
    (hs : swapsWithSole [.Subscript (.Name x p) b p1] a pos.line X.env = pure false := by rfl) (hw : swappedStores [.Subscript (.Name x p) b p1] a X.env = pure none := by rfl)
    (h1 : (assignEach [.Subscript (.Name x p) b p1] X.env).map (·.2) = [assign (.Subscript (.Name x p) b p1) X.env] := by rfl) (hd : (x == ("__debug__" : Str)) = false := by decide) (hcd : (x == ("__classdict__" : Str)) = false := by decide) :
    VS X E (.Assign [.Subscript (.Name x p) b p1] a pos) (dSetIx j mb ma) := .mk (ps_asg ha (hg (pe_var hN hv hd hcd) hb) hs hw h1) (ss_setIx se_w se_w)
def VI (X : Cx) (E : XS) (tg it : Expr) (m : M (List D)) : Prop := ∃ t, PI X tg it t ∧ SI X.K X.mg E t m
def wG (K : PySem.W.Frag) (mg : Str → Option Value) (L : List Nat) (g : Tg) : TG := fun v σ H Q => ∃ pv F e as held d e', Cf K mg pv F H σ e as held ∧ Rep K mg F v d ∧ g d e = some e' ∧ ∀ σ' as', (∀ vs, (∀ i ∈ L, i ∈ vs) → wipe σ' vs = wipe σ vs) → Cf K mg pv F H σ' e' as' held → Q σ' H
theorem sg_w {K : PySem.W.Frag} {mg : Str → Option Value} {L : List Nat} {g : Tg} : SG K mg L (wG K mg L g) g := fun pv F H σ e as held v d e' Q c r q k => ⟨pv, F, e, as, held, d, e', c, r, q, k⟩
def VG (X : Cx) (L : List Nat) (tg : Expr) (g : Tg) : Prop := PG X tg (wG X.K X.mg L g)
theorem VG.mk {L : List Nat} {tg : Expr} {t : TG} {g : Tg} (h : PG X tg t) (s : SG X.K X.mg L t g) : VG X L tg g := ⟨fun pins s0 σ H v u Q I r ⟨pv, F, e, as, held, d, e', c, rp, q, k⟩ => h.run pins s0 σ H v u Q I r (s pv F H σ e as held v d e' Q c rp q k)⟩
variable {tg it : Expr} {mi : M (List D)} {g : Tg} {L : List Nat} {mr : M (List RV)} {es : List Expr}
theorem i_any (he : VE X E e me) : VI X E tg e (dIt me) := ⟨_, pi_any he, si_any se_w⟩
theorem i_rng1 {p : Pos} (hg : Gl X "range") (hm : X.mg "range" = none) (ha : VA X E [a] mr) (hs : starEach [a] X.env = [(false, eval a X.env)] := by rfl) : VI X E tg (.Call (.Name "range" p) [a] [] pos) (dRng1 mr) := ⟨_, pi_range1 hg hm ha hs, si_rng1 sa_w⟩
theorem i_rng2 {p : Pos} (hg : Gl X "range") (hm : X.mg "range" = none) (ha : VA X E [a, b] mr) (hs : starEach [a, b] X.env = [(false, eval a X.env), (false, eval b X.env)] := by rfl) (hs2 : starEach [b] X.env = [(false, eval b X.env)] := by rfl) : VI X E tg (.Call (.Name "range" p) [a, b] [] pos) (dRng2 mr) := ⟨_, pi_range2 hg hm ha hs hs2, si_rng2 sa_w⟩
theorem i_zip {p tpos : Pos} {elts : List Expr} {kk : Nat} (hg : Gl X "zip") (hm : X.mg "zip" = none) (ha : VA X E [a, b] mr)
    (h : ∀ {t : TA}, PA X [a, b] t → PI X (.Tuple elts kk tpos) (.Call (.Name "zip" p) [a, b] [] pos) (iZip X.K t)) : VI X E (.Tuple elts kk tpos) (.Call (.Name "zip" p) [a, b] [] pos) (dZip mr) := ⟨_, h ha, si_zip sa_w⟩
theorem g_name {i : Nat} {x : Str} {p : Pos} (hN : X.N.Nodup) (hi : X.N[i]? = some x) (hx : Loc X.env.scope x) (hf : X.fn x = true ∨ X.env.scope.names.lookup x = some .local := by first | exact .inl rfl | exact .inr rfl | assumption) : VG X [i] (.Name x p) (gN i) := .mk (pg_name hN hi hx hf) sg_name
def VGs (X : Cx) (L : List Nat) (tgs : List Expr) (g : Tgs) : Prop := ∃ t, PGs X tgs t ∧ SGs X.K X.mg L t g
theorem gs_nil : VGs X [] [] gNo := ⟨_, pgs_nil, sgs_nil⟩
theorem gs_cons {L' : List Nat} {h : Tgs} (h1 : VG X L e g) (h2 : VGs X L' es h) (hs : (assignEach (e :: es) X.env).map (·.2) = assign e X.env :: (assignEach es X.env).map (·.2) := by rfl) : VGs X (L ++ L') (e :: es) (gCo g h) := by
  obtain ⟨u, p', s'⟩ := h2
  exact ⟨_, pgs_cons h1 p' hs, sgs_cons sg_w s'⟩
theorem g_tup {n k : Nat} {h : Tgs} (hc : X.calm = true) (h1 : VGs X L es h) (hn : (assignEach es X.env).length = n := by rfl) (hst : (assignEach es X.env).findIdx? (·.1) = none := by rfl) : VG X L (.Tuple es k pos) (gTp n h) := by
  obtain ⟨t, p, s⟩ := h1
  exact .mk (pg_tup hc p hn hst) (sg_tup s)
theorem s_for {body : List Stmt} (hp : PassesOwn (model X.prog X.w) X.A X.env X.xe) (hc : X.calm = true) (hi : VI X E tg it mi) (hg : VG X L tg g) (hb : VB X E body m) (hs : ∀ x, foldedSetIterable it X.env x = pure x := by intro _; rfl) : VS X E (.For tg it body [] pos) (dFor mi g m) := by
  obtain ⟨t, p, s⟩ := hi
  exact .mk (ps_for hp hc p hg hb hs) (ss_for s sg_w ss_w)
def VTs (X : Cx) (E : XS) (ifs : List Expr) (m : M Bool) : Prop := PTs X ifs (wT X.K X.mg E m)
theorem VTs.mk {ifs : List Expr} {t : TT} {m : M Bool} (h : PTs X ifs t) (s : ST X.K X.mg E t m) : VTs X E ifs m := ⟨fun pins s0 σ H Q I ⟨pv, F, e0, as, held, c, w⟩ => h.run pins s0 σ H Q I (s pv F H σ e0 as held Q c w)⟩
theorem ts_nil : VTs X E [] dYes := .mk pts_nil st_yes
theorem v_comp {elt : Expr} {ifs : List Expr} {scope sc : Scope} {own : List (Str × Nat)} {mt : M Bool} (hc : X.calm = true) (hN : X.N.Nodup) (hsc : X.env.scope = sc) (ok : BlkOk X.N sc scope own) (hL : ∀ i ∈ L, i ∈ own.map (·.2)) (hi : VI X E tg it mi)
    (hg : ∀ (s : Shared) (H : Hp) (C : Addr) (cl : List (Str × Addr)) (fp : List Addr), VG (X.blk s H scope (compEnvC scope cl C X.env) fp) L tg g) (ht : ∀ (s : Shared) (H : Hp) (C : Addr) (cl : List (Str × Addr)) (fp : List Addr), VTs (X.blk s H scope (compEnvC scope cl C X.env) fp) E0 ifs mt)
    (he : ∀ (s : Shared) (H : Hp) (C : Addr) (cl : List (Str × Addr)) (fp : List Addr), VE (X.blk s H scope (compEnvC scope cl C X.env) fp) E0 elt me) (hs : ∀ x, foldedSetIterable it X.env x = pure x := by intro _; rfl) :
    VE X E (.ListComp elt [⟨tg, it, ifs, 0⟩] scope pos) (dComp (own.map (·.2)) mi g mt me) := by
  subst hsc
  obtain ⟨t, p, s⟩ := hi
  exact .mk (pe_lc (g := wG X.K X.mg L g) (tt := wT X.K X.mg E0 mt) (te := wE X.K X.mg E0 me) hc hN p ok hg ht he hs) (se_comp s sg_w hL st_w se_w)
theorem s_setComp {i : Nat} {y : Str} {py spos : Pos} {elt : Expr} {ifs : List Expr} {scope sc : Scope} {own : List (Str × Nat)} {mt : M Bool} (hc : X.calm = true) (hN : X.N.Nodup) (hy : X.N[i]? = some y) (hyl : X.env.scope.names.lookup y = some .local)
    (hsw : swapsWith (.ListComp elt [⟨tg, it, ifs, 0⟩] scope pos) (some (.Name y py)) spos.line X.env = pure true) (hsc : X.env.scope = sc) (ok : BlkOk X.N sc scope own) (hL : ∀ i ∈ L, i ∈ own.map (·.2)) (hi : VI X E tg it mi)
    (hg : ∀ (s : Shared) (H : Hp) (C : Addr) (cl : List (Str × Addr)) (fp : List Addr), VG (X.blk s H scope (compEnvC scope cl C X.env) fp) L tg g) (ht : ∀ (s : Shared) (H : Hp) (C : Addr) (cl : List (Str × Addr)) (fp : List Addr), VTs (X.blk s H scope (compEnvC scope cl C X.env) fp) E0 ifs mt)
    (he : ∀ (s : Shared) (H : Hp) (C : Addr) (cl : List (Str × Addr)) (fp : List Addr), VE (X.blk s H scope (compEnvC scope cl C X.env) fp) E0 elt me) (hs : ∀ x, foldedSetIterable it X.env x = pure x := by intro _; rfl) :
    VS X E (.Assign [.Name y py] (.ListComp elt [⟨tg, it, ifs, 0⟩] scope pos) spos) (dSet i (dComp (own.map (·.2)) mi g mt me)) := by
  subst hsc
  obtain ⟨t, p, s⟩ := hi
  exact .mk (ps_setLc (g := wG X.K X.mg L g) (tt := wT X.K X.mg E0 mt) (te := wE X.K X.mg E0 me) hc hN hy hyl hsw p ok hg ht he hs) (ss_set (se_comp s sg_w hL st_w se_w))
end
end VF
set_option maxRecDepth 100000
set_option maxHeartbeats 4000000
namespace VF
set_option autoImplicit false
open PySem PySem.Spec PyProof.Rows L2
open AT (cells cellsL er ers)
theorem u64 {k : Nat} {A : Around} (r : Room k A) : A.units + 64 < cLine := by have := r.un; omega
theorem law_sp {K : PySem.W.Frag} {mg : Str → Option Value} {φ : Fn} {ns : List Int} {H : Hp} {a : Addr} {E : XK} (h : ∃ as', φ [.fz (.scr ns)] = .ok (.fz (.bl true)) as') (hS : SqL K H a (ns.map V.int)) : spF K mg 1 φ [.ref a] H (fun v _ => v = .bl true) E := by
  obtain ⟨as', h⟩ := h
  refine ⟨H, [.fz (.ref a) (.scr ns)], [], rfl, rfl, Same.refl _, ⟨fun c hc => absurd (show c ∈ ([] : List (Addr × HO)) from hc) List.not_mem_nil, ⟨⟨a, rfl, hS⟩, trivial⟩, List.nodup_nil⟩, ?_⟩
  rw [show ers [AT.fz (.ref a) (.scr ns)] = [SV.fz (.scr ns)] from rfl, h]
  intro v F' H' t ts' s s' e1 e2 _ _ g
  cases t with
  | fz u d =>
    have e3 : d = .bl true := by simpa [er] using e2
    subst e3
    have : u = .bl true := g.unfz.2
    rw [← e1]; exact this
  | ol _ _ => simp [er] at e2
  | oo _ _ _ _ _ _ => simp [er] at e2
  | od _ _ _ => simp [er] at e2
theorem passN {X : Cx} {E : L2.St → XK} : ∀ σ, PassesAt CX0 X σ (E σ) := fun _ _ _ _ _ _ _ c => False.elim c
end VF
set_option maxRecDepth 100000
set_option maxHeartbeats 4000000
namespace VF
set_option autoImplicit false
open PySem PySem.Spec PyProof.Rows L2
open AT (cells cellsL er ers)
variable {K : PySem.W.Frag} {mg : Str → Option Value} {E : XS}
section
variable {X : Cx} {a b c : Expr} {ma mb mc : M RV} {pos : Pos}
end
end VF
set_option maxRecDepth 100000
set_option maxHeartbeats 4000000
namespace VF
set_option autoImplicit false
open PySem PySem.Spec PyProof.Rows L2
open AT (cells cellsL er ers)
section
variable {K : PySem.W.Frag} {mg : Str → Option Value} {E : XS}
end
section
variable {X : Cx} {E : XS} {a b : Expr} {ma mb : M RV} {pos : Pos} {mr : M (List RV)}
end
end VF
set_option maxRecDepth 100000
set_option maxHeartbeats 4000000
namespace VF
set_option autoImplicit false
open PySem PySem.Spec PyProof.Rows L2
open NdefX (NF NScope CellsAt startF envF ncx inv_startN)
section
variable {X : Cx} {pins : List (Addr × Obj)} {σ : L2.St} {H : Hp} {s : Shared} {a C u : Addr} {A : Around} {E : Value → Shared → Prop}
end
structure IniK (P : Program) (K : PySem.W.Frag) (mg : Str → Option Value) (C fI cc cda : Addr) (F : NF) : Prop where
  T : OexC K C
  lk : ∃ oc od dV kV doc pm an ct osl, K.lookup fI = some ⟨oc, od, .func (PySem.W.fnX F.name F.qual F.params F.body F.scope [(("__class__" : Str), cc)] dV kV doc pm an (.ref cda) ct), osl⟩
  hcd : PySem.W.codeIn K (.ref cda) F.qual = true
  code : ∃ ccl cdd vs ccs file tf, K.lookup cda = some ⟨ccl, cdd, .fields vs, ccs⟩ ∧ vs[2]? = some (.str file tf) ∧ ((P.main.file : Str) == file) = true
  cell : ∃ cl cld csl, K.lookup cc = some ⟨cl, cld, .cell (some (.ref C)), csl⟩
  isC : ∃ cd, PySem.W.clsIn K C = some cd
  sub : PySem.W.mroIn K C (.ref C) = some true
  sup : mg "super" = none
  top : (P.main.scope.names.lookup ("super" : Str)).isSome = false
  opq : PySem.W.nsIn K cStatics "thirdparty.any" = some none
  mro : PySem.W.ks_superIn K C C "__init__" = some (some (.builtin "ValueError.__init__"))
  subV : PySem.W.subIn K (.ref C) (.type "ValueError") = some true
  iC : PySem.W.findIn K (.ref C) "__init__" = some (some (.ref fI))
  tI : PySem.W.typeIn K (.ref fI) = some (.type "function")
  cl : F.cl = [(("__class__" : Str), cc)]
  c : F.c = cda
section
variable {X : Cx} {pins : List (Addr × Obj)} {σ : L2.St} {H : Hp} {s : Shared} {a C fI cc cda : Addr} {F : NF} {D : Ends} {e : Expr} {te : TE} {p0 p1 p2 pos pos' : Pos} {body : List Stmt} {ar : Arg}
end
section
variable {CX : CXT} {P : Program} {w : World} {K : PySem.W.Frag} {mg : Str → Option Value} {base : Heap} {N ps : List Str} {F : NF} {k : Nat} {sp : Sp} {C fI cc cda : Addr} {fd : FuncData} {e : Expr} {rest : List Stmt} {p0 p1 p2 pos pos' : Pos} {ar : Arg}
end
def okV (v : V) : Prop := v = .non ∨ (∃ i : Int, v = .int i ∧ i.natAbs.log2 < 1920) ∨ ∃ y : Str, v = .str y ∧ y.length ≤ 4000
def tPt (js : List Nat) : TE := fun σ H Q => (∀ j ∈ js, ∃ v, σ[j]? = some (some v) ∧ okV v) ∧ ∀ y : Str, y.length ≤ 4000 → Q (.str y) H
section
variable {X : Cx} {js : List Nat} {j : Nat} {x m : Str} {p pos : Pos} {kd : Nat}
inductive Pts (X : Cx) (js : List Nat) : List Expr → Prop
  | nil : Pts X js []
  | cons {e : Expr} {es : List Expr} (h : PE X e (tPt js)) (r : Pts X js es) : Pts X js (e :: es)
end
def spI1 (C : Addr) (f : Str) : Sp := fun vs H Q _ => ∃ (a : Addr) (y : V), vs = [.ref a, y] ∧ H a = some (exo a C none) ∧ okV y ∧ ∀ dx, H dx = none → dx ≠ a → Q .non (upd (upd H dx (exd dx [(f, y)])) a (exo a C (some dx)))
def spI2 (C : Addr) (f g : Str) : Sp := fun vs H Q _ => ∃ (a : Addr) (y z : V), vs = [.ref a, y, z] ∧ H a = some (exo a C none) ∧ okV y ∧ okV z ∧ ∀ dx, H dx = none → dx ≠ a → Q .non (upd (upd (upd H dx (exd dx [(f, y)])) a (exo a C (some dx))) dx (exd dx [(g, z), (f, y)]))
section
variable {CX : CXT} {P : Program} {w : World} {K : PySem.W.Frag} {mg : Str → Option Value} {base : Heap} {F : NF} {k : Nat} {C fI cc cda : Addr} {fd : FuncData} {e v1 v2 : Expr} {es : List Expr} {f g : Str} {p0 p1 p2 pos pos' q0 q1 q2 q3 r0 r1 r2 r3 jp : Pos} {ar : Arg}
end
end VF
set_option maxRecDepth 100000
set_option maxHeartbeats 4000000
namespace VF
set_option autoImplicit false
open PySem PySem.Spec PyProof.Rows L2
open AT (cells cellsL er ers)
section
variable {X : Cx} {K : PySem.W.Frag} {mg : Str → Option Value}
end
section
variable {X : Cx} {E : XS} {a b : Expr} {ma mb : M RV} {pos : Pos}
end
section
variable {X : Cx} {E : XS} {pos : Pos}
structure OwnX (K : PySem.W.Frag) (mg : Str → Option Value) (x : Str) (C : Addr) : Prop where
  g : mg x = some (.ref C)
  e : PySem.W.excIn K C He.veBase "ValueError.__new__" = true
  k : PySem.W.keepIn K (.ref C) = true
  s : PySem.W.subIn K (.ref C) (.type "BaseException") = some true
  t : PySem.W.typeIn K (.ref C) = some (.type "type")
def hIs (t : List (Str × Bool)) : Str → Option D := fun c => (t.lookup c).map D.bl
inductive TryT (K : PySem.W.Frag) (mg : Str → Option Value) (Cc : Value) : List (Str × Bool) → Prop
  | nil : TryT K mg Cc []
  | cons {x : Str} {b : Bool} {C : Addr} {t : List (Str × Bool)} (g : mg x = some (.ref C)) (e : ExcC K C) (k : PySem.W.kitOne K (.ref C) Cc = some b) (r : TryT K mg Cc t) : TryT K mg Cc ((x, b) :: t)
theorem TryT.at {K : PySem.W.Frag} {mg : Str → Option Value} {Cc : Value} {t : List (Str × Bool)} (T : TryT K mg Cc t) {x : Str} {v : D} {C : Addr} (h : hIs t x = some v) (g : mg x = some (.ref C)) :
    ExcC K C ∧ ∃ b, v = .bl b ∧ PySem.W.kitOne K (.ref C) Cc = some b := by
  induction T with
  | nil => cases h
  | @cons x' b C' t g' e k r ih =>
    unfold hIs at h ih
    rw [List.lookup_cons] at h
    by_cases q : (x == x') = true
    · rw [q] at h
      have q' : x = x' := eq_of_beq q
      subst q'
      have e2 : C' = C := by rw [g] at g'; cases g'; rfl
      subst e2
      cases h
      exact ⟨e, b, rfl, k⟩
    · rw [Bool.eq_false_iff.mpr q] at h
      exact ih h
end
def spI (C : Addr) : List Str → Sp
  | [f] => spI1 C f
  | [f, g] => spI2 C f g
  | _ => fun _ _ _ _ => False
structure ErrF (P : Program) (w : World) (K : PySem.W.Frag) (mg : Str → Option Value) (base : Heap) (x : Str) (C : Addr) (fs : List Str) : Prop where
  g : mg x = some (.ref C)
  T : OexC K C
  ini : ∃ fI fd, PySem.W.findIn K (.ref C) "__init__" = some (some (.ref fI)) ∧ PySem.W.typeIn K (.ref fI) = some (.type "function") ∧ Binds K fd (("self" : Str) :: fs) [] ∧ FnOk P w K mg base CX0 1 fI fd (("self" : Str) :: fs) (spI C fs)
section
variable {X : Cx} {E : XS} {pos : Pos}
end
theorem rd_x {F F' : Hp} (s : ∀ p o, F p = some o → (∀ fs, o ≠ .xd fs) → F' p = some o) {K : PySem.W.Frag} {a : Addr} {vs : List V} (h : SqT K F a vs) : SqT K F' a vs := by
  rcases h with h | h
  · rcases h with h | ⟨o, h⟩
    · exact .inl (.inl (s _ _ h fun _ z => nomatch z))
    · exact .inl (.inr ⟨o, s _ _ h fun _ z => nomatch z⟩)
  · exact .inr h
theorem rdl_x {F F' : Hp} (s : ∀ p o, F p = some o → (∀ fs, o ≠ .xd fs) → F' p = some o) {K : PySem.W.Frag} {a : Addr} {vs : List V} (h : SqL K F a vs) : SqL K F' a vs := by
  rcases h with h | h
  · rcases h with h | ⟨o, h⟩
    · exact .inl (.inl (s _ _ h fun _ z => nomatch z))
    · exact .inl (.inr ⟨o, s _ _ h fun _ z => nomatch z⟩)
  · exact .inr h
section
variable {K : PySem.W.Frag} {mg : Str → Option Value} {F F' H H' : Hp} {σ : L2.St} {pv : List (Nat × V)} {e : Env} {as : List (Option AT)} {held : List AT}
mutual
theorem rep_x (s : ∀ p o, F p = some o → (∀ fs, o ≠ .xd fs) → F' p = some o) : ∀ {d : D} {v : V}, Rep K mg F v d → Rep K mg F' v d
  | .non, _, h => h
  | .bl _, _, h => h
  | .int _, _, h => h
  | .str _, _, h => h
  | .ty _, _, h => h
  | .lst ds, _, ⟨p, vs, e, h1, h2⟩ => ⟨p, vs, e, s _ _ h1 (fun _ z => nomatch z), reps_x s h2⟩
  | .tup ds, _, ⟨p, vs, e, h1, h2⟩ => ⟨p, vs, e, rd_x s h1, reps_x s h2⟩
  | .dct ks ds, _, ⟨p, vs, e, h1, h3, h2⟩ => ⟨p, vs, e, s _ _ h1 (fun _ z => nomatch z), h3, reps_x s h2⟩
  | .obj c ns ds, _, ⟨p, C, dx, vs, e, h0, h1, h3, h2⟩ => ⟨p, C, dx, vs, e, h0, s _ _ h1 (fun _ z => nomatch z), h3, reps_x s h2⟩
  | .scr ns, _, ⟨p, e, h1⟩ => ⟨p, e, rdl_x s h1⟩
  | .hl, _, h => h
theorem reps_x (s : ∀ p o, F p = some o → (∀ fs, o ≠ .xd fs) → F' p = some o) : ∀ {ds : List D} {vs : List V}, Reps K mg F vs ds → Reps K mg F' vs ds
  | [], [], _ => trivial
  | _ :: _, _ :: _, ⟨h1, h2⟩ => ⟨rep_x s h1, reps_x s h2⟩
  | [], _ :: _, h => h.elim
  | _ :: _, [], h => h.elim
end
mutual
theorem ok_x (s : ∀ p o, F p = some o → (∀ fs, o ≠ .xd fs) → F' p = some o) : ∀ {t : AT}, Ok K mg F t → Ok K mg F' t
  | .fz _ _, h => rep_x s h
  | .ol _ xs, h => oks_x s h
  | .oo _ _ _ _ _ xs, ⟨h1, h2, h3⟩ => ⟨h1, h2, oks_x s h3⟩
  | .od _ _ xs, ⟨h2, h3⟩ => ⟨h2, oks_x s h3⟩
theorem oks_x (s : ∀ p o, F p = some o → (∀ fs, o ≠ .xd fs) → F' p = some o) : ∀ {ts : List AT}, Oks K mg F ts → Oks K mg F' ts
  | [], _ => trivial
  | _ :: _, ⟨h1, h2⟩ => ⟨ok_x s h1, oks_x s h2⟩
end
end
structure InSu (X : Cx) (a : Addr) (x : Exc) (C : Addr) : Prop where
  g : X.mg x.c = some (.ref C)
  ex : ∃ (oe : Obj) (od : Option Obj), (∀ pins σ H s, Inv X pins σ H s → PySem.W.InstAt s.heap a oe C od) ∧ ∀ f d, (x.ns.zip x.ds).lookup f = some d → ∃ (o : Obj) (u : Value) (v : V), od = some o ∧ imm d = some v ∧ RelV v u ∧ PySem.W.lookIn f o = some (some u)
def tAt (i : Nat) (a : Addr) (v : V) : TE := fun σ H Q => σ[i]? = some (some (.ref a)) ∧ Q v H
def SuE (X : Cx) (i : Nat) (e : Expr) (g : Exc → Option D) : Prop := ∀ (a : Addr) (x : Exc) (C : Addr) (pn : List (Addr × Obj)) (d : D), InSu (X.suite a pn) a x C → g x = some d → ∃ v, imm d = some v ∧ PE (X.suite a pn) e (tAt i a v)
def gSub (g h : Exc → Option D) : Exc → Option D := fun x => match g x, h x with
  | some (.int m), some (.int n) => some (.int (m - n))
  | _, _ => none
def gNil : Exc → Option (List D) := fun _ => some []
def gCons (g : Exc → Option D) (h : Exc → Option (List D)) : Exc → Option (List D) := fun x => match g x, h x with
  | some d, some ds => some (d :: ds)
  | _, _ => none
section
variable {X : Cx} {i : Nat} {pos p p1 p2 p3 : Pos} {n y f : Str} {e a b : Expr} {rest : List Expr}
inductive FldT (K : PySem.W.Frag) (mg : Str → Option Value) (f : Str) : List Str → Prop
  | nil : FldT K mg f []
  | cons {y : Str} {C : Addr} {t : List Str} (g : mg y = some (.ref C)) (xf : XfC K C) (no : PySem.W.findIn K (.ref C) f = some none) (r : FldT K mg f t) : FldT K mg f (y :: t)
theorem FldT.at {K : PySem.W.Frag} {mg : Str → Option Value} {t : List Str} (T : FldT K mg f t) {y : Str} {C : Addr} (h : y ∈ t) (g : mg y = some (.ref C)) : XfC K C ∧ PySem.W.findIn K (.ref C) f = some none := by
  induction T with
  | nil => cases h
  | @cons y' C' t g' xf no r ih =>
    rcases List.mem_cons.mp h with q | q
    · subst q
      rw [g] at g'
      cases g'
      exact ⟨xf, no⟩
    · exact ih q
inductive SuA (X : Cx) (i : Nat) : List Expr → (Exc → Option (List D)) → Prop
  | nil : SuA X i [] gNil
  | cons {e : Expr} {es : List Expr} {g : Exc → Option D} {h : Exc → Option (List D)} (he : SuE X i e g) (hs : ∀ env, starEach (e :: es) env = (false, eval e env) :: starEach es env) (r : SuA X i es h) : SuA X i (e :: es) (gCons g h)
end
section
variable {X : Cx} {pins : List (Addr × Obj)} {σ : L2.St} {H : Hp} {s : Shared}
end
section
variable {X : Cx} {E : XS}
end
end VF
set_option maxRecDepth 100000
set_option maxHeartbeats 4000000
namespace VF
set_option autoImplicit false
open PySem PySem.Spec PyProof.Rows L2
open AT (cells cellsL er ers)
section
variable {X : Cx}
end
section
variable {K : PySem.W.Frag} {mg : Str → Option Value}
end
section
variable {X : Cx} {E : XS} {a : Expr} {pos : Pos}
end
section
variable {X : Cx} {K : PySem.W.Frag} {mg : Str → Option Value}
end
section
variable {X : Cx} {E : XS} {a b : Expr} {ma mb : M RV} {pos : Pos}
end
structure FnOkG (P : Program) (w : World) (K : PySem.W.Frag) (mg : Str → Option Value) (base : Heap) (k : Nat) (f : Addr) (fd : FuncData) (ps : List Str) (sp : Sp) : Prop where
  len : ∀ vs H Q, sp vs H Q L2.E0 → vs.length = ps.length
  run : ∀ (A : Around) (outer : List PySem.Env) (s : Shared) (H : Hp) (args : Args) (us : List Value) (vs : List V) (Q : VK), Room k A → A.guards = some [] → Env0 P w K mg base A outer s H → BindsTo s fd args (ps.zip us) → Vals vs us → sp vs H Q L2.E0 →
    codeAny (model P w) A (.call (.ref f) args) (CR CX0 outer P w H s Q L2.E0) s
theorem FnOkG.mono {P : Program} {w : World} {K : PySem.W.Frag} {mg : Str → Option Value} {base : Heap} {j k : Nat} {f : Addr} {fd : FuncData} {ps : List Str} {sp : Sp} (F : FnOkG P w K mg base j f fd ps sp) (h : j ≤ k) : FnOkG P w K mg base k f fd ps sp :=
  ⟨F.len, fun A outer s H args us vs Q hr => F.run A outer s H args us vs Q (hr.mono h)⟩
section
variable {X : Cx} {k : Nat} {f : Addr} {fd : FuncData} {ps : List Str} {sp : Sp} {x : Str} {p pos : Pos} {e : Expr} {es : List Expr} {t : TA}
end
section
variable {X : Cx} {a : Expr} {pos : Pos} {es : List Expr} {mr : M (List RV)}
end
end VF
set_option maxRecDepth 100000
set_option maxHeartbeats 4000000
namespace VF
set_option autoImplicit false
open PySem PySem.Spec PyProof.Rows L2
open AT (cells cellsL er ers)
end VF
set_option maxRecDepth 100000
set_option maxHeartbeats 4000000
namespace VF
set_option autoImplicit false
open PySem PySem.Spec PyProof.Rows L2
open AT (cells cellsL er ers)
section
variable {K : PySem.W.Frag} {mg : Str → Option Value} {F : Hp} {E : XS}
end
section
variable {X : Cx} {E : XS} {a b : Expr} {pos : Pos} {mr : M (List RV)}
end
end VF
set_option maxRecDepth 100000
set_option maxHeartbeats 4000000
namespace VF
set_option autoImplicit false
open PySem PySem.Spec PyProof.Rows L2
open NdefX (NF NScope)
section
variable {P : Program} {w : World} {K : PySem.W.Frag} {mg : Str → Option Value} {base : Heap} {C : Addr} {d : IniD} {x f g : Str} {v1 v2 : Expr} {es : List Expr} {p0 p1 p2 pos pos' q0 q1 q2 q3 r0 r1 r2 r3 jp : Pos} {ar : Arg}
end
inductive CatT (K : PySem.W.Frag) (mg : Str → Option Value) (c : Value) : List Str → Prop
  | nil : CatT K mg c []
  | cons {y : Str} {C : Addr} {t : List Str} (g : mg y = some (.ref C)) (m : PySem.W.exmOne K (.ref C) c = some true) (r : CatT K mg c t) : CatT K mg c (y :: t)
theorem CatT.at {K : PySem.W.Frag} {mg : Str → Option Value} {c : Value} {t : List Str} (T : CatT K mg c t) {y : Str} {C : Addr} (h : y ∈ t) (g : mg y = some (.ref C)) : PySem.W.exmOne K (.ref C) c = some true := by
  induction T with
  | nil => cases h
  | @cons y' C' t g' m r ih =>
    rcases List.mem_cons.mp h with q | q
    · subst q
      rw [g] at g'
      cases g'
      exact m
    · exact ih q
def gOn (t : List Str) (h : Exc → Option SV) : Exc → Option SV := fun x => if x.c ∈ t then h x else none
theorem CatT.hm {K : PySem.W.Frag} {mg : Str → Option Value} {c : Value} {t : List Str} (T : CatT K mg c t) (h : Exc → Option SV) : ∀ (y : Exc) (s : SV) (C : Addr), gOn t h y = some s → mg y.c = some (.ref C) → PySem.W.exmOne K (.ref C) c = some true := fun y s C q g => by
  unfold gOn at q
  by_cases z : y.c ∈ t
  · exact T.at z g
  · rw [if_neg z] at q; cases q
end VF
set_option maxRecDepth 100000
set_option maxHeartbeats 4000000
namespace VF
set_option autoImplicit false
open PySem PySem.Spec PyProof.Rows L2
section
variable {X : Cx} {E : XS} {a b : Expr} {ma mb : M RV} {pos : Pos}
end
end VF
set_option maxRecDepth 100000
set_option maxHeartbeats 4000000
namespace VF
set_option autoImplicit false
open PySem PySem.Spec PyProof.Rows L2
open AT (cells cellsL er ers)
section
variable {K : PySem.W.Frag} {mg : Str → Option Value} {pv : List (Nat × V)} {F F' H H' : Hp} {σ : L2.St} {e e' : Env} {as as' : List (Option AT)} {held tr ts us : List AT} {E : XS}
end
section
variable {X : Cx} {E : XS} {a : Expr} {ma : M RV} {pos : Pos}
end
end VF
set_option maxRecDepth 100000
set_option maxHeartbeats 4000000
namespace VF
set_option autoImplicit false
open PySem PySem.Spec PyProof.Rows L2
open AT (cells cellsL er ers)
section
variable {K : PySem.W.Frag} {mg : Str → Option Value} {pv : List (Nat × V)} {F F' H H' : Hp} {σ : L2.St} {e e' : Env} {as as' : List (Option AT)} {held tr ts us : List AT} {E : XS}
end
section
variable {X : Cx} {CX : CXT} {k : Nat} {f C : Addr} {fd : FuncData} {ps : List Str} {sp : Sp} {x : Str} {p pos : Pos} {e : Expr} {es : List Expr} {t : TA}
end
section
variable {X : Cx} {E : XS} {a : Expr} {pos : Pos} {es : List Expr} {mr : M (List RV)}
end
end VF
set_option maxRecDepth 100000
set_option maxHeartbeats 4000000
namespace VF
set_option autoImplicit false
open PySem PySem.Spec PyProof.Rows L2
open AT (cells cellsL er ers)
section
variable {K : PySem.W.Frag} {mg : Str → Option Value} {pv : List (Nat × V)} {F F' H H' : Hp} {σ : L2.St} {e e' : Env} {as as' : List (Option AT)} {held tr ts us : List AT} {E : XS}
def rI (op : Int → Int → Int) : V → V → Hp → VK → Prop := fun x y H Q => ∃ i j, x = .int i ∧ y = .int j ∧ Q (.int (op i j)) H
end
section
variable {X : Cx} {E : XS} {a : Expr} {ma : M RV} {pos : Pos}
end
end VF
set_option maxRecDepth 100000
set_option maxHeartbeats 4000000
namespace VF
set_option autoImplicit false
open PySem PySem.Spec PyProof.Rows L2
open AT (cells cellsL er ers)
def tLen (n : Nat) (tk : TA) : TA := fun σ H Q => tk σ H fun zs H2 => zs.length = n ∧ Q zs H2
def tAppN (n k : Nat) (t tk : TA) : TA := fun σ H Q => t σ H fun vs H1 => tk σ H1 fun zs H2 => vs.length = n ∧ zs.length = k ∧ Q (vs ++ zs) H2
def tPlus (t : TA) (dvs : List V) : TA := fun σ H Q => t σ H fun vs H1 => Q (vs ++ dvs) H1
structure VKw (X : Cx) (E : XS) (kws : List Keyword) (n : Nat) (m : M (List RV)) : Prop where
  go : ∃ tk, PK X kws tk ∧ SA X.K X.mg E (tLen n tk) m
structure VAK (X : Cx) (E : XS) (es : List Expr) (kws : List Keyword) (n k : Nat) (m : M (List RV)) : Prop where
  go : ∃ t tk, L2.PA X es t ∧ PK X kws tk ∧ SA X.K X.mg E (tAppN n k t tk) m
structure VAD (X : Cx) (E : XS) (es : List Expr) (dvs : List V) (m : M (List RV)) : Prop where
  go : ∃ t, L2.PA X es t ∧ SA X.K X.mg E (tPlus t dvs) m
section
variable {X : Cx} {E : XS} {a : Expr} {es : List Expr} {kws : List Keyword} {ma : M RV} {mr : M (List RV)} {nm : Option Str} {kpos pos : Pos} {n k : Nat} {dvs : List V}
end
section
variable {X : Cx} {CX : CXT} {k n : Nat} {f : Addr} {fd : FuncData} {ps ks : List Str} {sp : Sp} {x : Str} {p pos : Pos} {e : Expr} {es : List Expr} {kws : List Keyword} {t tk : TA} {dvs : List V} {ds : List Value}
variable {E : XS} {md : List Bool} {φ : Fn} {mr : M (List RV)}
end
section
variable {K : PySem.W.Frag} {x qual : Str} {params : Arguments} {body : List Stmt} {scope : Scope} {kws : List (Str × V)} {f : Addr} {fd : FuncData} {ps ks : List Str} {n : Nat}
end
end VF
set_option maxRecDepth 100000
set_option maxHeartbeats 4000000
namespace L2
open PySem PySem.Spec PyProof.Rows
section
variable {prog : Program} {w : World} {A : Around} {R : Result → Shared → Prop} {s : Shared} {elt : Expr} {gens : List Comprehension} {g : Comprehension} {scope : Scope} {pos : Pos} {it acc : Value} {env : Env} {k : Nat}
end
structure ClR where
  wi : TI
  g : TG
  tt : TT
  vs : List Nat
inductive ClOk (B : Cx) : List Nat → List ClR → List Comprehension → Prop
  | nil {own : List Nat} : ClOk B own [] []
  | cons {own : List Nat} {c : ClR} {g : Comprehension} {cs : List ClR} {gs : List Comprehension} : PI B g.target g.iter c.wi → PG B g.target c.g → PTs B g.ifs c.tt → (∀ env x, foldedSetIterable g.iter env x = pure x) → g.is_async = 0 → (∀ i ∈ c.vs, i ∈ own) → ClOk B c.vs cs gs → ClOk B own (c :: cs) (g :: gs)
section
variable {X : Cx}
end
end L2
set_option maxRecDepth 100000
set_option maxHeartbeats 4000000
namespace VF
set_option autoImplicit false
open PySem PySem.Spec PyProof.Rows L2
open AT (cells cellsL er ers)
structure ClM where
  mi : M (List D)
  g : Tg
  mt : M Bool
  vs : List Nat
section
variable {K : PySem.W.Frag} {mg : Str → Option Value}
inductive ClV (K : PySem.W.Frag) (mg : Str → Option Value) : List Nat → List ClR → List ClM → Prop
  | nil {own : List Nat} : ClV K mg own [] []
  | cons {own L : List Nat} {c : ClR} {m : ClM} {cs : List ClR} {ms : List ClM} : SI K mg E0 c.wi m.mi → SG K mg L c.g m.g → (∀ i ∈ L, i ∈ m.vs) → ST K mg E0 c.tt m.mt → c.vs = m.vs → (∀ i ∈ m.vs, i ∈ own) → ClV K mg m.vs cs ms → ClV K mg own (c :: cs) (m :: ms)
variable {pv : List (Nat × V)} {held : List AT}
end
section
def wI (K : PySem.W.Frag) (mg : Str → Option Value) (E : XS) (m : M (List D)) : TI := fun σ H R => ∃ pv F e as held, Cf K mg pv F H σ e as held ∧ WI K mg pv F held σ R E (m e)
theorem VI.w {X : Cx} {E : XS} {tg it : Expr} {m : M (List D)} (h : VI X E tg it m) : PI X tg it (wI X.K X.mg E m) := by
  obtain ⟨t, p, s⟩ := h
  exact ⟨fun pins s0 σ H R I ⟨pv, F, e, as, held, c, w⟩ => p.run pins s0 σ H R I (s pv F H σ e as held R c w)⟩
theorem VG.more {X : Cx} {L L' : List Nat} {tg : Expr} {g : Tg} (h : VG X L tg g) (hl : ∀ i ∈ L, i ∈ L') : VG X L' tg g :=
  ⟨fun pins s0 σ H v u Q I r ⟨pv, F, e, as, held, d, e', c, rp, q, k⟩ => h.run pins s0 σ H v u Q I r ⟨pv, F, e, as, held, d, e', c, rp, q, fun σ' as' hw c' => k σ' as' (fun vs hv => hw vs fun i hi => hv i (hl i hi)) c'⟩⟩
variable {X : Cx} {E : XS}
variable {tg it : Expr} {mi : M (List D)} {g : Tg} {L : List Nat} {me : M RV} {pos : Pos}
end
end VF
set_option maxRecDepth 100000
set_option maxHeartbeats 4000000
namespace VF
set_option autoImplicit false
open PySem PySem.Spec PyProof.Rows L2
open AT (cells cellsL er ers)
def AT.kids : AT → List AT
  | .fz _ _ => []
  | .ol _ xs => xs
  | .oo _ _ _ _ _ xs => xs
  | .od _ _ xs => xs
def AT.setKid (t : AT) (k : Nat) (u : AT) : AT := match t with
  | .fz v d => .fz v d
  | .ol p xs => .ol p (xs.set k u)
  | .oo p C dx c ns xs => .oo p C dx c ns (xs.set k u)
  | .od p ks xs => .od p ks (xs.set k u)
def AT.sub : List Nat → AT → Option AT
  | [], t => some t
  | k :: p, t => match t.kids[k]? with
    | some c => AT.sub p c
    | none => none
def AT.put : List Nat → AT → AT → AT
  | [], u, _ => u
  | k :: p, u, t => match t.kids[k]? with
    | some c => t.setKid k (AT.put p u c)
    | none => t
def SV.kids : SV → List SV
  | .fz _ => []
  | .ol xs => xs
  | .oo _ _ xs => xs
  | .od _ xs => xs
def SV.setKid (t : SV) (k : Nat) (u : SV) : SV := match t with
  | .fz d => .fz d
  | .ol xs => .ol (xs.set k u)
  | .oo c ns xs => .oo c ns (xs.set k u)
  | .od ks xs => .od ks (xs.set k u)
def SV.sub : List Nat → SV → Option SV
  | [], t => some t
  | k :: p, t => match t.kids[k]? with
    | some c => SV.sub p c
    | none => none
def SV.put : List Nat → SV → SV → SV
  | [], u, _ => u
  | k :: p, u, t => match t.kids[k]? with
    | some c => t.setKid k (SV.put p u c)
    | none => t
theorem perm_at {α : Type} : ∀ {xs : List α} {k : Nat} {c : α}, xs[k]? = some c → xs.Perm (c :: xs.eraseIdx k)
  | x :: xs, 0, c, h => by
    have e : x = c := by simpa using h
    subst e; exact List.Perm.refl _
  | x :: xs, k + 1, c, h => (((perm_at (xs := xs) (k := k) (by simpa using h)).cons x).trans (List.Perm.swap _ _ _))
theorem perm_setk {α : Type} : ∀ {xs : List α} {k : Nat} {c : α} (u : α), xs[k]? = some c → (xs.set k u).Perm (u :: xs.eraseIdx k)
  | x :: xs, 0, c, u, h => List.Perm.refl _
  | x :: xs, k + 1, c, u, h => (((perm_setk (xs := xs) (k := k) u (by simpa using h)).cons x).trans (List.Perm.swap _ _ _))
theorem vals_set {xs : List AT} {k : Nat} {c u : AT} (h : xs[k]? = some c) (e : u.val = c.val) : vals (xs.set k u) = vals xs := by
  unfold vals
  rw [List.map_set]
  refine List.ext_getElem? fun i => ?_
  rw [List.getElem?_set]
  split
  · rename_i q
    subst q
    split
    · rw [List.getElem?_map, h, Option.map_some, e]
    · rename_i hl
      rw [List.getElem?_eq_none_iff.mpr (by omega)]
  · rfl
theorem setKid_val (k : Nat) (u t : AT) : (t.setKid k u).val = t.val := by cases t <;> rfl
theorem put_val : ∀ {p : List Nat} {u t s : AT}, AT.sub p t = some s → u.val = s.val → (AT.put p u t).val = t.val
  | [], u, t, s, h, e => by cases h; exact e
  | k :: p, u, t, s, h, e => by
    unfold AT.sub at h
    unfold AT.put
    cases q : t.kids[k]? with
    | none => rfl
    | some c => exact setKid_val _ _ _
theorem kid_cells {t c : AT} {k : Nat} (h : t.kids[k]? = some c) : ∃ ctx, (cells t).Perm (ctx ++ cells c) ∧ ∀ u : AT, u.val = c.val → (cells (t.setKid k u)).Perm (ctx ++ cells u) := by
  have key : ∀ (xs : List AT) (root : Addr × HO), xs[k]? = some c → (root :: cellsL xs).Perm ((root :: cellsL (xs.eraseIdx k)) ++ cells c) ∧ ∀ u : AT, (root :: cellsL (xs.set k u)).Perm ((root :: cellsL (xs.eraseIdx k)) ++ cells u) := fun xs root hx => by
    have mv : ∀ u : AT, (cellsL (u :: xs.eraseIdx k)).Perm (cellsL (xs.eraseIdx k) ++ cells u) := fun u => List.perm_append_comm
    exact ⟨((cellsL_perm (perm_at hx)).trans (mv c)).cons root, fun u => ((cellsL_perm (perm_setk u hx)).trans (mv u)).cons root⟩
  cases t with
  | fz v d => simp [AT.kids] at h
  | ol p xs =>
    obtain ⟨h1, h2⟩ := key xs (p, .lst (vals xs)) h
    refine ⟨_, h1, fun u e => ?_⟩
    show ((p, HO.lst (vals (xs.set k u))) :: cellsL (xs.set k u)).Perm _
    rw [vals_set (xs := xs) (k := k) (c := c) h e]; exact h2 u
  | oo p C dx c' ns xs =>
    obtain ⟨h1, h2⟩ := key xs (p, .ins C dx (ns.zip (vals xs))) h
    refine ⟨_, h1, fun u e => ?_⟩
    show ((p, HO.ins C dx (ns.zip (vals (xs.set k u)))) :: cellsL (xs.set k u)).Perm _
    rw [vals_set (xs := xs) (k := k) (c := c) h e]; exact h2 u
  | od p ks xs =>
    obtain ⟨h1, h2⟩ := key xs (p, .dK (ks.zip (vals xs))) h
    refine ⟨_, h1, fun u e => ?_⟩
    show ((p, HO.dK (ks.zip (vals (xs.set k u)))) :: cellsL (xs.set k u)).Perm _
    rw [vals_set (xs := xs) (k := k) (c := c) h e]; exact h2 u
theorem sub_cells : ∀ {p : List Nat} {t s : AT}, AT.sub p t = some s → ∃ ctx, (cells t).Perm (ctx ++ cells s) ∧ ∀ u : AT, u.val = s.val → (cells (AT.put p u t)).Perm (ctx ++ cells u)
  | [], t, s, h => by cases h; exact ⟨[], List.Perm.refl _, fun u _ => List.Perm.refl _⟩
  | k :: p, t, s, h => by
    unfold AT.sub at h
    cases q : t.kids[k]? with
    | none => rw [q] at h; cases h
    | some c =>
      rw [q] at h
      obtain ⟨c1, a1, a2⟩ := kid_cells q
      obtain ⟨c2, b1, b2⟩ := sub_cells (p := p) h
      refine ⟨c1 ++ c2, ?_, fun u e => ?_⟩
      · rw [List.append_assoc]; exact a1.trans (b1.append_left c1)
      · unfold AT.put
        rw [q, List.append_assoc]
        exact (a2 _ (put_val h e)).trans ((b2 u e).append_left c1)
section
variable {K : PySem.W.Frag} {mg : Str → Option Value} {pv : List (Nat × V)} {F F' H H' : Hp} {σ : L2.St} {e e' : Env} {as as' : List (Option AT)} {held tr ts us : List AT} {E : XS}
theorem kid_ok {t c : AT} {k : Nat} (h : t.kids[k]? = some c) (ok : Ok K mg F t) : Ok K mg F c ∧ ∀ u : AT, Ok K mg F u → Ok K mg F (t.setKid k u) := by
  have key : ∀ xs : List AT, xs[k]? = some c → Oks K mg F xs → Ok K mg F c ∧ ∀ u : AT, Ok K mg F u → Oks K mg F (xs.set k u) := fun xs hx ok => ⟨Oks.mem.mp ok c (List.mem_of_getElem? hx), fun u hu => Oks.mem.mpr fun t ht => by
    rcases List.mem_or_eq_of_mem_set ht with z | z
    · exact Oks.mem.mp ok t z
    · rw [z]; exact hu⟩
  cases t with
  | fz v d => simp [AT.kids] at h
  | ol p xs => exact key xs h ok
  | oo p C dx c' ns xs => exact ⟨(key xs h ok.2.2).1, fun u hu => ⟨ok.1, by rw [List.length_set]; exact ok.2.1, (key xs h ok.2.2).2 u hu⟩⟩
  | od p ks xs => exact ⟨(key xs h ok.2).1, fun u hu => ⟨by rw [List.length_set]; exact ok.1, (key xs h ok.2).2 u hu⟩⟩
theorem sub_ok : ∀ {p : List Nat} {t s : AT}, AT.sub p t = some s → Ok K mg F t → Ok K mg F s ∧ ∀ u : AT, Ok K mg F u → Ok K mg F (AT.put p u t)
  | [], t, s, h, ok => by cases h; exact ⟨ok, fun u hu => hu⟩
  | k :: p, t, s, h, ok => by
    unfold AT.sub at h
    cases q : t.kids[k]? with
    | none => rw [q] at h; cases h
    | some c =>
      rw [q] at h
      obtain ⟨a1, a2⟩ := kid_ok q ok
      obtain ⟨b1, b2⟩ := sub_ok (p := p) h a1
      refine ⟨b1, fun u hu => ?_⟩
      unfold AT.put
      rw [q]
      exact a2 _ (b2 u hu)
theorem Good.part {p : List Nat} {t s u : AT} {as bs : List AT} (g : Good K mg F H (t :: us)) (h : AT.sub p t = some s) (hv : u.val = s.val) (hc : (cells s).Perm (cells u ++ cellsL as)) (hu : Ok K mg F u) (ha : Oks K mg F as) : Good K mg F H (AT.put p u t :: (as ++ us)) := by
  obtain ⟨ctx, h1, h2⟩ := sub_cells h
  have pm : (cellsL (t :: us)).Perm (cellsL (AT.put p u t :: (as ++ us))) := by
    show (cells t ++ cellsL us).Perm (cells (AT.put p u t) ++ cellsL (as ++ us))
    rw [cellsL_append, ← List.append_assoc]
    refine List.Perm.append_right _ ?_
    refine (h1.trans (hc.append_left ctx)).trans ?_
    rw [← List.append_assoc]
    exact ((h2 u hv).symm).append_right _
  refine ⟨fun c hc => g.at_ c (pm.mem_iff.mpr hc), ⟨(sub_ok h g.ok.1).2 u hu, Oks.append.mpr ⟨ha, g.ok.2⟩⟩, ((pm.map _).nodup_iff).mp g.nd⟩
theorem Good.open_ {p : List Nat} {t s : AT} {a : Addr} (g : Good K mg F H (t :: us)) (h : AT.sub p t = some s) (hr : s.val = .ref a) : Good K mg F H (AT.put p (.fz s.val .hl) t :: s :: us) :=
  g.part (u := .fz s.val .hl) (as := [s]) (bs := []) h rfl (by show (cells s).Perm ([] ++ (cells s ++ [])); simp) ⟨a, hr⟩ ⟨(sub_ok h g.ok.1).1, trivial⟩
theorem Good.close_ {p : List Nat} {t u : AT} {v : V} {d : D} (g : Good K mg F H (t :: u :: us)) (h : AT.sub p t = some (.fz v d)) (hv : u.val = v) : Good K mg F H (AT.put p u t :: us) := by
  obtain ⟨ctx, h1, h2⟩ := sub_cells h
  have pm : (cellsL (t :: u :: us)).Perm (cellsL (AT.put p u t :: us)) := by
    show (cells t ++ (cells u ++ cellsL us)).Perm (cells (AT.put p u t) ++ cellsL us)
    rw [← List.append_assoc]
    refine List.Perm.append_right _ ?_
    refine (h1.append_right _).trans ?_
    rw [show cells (.fz v d) = [] from rfl, List.append_nil]
    exact (h2 u hv).symm
  refine ⟨fun c hc => g.at_ c (pm.mem_iff.mpr hc), ⟨(sub_ok h g.ok.1).2 u g.ok.2.1, g.ok.2.2⟩, ((pm.map _).nodup_iff).mp g.nd⟩
theorem put_at {k : Nat} {p : List Nat} {t c u : AT} (q : t.kids[k]? = some c) : AT.put (k :: p) u t = t.setKid k (AT.put p u c) := by
  show (match t.kids[k]? with | some c => t.setKid k (AT.put p u c) | none => t) = _
  rw [q]
theorem sub_at {k : Nat} {p : List Nat} {t c : AT} (q : t.kids[k]? = some c) : AT.sub (k :: p) t = AT.sub p c := by
  show (match t.kids[k]? with | some c => AT.sub p c | none => none) = _
  rw [q]
theorem set_set {k : Nat} {t u w : AT} : (t.setKid k u).setKid k w = t.setKid k w := by
  cases t with
  | fz v d => rfl
  | ol a xs => show AT.ol a ((xs.set k u).set k w) = .ol a (xs.set k w); rw [List.set_set]
  | oo a C dx c' ns xs => show AT.oo a C dx c' ns ((xs.set k u).set k w) = .oo a C dx c' ns (xs.set k w); rw [List.set_set]
  | od a ks xs => show AT.od a ks ((xs.set k u).set k w) = .od a ks (xs.set k w); rw [List.set_set]
end
end VF
set_option maxRecDepth 100000
set_option maxHeartbeats 4000000
namespace VF
set_option autoImplicit false
open PySem PySem.Spec PyProof.Rows L2
open AT (cells cellsL er ers)
section
variable (K : PySem.W.Frag) (mg : Str → Option Value)
def WEj (j : Nat) (tj : AT) (pv : List (Nat × V)) (F : Hp) (held : List AT) (σ : L2.St) (Q : VK) (E : XS) : R RV → Prop
  | .st => False
  | .ok r e' => ∀ v F' H' as' tr, Same F F' → as'[j]? = some (some tj) → Cf K mg pv F' H' σ e' as' (tr ++ held) → RR σ v r tr → Q v H'
  | .ex x e' => WX K mg pv F held E x e'
def WAj (j : Nat) (tj : AT) (pv : List (Nat × V)) (F : Hp) (held : List AT) (σ : L2.St) (Q : List V → Hp → Prop) (E : XS) : R (List RV) → Prop
  | .st => False
  | .ok rs e' => ∀ vs F' H' as' tr, Same F F' → as'[j]? = some (some tj) → Cf K mg pv F' H' σ e' as' (tr ++ held) → RRs σ vs rs tr → Q vs H'
  | .ex x e' => WX K mg pv F held E x e'
def SEj (j : Nat) (E : XS) (t : TE) (m : M RV) : Prop := ∀ pv F H σ e as held tj Q, as[j]? = some (some tj) → Cf K mg pv F H σ e as held → WEj K mg j tj pv F held σ Q E (m e) → t σ H Q
def SAj (j : Nat) (E : XS) (t : TA) (m : M (List RV)) : Prop := ∀ pv F H σ e as held tj Q, as[j]? = some (some tj) → Cf K mg pv F H σ e as held → WAj K mg j tj pv F held σ Q E (m e) → t σ H Q
end
theorem bind_ok29 {α β : Type} (a : α) (e : VF.Env) (f : α → M β) : (R.ok a e).bind f = f a e := rfl
section
variable {K : PySem.W.Frag} {mg : Str → Option Value} {pv : List (Nat × V)} {F F' H H' : Hp} {σ : L2.St} {e e' : Env} {as as' : List (Option AT)} {held tr ts us : List AT} {E : XS}
theorem Cf.fill {j : Nat} {t : AT} (c : Cf K mg pv F H σ e as (t :: held)) (hc : isClr e j = true) (hv : σ[j]? = some (some t.val)) : Cf K mg pv F H σ (e.setS j (er t)) (as.set j (some t)) held ∧ (as.set j (some t))[j]? = some (some t) := by
  have hi := isClr_ok hc
  have hai : as[j]? = some none := by
    rw [c.r.sl, List.getElem?_map] at hi
    cases z : as[j]? with
    | none => rw [z] at hi; cases hi
    | some o => cases o with
      | none => rfl
      | some u => rw [z] at hi; cases hi
  have hlt : j < as.length := (List.getElem?_eq_some_iff.mp hai).1
  refine ⟨⟨c.s, ⟨?_, by rw [List.length_set]; exact c.r.len, fun i u hj => ?_, c.r.pin⟩, ?_⟩, by simp [hlt]⟩
  · show e.sl.set j (some (er t)) = _
    rw [List.map_set, c.r.sl]; rfl
  · by_cases z : i = j
    · subst z
      rw [List.getElem?_set_self hlt] at hj
      cases hj
      exact hv
    · rw [List.getElem?_set_ne (Ne.symm z)] at hj
      exact c.r.at_ i u hj
  · have g : Good K mg F H (t :: (opts as ++ held)) := c.g.perm (List.perm_middle (l₁ := opts as) (l₂ := held) (a := t))
    exact g.perm ((opts_put t hai).append_right held)
end
end VF
set_option maxRecDepth 100000
set_option maxHeartbeats 4000000
namespace VF
set_option autoImplicit false
open PySem PySem.Spec PyProof.Rows L2
open AT (cells cellsL er ers)
section
variable {K : PySem.W.Frag} {mg : Str → Option Value} {pv : List (Nat × V)} {F F' H H' : Hp} {σ : L2.St} {e e' : Env} {as as' : List (Option AT)} {held tr ts us : List AT} {E : XS}
end
section
variable {K : PySem.W.Frag} {mg : Str → Option Value} {F H : Hp} {σ : L2.St} {us : List AT}
end
end VF
set_option maxRecDepth 100000
set_option maxHeartbeats 4000000
namespace VF
set_option autoImplicit false
open PySem PySem.Spec PyProof.Rows L2
open AT (cells cellsL er ers)
section
variable {K : PySem.W.Frag} {mg : Str → Option Value} {pv : List (Nat × V)} {F F' H H' : Hp} {σ : L2.St} {e e' : Env} {as as' : List (Option AT)} {held tr ts us : List AT} {E : XS}
end
end VF
set_option maxRecDepth 100000
set_option maxHeartbeats 4000000
namespace VF
set_option autoImplicit false
open PySem PySem.Spec PyProof.Rows L2
open AT (cells cellsL er ers)
structure VEj (X : Cx) (j : Nat) (E : XS) (e : Expr) (m : M RV) : Prop where
  go : ∃ t, PE X e t ∧ SEj X.K X.mg j E t m
structure VAj (X : Cx) (j : Nat) (E : XS) (es : List Expr) (m : M (List RV)) : Prop where
  go : ∃ t, L2.PA X es t ∧ SAj X.K X.mg j E t m
section
variable {X : Cx} {E : XS} {a : Expr} {es : List Expr} {ma : M RV} {mr : M (List RV)} {pos : Pos} {j : Nat}
variable {CX : CXT} {k : Nat} {f : Addr} {fd : FuncData} {ps : List Str} {x y : Str} {p p1 p2 : Pos} {md : List Bool} {φ : Fn} {φL : SV → Option D}
end
end VF
set_option maxRecDepth 100000
set_option maxHeartbeats 4000000
namespace VF
set_option autoImplicit false
open PySem PySem.Spec PyProof.Rows L2
open AT (cells cellsL er ers)
def dFzE (a : M RV) : M RV := a.bind fun r e => match frzR r e with
  | some (d, e1) => .ok (.fz d) e1
  | none => .st
section
variable {K : PySem.W.Frag} {mg : Str → Option Value} {E : XS}
theorem se_fzE {t : TE} {m : M RV} (h : SE K mg E t m) : SE K mg E t (dFzE m) := by
  intro pv F H σ e as held Q c w
  refine h pv F H σ e as held Q c ?_
  have w' : WE K mg pv F held σ Q E ((m e).bind fun r e => match frzR r e with
    | some (d, e1) => .ok (.fz d) e1
    | none => .st) := w
  cases q : m e with
  | st => rw [q] at w'; exact w'.elim
  | ex x e1 => rw [q] at w'; exact w'
  | ok r e1 =>
    rw [q, bind_ok29] at w'
    intro v F1 H1 as1 tr s1 c1 rr
    cases q2 : frzR r e1 with
    | none => simp only [q2] at w'; exact w'.elim
    | some p =>
      obtain ⟨d, e2⟩ := p
      simp only [q2] at w'
      obtain ⟨F2, as2, s2, c2, rp⟩ := c1.frzR rr q2
      exact w' v F2 H1 as2 _ (s1.trans s2) (c2.fz rp) rfl
end
theorem v_fzE {X : Cx} {E : XS} {a : Expr} {m : M RV} (h : VE X E a m) : VE X E a (dFzE m) := .mk h (se_fzE se_w)
end VF
set_option maxRecDepth 100000
set_option maxHeartbeats 4000000
namespace VF
set_option autoImplicit false
open PySem PySem.Spec PyProof.Rows L2
open AT (cells cellsL er ers)
abbrev Key := L2.Key
def kIx (k : Key) (ks : List Key) : Option Nat := ks.findIdx? fun n => decide (n = k)
theorem valV_idx {k : Key} : ∀ {ks : List Key} {vs : List V} {i : Nat} {v : V}, kIx k ks = some i → vs[i]? = some v → valV (ks.zip vs) k = some v
  | [], _, _, _, h, _ => by simp [kIx] at h
  | n :: ns, [], i, v, _, hx => by simp at hx
  | n :: ns, y :: vs, i, v, h, hx => by
    unfold kIx at h
    rw [List.findIdx?_cons] at h
    rw [List.zip_cons_cons]
    by_cases c : n = k
    · rw [decide_eq_true c] at h
      simp only [if_true, Option.some.injEq] at h
      subst h
      rw [valV_pos (p := (n, y)) c]
      simpa using hx
    · rw [decide_eq_false c] at h
      simp only [Bool.false_eq_true, if_false] at h
      rw [valV_neg (p := (n, y)) c]
      cases q : ns.findIdx? (fun n => decide (n = k)) with
      | none => rw [q] at h; cases h
      | some j =>
        rw [q] at h
        have : j + 1 = i := by simpa using h
        subst this
        exact valV_idx (i := j) q (by simpa using hx)
def getKD (k : Key) : D → Option D
  | .dct ks xs => (match kIx k ks with
    | some j => xs[j]?
    | none => none)
  | _ => none
def getKS (k : Key) : SV → Option D
  | .fz d => getKD k d
  | .od ks xs => (match kIx k ks with
    | some j => (match xs[j]? with
      | some (.fz d) => some d
      | _ => none)
    | none => none)
  | _ => none
def getKR (k : Key) (e : Env) : RV → Option D
  | .fz d => getKD k d
  | .own s => getKS k s
  | .var j => match e.sl[j]? with
    | some (some s) => getKS k s
    | _ => none
section
variable {K : PySem.W.Frag} {mg : Str → Option Value} {pv : List (Nat × V)} {F F' H H' : Hp} {σ : L2.St} {e e' : Env} {as as' : List (Option AT)} {held tr ts us : List AT} {E : XS}
theorem reps_at : ∀ {vs : List V} {ds : List D} {i : Nat} {d : D}, Reps K mg F vs ds → ds[i]? = some d → ∃ v, vs[i]? = some v ∧ Rep K mg F v d
  | v :: vs, d :: ds, 0, x, ⟨h1, _⟩, q => by
    have : d = x := by simpa using q
    subst this
    exact ⟨v, rfl, h1⟩
  | v :: vs, d :: ds, i + 1, x, ⟨_, h2⟩, q => reps_at (i := i) h2 (by simpa using q)
  | [], [], _, _, _, q => by simp at q
  | [], _ :: _, _, _, h, _ => h.elim
  | _ :: _, [], _, _, h, _ => h.elim
theorem getK_data {k : Key} {v : V} {d x : D} (s : Same F H) (h : Rep K mg F v d) (q : getKD k d = some x) : ∃ a y, v = .ref a ∧ Rep K mg F y x ∧ DGet H a (kV k) (some y) := by
  cases d with
  | dct ks ds =>
    obtain ⟨p, vs, e, h1, h3, h2⟩ := h
    subst e
    unfold getKD at q
    cases z : kIx k ks with
    | none => simp only [z] at q; cases q
    | some j =>
      simp only [z] at q
      obtain ⟨y, hy, ry⟩ := reps_at h2 q
      refine ⟨p, y, rfl, ry, ?_⟩
      have := DGet.k (k := k) (s _ _ h1)
      rwa [valV_idx z hy] at this
  | _ => cases q
theorem getK_tree {k : Key} {t : AT} {x : D} (g : Good K mg F H us) (hm : t ∈ us) (s : Same F H) (q : getKS k (er t) = some x) : ∃ a y, t.val = .ref a ∧ Rep K mg F y x ∧ DGet H a (kV k) (some y) := by
  have ok := Oks.mem.mp g.ok t hm
  cases t with
  | fz v d => exact getK_data s ok q
  | od p ks xs =>
    have hp : H p = some (.dK (ks.zip (vals xs))) := (g.at_ (p, .dK (ks.zip (vals xs))) (by rw [cellsL_eq]; exact List.mem_flatMap.mpr ⟨_, hm, List.mem_cons_self⟩)).1
    obtain ⟨o1, o2⟩ := (show ks.length = xs.length ∧ Oks K mg F xs from ok)
    have q' : (match kIx k ks with | some j => (match (ers xs)[j]? with | some (.fz d) => some d | _ => none) | none => none) = some x := q
    cases z : kIx k ks with
    | none => simp only [z] at q'; cases q'
    | some j =>
      simp only [z] at q'
      rw [ers_eq, List.getElem?_map] at q'
      cases z2 : xs[j]? with
      | none => rw [z2] at q'; cases q'
      | some u =>
        rw [z2] at q'
        cases u with
        | fz v d =>
          have ed : d = x := by simpa [er] using q'
          subst ed
          refine ⟨p, v, rfl, Oks.mem.mp o2 _ (List.mem_of_getElem? z2), ?_⟩
          have := DGet.k (k := k) hp
          rwa [valV_idx z (v := v) (by show (xs.map AT.val)[j]? = _; rw [List.getElem?_map, z2]; rfl)] at this
        | ol _ _ => simp [er] at q'
        | oo _ _ _ _ _ _ => simp [er] at q'
        | od _ _ _ => simp [er] at q'
  | ol _ _ => cases q
  | oo _ _ _ _ _ _ => cases q
theorem Cf.getK {k : Key} {v : V} {r : RV} {x : D} (c : Cf K mg pv F H σ e as held) (h : RR σ v r tr) (hm : ∀ t ∈ tr, t ∈ held) (q : getKR k e r = some x) : ∃ a y, v = .ref a ∧ Rep K mg F y x ∧ DGet H a (kV k) (some y) := by
  cases r with
  | fz d =>
    have e1 : tr = [.fz v d] := h
    subst e1
    exact getK_tree (t := .fz v d) c.g (List.mem_append_right _ (hm _ List.mem_cons_self)) c.s q
  | own s =>
    obtain ⟨t, e1, e2, e3⟩ := h
    subst e1 e2 e3
    exact getK_tree c.g (List.mem_append_right _ (hm _ List.mem_cons_self)) c.s q
  | var j =>
    obtain ⟨_, hv⟩ := h
    have q' : (match e.sl[j]? with | some (some s) => getKS k s | _ => none) = some x := q
    cases z : e.sl[j]? with
    | none => rw [z] at q'; cases q'
    | some o =>
      cases o with
      | none => rw [z] at q'; cases q'
      | some s =>
        rw [z] at q'
        obtain ⟨t, ht, e5⟩ := c.r.slotOf z
        have hv2 := c.r.at_ j t ht
        rw [hv] at hv2
        have e6 : v = t.val := by simpa using hv2
        subst e5 e6
        exact getK_tree c.g (List.mem_append_left _ (mem_opts ht)) c.s q'
def tPs : List Key → List TE → List (TE × TE)
  | k :: ks, t :: ts => (tC (kV k), t) :: tPs ks ts
  | _, _ => []
def SPs (K : PySem.W.Frag) (mg : Str → Option Value) (E : XS) (ks : List Key) (ts : List TE) (m : M (List RV)) : Prop := ∀ pv F H σ e as held (Q : List (V × V) → Hp → Prop), Cf K mg pv F H σ e as held → WA K mg pv F held σ (fun vs H => vs.length = ks.length → Q ((ks.map kV).zip vs) H) E (m e) → tPairs (tPs ks ts) σ H Q
end
end VF
set_option maxRecDepth 100000
set_option maxHeartbeats 4000000
namespace VF
set_option autoImplicit false
open PySem PySem.Spec PyProof.Rows L2
open AT (cells cellsL er ers)
section
variable {K : PySem.W.Frag} {mg : Str → Option Value} {pv : List (Nat × V)} {F F' H H' : Hp} {σ : L2.St} {e e' : Env} {as as' : List (Option AT)} {held tr ts us : List AT} {E : XS}
end
structure VD (X : Cx) (E : XS) (pos : Pos) (keys : List (Option Expr)) (values : List Expr) (ks : List Key) (m : M (List RV)) : Prop where
  go : ∃ ts, PPs X pos keys values (tPs ks ts) ∧ SPs X.K X.mg E ks ts m
section
variable {X : Cx} {E : XS} {a : Expr} {es : List Expr} {ma : M RV} {mr : M (List RV)} {pos p1 : Pos} {j : Nat} {s : Str} {kd : Nat}
variable {CX : CXT} {k : Nat} {f : Addr} {fd : FuncData} {ps : List Str} {x y : Str} {p p2 p3 : Pos} {md : List Bool} {φ : Fn}
end
end VF
set_option maxRecDepth 100000
set_option maxHeartbeats 4000000
namespace VF
set_option autoImplicit false
open PySem PySem.Spec PyProof.Rows L2
open AT (cells cellsL er ers)
section
variable {K : PySem.W.Frag} {mg : Str → Option Value} {pv : List (Nat × V)} {F F' H H' : Hp} {σ σ' : L2.St} {e e' : Env} {as as' : List (Option AT)} {held tr ts us : List AT} {E : XS}
theorem Cf.back {j : Nat} {t : AT} (c : Cf K mg ((j, t.val) :: pv) F H σ e' as (t :: held)) (hc : isClr e' j = true) {p : List Nat} (hp : e'.pn = j :: p) (hpv : ∀ q ∈ pv, q.1 ∈ p) : Cf K mg pv F H σ ⟨e'.sl.set j (some (er t)), p⟩ (as.set j (some t)) held := by
  have hv := (c.r.pin (j, t.val) List.mem_cons_self).2
  obtain ⟨c1, _⟩ := c.fill hc hv
  exact ⟨c1.s, ⟨c1.r.sl, c1.r.len, c1.r.at_, fun q hq => ⟨hpv q hq, (c1.r.pin q (List.mem_cons_of_mem _ hq)).2⟩⟩, c1.g⟩
end
section
variable {X : Cx} {E : XS} {pos p : Pos} {j : Nat} {y : Str} {tg : Expr} {g : Tg} {L : List Nat} {m : M Fl}
end
end VF
set_option maxRecDepth 100000
set_option maxHeartbeats 4000000
namespace VF
set_option autoImplicit false
open PySem PySem.Spec PyProof.Rows L2
open AT (cells cellsL er ers)
open PySem.W (alike AllAlike Sortable dataLe dataLt EachIs)
section
variable {X : Cx}
end
def isTup1 : PyData → Bool
  | .tuple (_ :: _) => true
  | _ => false
def noTup : PyData → Bool
  | .none => false
  | .tuple _ => false
  | _ => true
section
variable {K : PySem.W.Frag} {mg : Str → Option Value}
end
section
variable {X : Cx} {E : XS} {a : Expr} {pos : Pos}
end
end VF
set_option maxRecDepth 100000
set_option maxHeartbeats 4000000
namespace VF
set_option autoImplicit false
open PySem PySem.Spec PyProof.Rows L2
section
variable {X : Cx} {E : XS} {pos : Pos}
end
end VF
set_option maxRecDepth 100000
set_option maxHeartbeats 4000000
namespace VF
set_option autoImplicit false
open PySem PySem.Spec PyProof.Rows L2
open AT (cells cellsL er ers)
section
variable {X : Cx}
end
section
variable {K : PySem.W.Frag} {mg : Str → Option Value} {E : XS}
end
section
variable {X : Cx}
end
section
variable {K : PySem.W.Frag} {mg : Str → Option Value} {E : XS}
end
section
variable {K : PySem.W.Frag} {mg : Str → Option Value} {E : XS}
end
section
variable {X : Cx} {E : XS} {a b c : Expr} {ma mb mc : M RV} {pos : Pos} {mr : M (List RV)}
end
end VF
set_option maxRecDepth 100000
set_option maxHeartbeats 4000000
namespace VF
set_option autoImplicit false
open PySem PySem.Spec PyProof.Rows L2
open AT (cells cellsL er ers)
section
variable {K : PySem.W.Frag} {mg : Str → Option Value} {pv : List (Nat × V)} {F F' H H' : Hp} {σ : L2.St} {e e' : Env} {as as' : List (Option AT)} {held tr ts us : List AT} {E : XS}
end
section
variable {K : PySem.W.Frag} {mg : Str → Option Value} {pv : List (Nat × V)} {H : Hp} {σ : L2.St} {E : XS}
end
section
variable {X : Cx} {E : XS} {a : Expr} {ma : M RV} {pos p1 p2 p3 : Pos} {j : Nat} {s y : Str} {kd : Nat}
end
end VF
set_option maxRecDepth 100000
set_option maxHeartbeats 4000000
namespace VF
set_option autoImplicit false
open PySem PySem.Spec PyProof.Rows L2
open AT (cells cellsL er ers)
section
variable {K : PySem.W.Frag} {mg : Str → Option Value} {pv : List (Nat × V)} {E : XS}
end
section
variable {X : Cx} {E : XS} {a : Expr} {es : List Expr} {mr : M (List RV)} {pos : Pos}
end
end VF
set_option maxRecDepth 100000
set_option maxHeartbeats 4000000
namespace VF
set_option autoImplicit false
open PySem PySem.Spec PyProof.Rows L2
open AT (cells cellsL er ers)
abbrev set0 (w : World) : Obj := { cls := .type "set", dict := none, data := .set #[] 0 (.fresh 0 0 (!w.params.followText "set-order")) }
section
variable {P : Program} {w : World} {A : Around} {E : Value → Shared → Prop} {s : Shared}
theorem at_new (hp : Heap) (w : World) : (hp.push (set0 w)).get? hp.objs.size = some (set0 w) := Heap.get?_push_size _ rfl
def Filled (w : World) (s0 s2 : Shared) (ns : List Int) : Prop :=
  ∃ hp t n, s2 = { s0 with heap := hp, toks := t } ∧ SetR w hp s0.heap.objs.size (fun j => decide (j ∈ ns)) n ∧ n ≤ ns.length ∧ ∀ b o, s0.heap.get? b = some o → hp.get? b = some o
set_option maxRecDepth 100000 in
theorem set_init_list {q : Addr} {vs : Array Value} (ns : List Int) {R : Result → Shared → Prop} (nh : A.handled = none) (ql : s.heap.IsList q vs) (ni : IntsAre vs.toList ns) (sm : ns.length + 1 < scanBound)
    (k : ∀ s2, Filled w s s2 ns → R (.ok (.ret .none)) s2) :
    codeAny (model P w) A (.call (.builtin "set.__init__") ⟨[.ref s.heap.objs.size, .ref q], []⟩) R { s with heap := s.heap.push (set0 w) } := by
  have isS : Shared.TypeIs { s with heap := s.heap.push (set0 w) } (.ref s.heap.objs.size) "set" := ⟨_, at_new _ w, rfl⟩
  have nv : vs.size = ns.length := by
    have z := IntsAre.length ni
    rwa [Array.length_toList] at z
  refine codeAny_call_builtin F.called_set.init.plain F.entry_set_init (check_set_init_1 isS ?_)
  obtain ⟨⟨oc, od, odata, osl⟩, oq, rfl, nl, rfl⟩ := id ql
  have oq2 : (s.heap.push (set0 w)).get? q = some { cls := .type "list", dict := od, data := .seq vs nl, slots := osl } := Heap.get?_push_of_some _ oq
  have ql2 : (s.heap.push (set0 w)).IsList q vs := ⟨_, oq2, rfl, nl, rfl⟩
  have no1 := F.sub_list_set
  have no2 := F.sub_list_frozenset
  have no3 : (Value.type "list" == Value.type "dict") = false := by decide
  unfold Builtin.«set.__init__» noKeywords Builtin.Frozenset.updateFrom
  generalize hIt : pyIter = It
  wp_walk
  subst hIt
  refine wpAny_pyIter_list ql2 ?_
  refine wpAny_bind (wpAny_runValue ?_)
  have lt : q < s.heap.objs.size := Heap.lt_size oq
  have nh3 : A.in1.in1.handled = none := by simp [nh]
  have sz : (s.heap.push (set0 w)).objs.size = s.heap.objs.size + 1 := Heap.size_push ..
  have nq : q ≠ (s.heap.push (set0 w)).objs.size := by rw [sz]; exact Nat.ne_of_lt (Nat.lt_succ_of_lt lt)
  have fr : s.heap.objs.size ∉ [(s.heap.push (set0 w)).objs.size, q] := fun z => by
    rw [sz] at z
    rcases List.mem_cons.mp z with z | z
    · exact absurd z (Nat.ne_of_lt (Nat.lt_succ_self _))
    · exact absurd (List.mem_singleton.mp z) (Nat.ne_of_gt lt)
  have at_ : ∀ (i : Nat) (v : Value), vs[i]? = some v → ∃ n t, ns[i]? = some n ∧ v = .int n t := fun i v hv => by
    have li : i < ns.length := by rw [← nv]; exact (Array.getElem?_eq_some_iff.mp hv).1
    obtain ⟨t, e⟩ := IntsAre.int_at ni i v (by rw [Array.getElem?_toList]; exact hv)
    exact ⟨ns[i], t, List.getElem?_eq_getElem li, by rw [e, List.getD_eq_getElem?_getD, List.getElem?_eq_getElem li]; rfl⟩
  refine set_update_ints ((Walks.list nh3 _ q nq vs).toS) s.heap.objs.size fr ns nv sm at_ (vs.size - 0) 0 _ (by omega) (Nat.zero_le _) ⟨⟨_, Heap.get?_push_size _ rfl, rfl, rfl⟩, ql2.push _⟩ ⟨0, Nat.le_refl 0, setR_new_at (Heap.get?_push_of_some _ (at_new _ w))⟩ fun s' n mv le R' => ?_
  obtain ⟨hp, g2, d2, t2, o2⟩ := s'
  obtain rfl : g2 = s.gens := mv.gens
  obtain rfl : d2 = s.drawn := mv.drawn
  obtain rfl : o2 = s.os := mv.os
  show wpAny _ _ _ _ _ _
  refine wpAny_pure (show wpAny _ _ (ret Value.none) _ _ _ from wpAny_pure (k _ ⟨hp, t2, n, rfl, R', by omega, fun b o e => ?_⟩))
  have lb : b < s.heap.objs.size := Heap.lt_size e
  refine mv.heap b o (fun z => ?_) (Heap.get?_push_of_some _ (Heap.get?_push_of_some _ e))
  rcases List.mem_cons.mp z with z | z
  · exact absurd z (Nat.ne_of_lt lb)
  · have z := List.mem_singleton.mp z
    rw [sz] at z
    exact absurd z (Nat.ne_of_lt (Nat.lt_succ_of_lt lb))
set_option maxRecDepth 100000 in
theorem call_set_ints {q : Addr} {vs : Array Value} (ns : List Int) {Q : Value → Shared → Prop} (nh : A.handled = none) (ql : s.heap.IsList q vs) (ni : IntsAre vs.toList ns) (sm : ns.length + 1 < scanBound)
    (k : ∀ s2, Filled w s s2 ns → Q (.ref s.heap.objs.size) s2) : wpAny (model P w) A (call (.type "set") [.ref q]) Q E s := by
  have fc := F.called_set
  obtain ⟨cc, ct, hm⟩ := fc.mro
  have a1 := fc.made
  have a2 := fc.sub
  have a3 := fc.notType
  have a4 := fc.canCreate
  have a5 := F.typeCall_set_1 (.ref q)
  refine wpAny_call (codeAny_of_tree (show wpAny _ _ (callAny (.type "set") _) _ _ _ from wpAny_pure ⟨Code.quiet_builtin _ (by decide +kernel), codeAny_builtin F.entry_type_call ?_⟩))
  rw [Around.under_plain (weight_type_call_type "set" [.ref q] []) rfl]
  repeat (any_goals (first | assumption | wp_step))
  refine codeAny_mono (code_set_led1 (w := w) (.ref q) (E := E) (Q₁ := fun z s₁ => z = .ref s.heap.objs.size ∧ s₁ = { s with heap := s.heap.push (set0 w) }) ⟨rfl, rfl⟩) fun z s₁ hz => ?_
  cases z with
  | error e => exact hz
  | ok fl =>
    cases fl with
    | ret z =>
      obtain ⟨rfl, rfl⟩ := hz
      have b1 := fc.init.lookup
      have b2 := fc.init.bind (.ref s.heap.objs.size)
      have b3 : Shared.TypeIs { s with heap := s.heap.push (set0 w) } (.ref s.heap.objs.size) "set" := ⟨_, at_new _ w, rfl⟩
      repeat (any_goals (first | assumption | wp_step))
      refine codeAny_mono (set_init_list (A := _) (R := wants (fun z s₂ => z = .none ∧ Filled w s s₂ ns) E) ns (by simp [nh]) ql ni sm fun s2 h2 => ⟨rfl, h2⟩) fun z s₂ hz => ?_
      cases z with
      | error e => exact hz
      | ok fl =>
        cases fl with
        | ret z =>
          obtain ⟨rfl, h2⟩ := hz
          repeat (any_goals (first | assumption | wp_step))
          exact k _ h2
        | _ => exact hz.elim
    | _ => exact hz.elim
end
section
variable {K : PySem.W.Frag} {mg : Str → Option Value} {E : XS}
end
section
variable {X : Cx} {E : XS} {a : Expr} {ma : M RV} {pos p1 p2 p3 : Pos}
end
end VF
set_option maxRecDepth 100000
set_option maxHeartbeats 4000000
namespace VF
set_option autoImplicit false
open PySem PySem.Spec PyProof.Rows L2
open AT (cells cellsL er ers)
section
variable {K : PySem.W.Frag} {mg : Str → Option Value} {pv : List (Nat × V)} {F0 F H : Hp} {σ : L2.St} {e : Env} {as : List (Option AT)} {held held0 : List AT} {E : XS}
end
section
variable {X : Cx} {E : XS} {a b c d k x : Expr} {ma mb mc md mk mx : M RV} {pos p1 p2 : Pos}
end
end VF
set_option maxRecDepth 100000
set_option maxHeartbeats 4000000
namespace VF
set_option autoImplicit false
open PySem PySem.Spec PyProof.Rows L2
open AT (cells cellsL er ers)
section
variable {X : Cx} {xA xB n : Str} {cA cB : Value} {i : Nat} {body rA rB : List Stmt} {sA sB : Stmt} {pA pB qA qB pos : Pos} {tb : L2.WX → TS} {tA tB : Addr → Value → Option Addr → TS} {Wo : L2.WX}
end
section
variable {X : Cx} {E : XS}
end
inductive CatF (K : PySem.W.Frag) (mg : Str → Option Value) (cA cB : Value) : List Str → Prop
  | nil : CatF K mg cA cB []
  | cons {y : Str} {C : Addr} {t : List Str} (g : mg y = some (.ref C)) (f : PySem.W.exmOne K (.ref C) cA = some false) (m : PySem.W.exmOne K (.ref C) cB = some true) (r : CatF K mg cA cB t) : CatF K mg cA cB (y :: t)
theorem CatF.at {K : PySem.W.Frag} {mg : Str → Option Value} {cA cB : Value} {t : List Str} (T : CatF K mg cA cB t) {y : Str} {C : Addr} (h : y ∈ t) (g : mg y = some (.ref C)) : PySem.W.exmOne K (.ref C) cA = some false ∧ PySem.W.exmOne K (.ref C) cB = some true := by
  induction T with
  | nil => cases h
  | @cons y' C' t g' f m r ih =>
    rcases List.mem_cons.mp h with q | q
    · subst q
      rw [g] at g'
      cases g'
      exact ⟨f, m⟩
    · exact ih q
theorem CatF.hm {K : PySem.W.Frag} {mg : Str → Option Value} {cA cB : Value} {t : List Str} (T : CatF K mg cA cB t) (h : Exc → Option SV) : ∀ (y : Exc) (s : SV) (C : Addr), gOn t h y = some s → mg y.c = some (.ref C) → PySem.W.exmOne K (.ref C) cA = some false ∧ PySem.W.exmOne K (.ref C) cB = some true := fun y s C q g => by
  unfold gOn at q
  by_cases z : y.c ∈ t
  · exact T.at z g
  · rw [if_neg z] at q; cases q
section
variable {X : Cx} {E : XS}
end
end VF
set_option maxRecDepth 100000
set_option maxHeartbeats 4000000
namespace VF
set_option autoImplicit false
open PySem PySem.Spec PyProof.Rows L2
open AT (cells cellsL er ers)
section
variable {K : PySem.W.Frag} {mg : Str → Option Value} {F : Hp} {E : XS}
end
end VF
set_option maxRecDepth 100000
set_option maxHeartbeats 4000000
namespace VF
set_option autoImplicit false
open PySem PySem.Spec PyProof.Rows L2
open AT (cells cellsL er ers)
section
variable {K : PySem.W.Frag} {mg : Str → Option Value} {E : XS}
end
section
variable {X : Cx} {E : XS} {a b c : Expr} {ma mb mc : M RV} {pos : Pos} {es : List Expr} {mr : M (List RV)}
end
end VF
set_option maxRecDepth 100000
set_option maxHeartbeats 4000000
namespace VF
set_option autoImplicit false
open PySem PySem.Spec PyProof.Rows L2
open AT (cells cellsL er ers)
instance {x : Str} {n : Int} : Decidable (MulOk x n) := by unfold MulOk; infer_instance
section
variable {X : Cx} {K : PySem.W.Frag} {mg : Str → Option Value} {E : XS}
end
section
variable {K : PySem.W.Frag} {mg : Str → Option Value} {E : XS}
end
section
variable {X : Cx} {E : XS} {a b : Expr} {ma mb : M RV} {pos : Pos}
end
section
variable {K : PySem.W.Frag} {mg : Str → Option Value} {E : XS}
end
end VF
set_option maxRecDepth 100000
set_option maxHeartbeats 4000000
namespace VF
set_option autoImplicit false
open PySem PySem.Spec PyProof.Rows L2
open AT (cells cellsL er ers)
section
variable {K : PySem.W.Frag} {mg : Str → Option Value} {E : XS}
end
inductive VJ (X : Cx) (E : XS) : List Expr → List (M RV) → Prop
  | nil : VJ X E [] []
  | cons {e : Expr} {m : M RV} {es : List Expr} {ms : List (M RV)} (h : VE X E e m) (r : VJ X E es ms) : VJ X E (e :: es) (m :: ms)
end VF
set_option maxRecDepth 100000
set_option maxHeartbeats 4000000
namespace VF
set_option autoImplicit false
open PySem PySem.Spec PyProof.Rows L2
open AT (cells cellsL er ers)
section
variable {K : PySem.W.Frag} {mg : Str → Option Value} {pv : List (Nat × V)} {F F' H H' : Hp} {σ : L2.St} {e e' : Env} {as as' : List (Option AT)} {held tr ts us : List AT} {E : XS}
def ownOf : RV → Option SV
  | .own s => some s
  | .fz d => some (.fz d)
  | .var _ => none
theorem rr_ownOf {v : V} {r : RV} {s : SV} (h : RR σ v r tr) (q : ownOf r = some s) : ∃ t, tr = [t] ∧ t.val = v ∧ er t = s := by
  cases r with
  | own s' => cases q; exact h
  | fz d => cases q; exact ⟨.fz v d, h, rfl, rfl⟩
  | var _ => cases q
def loopO (own : List Nat) (g : Tg) (tt : M Bool) (te : M RV) : List D → List SV → M (List SV)
  | [], acc => fun e => .ok acc e
  | d :: ds, acc => fun e => match g d e with
    | none => .st
    | some e1 => (match tt e1 with
      | .ok true e2 => (match te e2 with
        | .ok r e3 => (match ownOf r with
          | some s => if (decide (acc.length < sizeLine) && noPn own e3) = true then loopO own g tt te ds (acc ++ [s]) (wipeE own e3) else .st
          | none => .st)
        | _ => .st)
      | .ok false e2 => if noPn own e2 = true then loopO own g tt te ds acc (wipeE own e2) else .st
      | _ => .st)
def dCompO (own : List Nat) (it : M (List D)) (g : Tg) (tt : M Bool) (te : M RV) : M RV := it.bind fun ds e0 => if noPn own e0 = true then (match loopO own g tt te ds [] (wipeE own e0) with
  | .ok acc e1 => (match restE own e0 e1 with
    | some e2 => .ok (.own (.ol acc)) e2
    | none => .st)
  | _ => .st) else .st
theorem Cf.lstAt {p : Addr} {xs : List AT} (c : Cf K mg pv F H σ e as (.ol p xs :: us)) : H p = some (.lst (vals xs)) :=
  (c.g.perm (List.perm_middle (l₁ := opts as) (l₂ := us) (a := AT.ol p xs))).cell.1
theorem se_compO {L own : List Nat} {wi : TI} {tg : TG} {tt : TT} {te : TE} {mi : M (List D)} {g : Tg} {mt : M Bool} {me : M RV} (hi : SI K mg E wi mi) (hg : SG K mg L tg g) (hL : ∀ i ∈ L, i ∈ own) (ht : ST K mg E0 tt mt) (he : SE K mg E0 te me) :
    SE K mg E (tLc wi tg tt te own) (dCompO own mi g mt me) := by
  intro pv F H σ e as held Q c w
  refine hi pv F H σ e as held _ c (WI.bindE w fun ds e1 J F1 H1 as1 s1 c1 it w1 => ?_)
  intro D hD
  by_cases hp : noPn own e1 = true
  · rw [if_pos hp] at w1
    cases q : loopO own g mt me ds [] (wipeE own e1) with
    | st => rw [q] at w1; exact w1.elim
    | ex _ _ => rw [q] at w1; exact w1.elim
    | ok accF eF =>
      rw [q] at w1
      cases q2 : restE own e1 eF with
      | none => simp only [q2] at w1; exact w1.elim
      | some e2 =>
        simp only [q2] at w1
        have c0 : Cf K mg pv F1 (upd H1 D (.lst [])) σ e1 as1 (.ol D [] :: held) := by
          refine ⟨same_own c1.s (c1.s.free hD), c1.r, ?_⟩
          exact (Good.new (xs := []) c1.g c1.s hD).perm (List.perm_middle (l₁ := opts as1) (l₂ := held)).symm
        have cw := c0.wipe (vs := own) (noPn_ok hp)
        refine ⟨fun i m H => m = ds.length - i ∧ ∃ F e as ats, Same F1 F ∧ Cf K mg pv F H (wipe σ own) e as (.ol D ats :: held) ∧ loopO own g mt me (ds.drop i) (ers ats) e = .ok accF eF,
          ⟨_, rfl, F1, _, _, [], Same.refl _, cw, q⟩, ?_⟩
        rintro i m H2 ⟨rfl, F2, e3, as3, ats, s2, c2, q3⟩
        by_cases hlt : i < ds.length
        · refine .inr ⟨it.go i F2 H2 s2 c2.s hlt, fun H' => ∃ F e as ats, Same F1 F ∧ Cf K mg pv F H' (wipe σ own) e as (.ol D ats :: held) ∧ loopO own g mt me (ds.drop (i + 1)) (ers ats) e = .ok accF eF,
            fun H' ⟨F, e, as, ats, z1, z2, z4⟩ => ⟨ds.length - (i + 1), by omega, rfl, F, e, as, ats, z1, z2, z4⟩, fun x H' y => ?_⟩
          obtain ⟨F3, d, s3, s3', gg, hd, rd⟩ := it.yld i F2 H2 x H' s2 c2.s hlt y
          have c3 : Cf K mg pv F3 H' (wipe σ own) e3 as3 (.ol D ats :: held) := ⟨s3', c2.r, gg _ c2.g⟩
          have e4 : ds.drop i = d :: ds.drop (i + 1) := by
            have hdd : ds[i] = d := by rw [List.getElem?_eq_getElem hlt] at hd; exact Option.some.inj hd
            rw [List.drop_eq_getElem_cons hlt, hdd]
          rw [e4] at q3
          unfold loopO at q3
          cases q4 : g d e3 with
          | none => simp only [q4] at q3; cases q3
          | some e5 =>
            simp only [q4] at q3
            refine hg pv F3 H' _ e3 as3 _ x d e5 _ c3 rd q4 fun σ4 as4 hw c4 => ?_
            refine ⟨(hw own hL).trans (wipe_wipe own σ), ?_⟩
            refine ht pv F3 H' σ4 e5 as4 _ _ c4 ?_
            cases q5 : mt e5 with
            | st => simp only [q5] at q3; cases q3
            | ex _ _ => simp only [q5] at q3; cases q3
            | ok b e6 =>
              simp only [q5] at q3
              intro F5 H5 as5 s5 c5
              have hwσ : wipe σ4 own = wipe σ own := (hw own hL).trans (wipe_wipe own σ)
              cases b with
              | false =>
                simp only at q3
                rw [if_neg (by decide)]
                by_cases hp2 : noPn own e6 = true
                · rw [if_pos hp2] at q3
                  have c6 := c5.wipe (vs := own) (noPn_ok hp2)
                  rw [hwσ] at c6
                  exact ⟨F5, _, _, ats, (s2.trans s3).trans s5, c6, q3⟩
                · rw [if_neg hp2] at q3; cases q3
              | true =>
                simp only at q3
                rw [if_pos rfl]
                refine he pv F5 H5 σ4 e6 as5 _ _ c5 ?_
                cases q6 : me e6 with
                | st => simp only [q6] at q3; cases q3
                | ex _ _ => simp only [q6] at q3; cases q3
                | ok r e7 =>
                  simp only [q6] at q3
                  intro y6 F6 H6 as6 tr6 s6 c6 rr6
                  cases q7 : ownOf r with
                  | none => simp only [q7] at q3; cases q3
                  | some s7 =>
                    simp only [q7] at q3
                    obtain ⟨t7, rfl, ev, et⟩ := rr_ownOf rr6 q7
                    by_cases hp2 : (decide ((ers ats).length < sizeLine) && noPn own e7) = true
                    · rw [if_pos hp2] at q3
                      obtain ⟨hp3, hp4⟩ := Bool.and_eq_true_iff.mp hp2
                      have c7 : Cf K mg pv F6 H6 σ4 e7 as6 (.ol D ats :: t7 :: held) := c6.perm (List.Perm.swap (AT.ol D ats) t7 held)
                      refine ⟨vals ats, c7.lstAt, ?_, ?_⟩
                      · have := of_decide_eq_true hp3
                        rw [ers_length] at this
                        unfold vals
                        rwa [List.length_map]
                      have c8 := c7.relistH (ys := ats ++ [t7]) (zs := held) (junk := []) (by simp)
                      have e8 : vals (ats ++ [t7]) = vals ats ++ [y6] := by unfold vals; rw [List.map_append, ← ev]; rfl
                      have e9 : ers (ats ++ [t7]) = ers ats ++ [s7] := by rw [ers_eq, ers_eq, List.map_append, ← et]; rfl
                      rw [e8] at c8
                      have c10 := c8.wipe (vs := own) (noPn_ok hp4)
                      rw [hwσ] at c10
                      exact ⟨F6, _, _, ats ++ [t7], (((s2.trans s3).trans s5).trans s6), c10, by rw [e9]; exact q3⟩
                    · rw [if_neg hp2] at q3; cases q3
        · refine .inl ⟨it.stop i F2 H2 s2 c2.s (by omega), ?_⟩
          rw [List.drop_eq_nil_of_le (by omega)] at q3
          unfold loopO at q3
          have q3' : R.ok (ers ats) e3 = R.ok accF eF := q3
          cases q3'
          obtain ⟨as4, c4⟩ := c2.rest (e0 := e1) (fun v d hv hz => by
            obtain ⟨t, ht, et⟩ := c1.r.slotOf hz
            have hσ := c1.r.at_ v t ht
            cases t with
            | fz u d' =>
              have ed : d' = d := by simpa [er] using et
              subst ed
              have ok : Rep K mg F1 u d' := Oks.mem.mp c1.g.ok _ (List.mem_append_left _ (mem_opts ht))
              exact ⟨u, hσ, Rep.same s2 ok⟩
            | ol _ _ => simp [er] at et
            | oo _ _ _ _ _ _ => simp [er] at et
            | od _ _ _ => simp [er] at et) q2
          exact w1 (.ref D) F2 H2 as4 [.ol D ats] (s1.trans s2) c4 ⟨_, rfl, rfl, rfl⟩
  · rw [if_neg hp] at w1; exact w1.elim
def inZ (a b : Nat) (ys : List SV) (d : D) (e : Env) : Option Env :=
  if a ≠ b ∧ a ∉ e.pn ∧ b ∉ e.pn ∧ a < e.sl.length then some ⟨(e.sl.set a (some (.ol ys))).set b (some (.fz d)), a :: e.pn⟩ else none
def outZ (a : Nat) (pn : List Nat) (e : Env) : Option (List SV × Env) := if e.pn = a :: pn then (match e.sl[a]? with
  | some (some (.ol zs)) => some (zs, ⟨e.sl.set a (some (.fz .hl)), pn⟩)
  | _ => none) else none
def loopZ (a b : Nat) (mb : M Fl) : Nat → List D → List SV → M (List SV)
  | _, [], xs => fun e => .ok xs e
  | i, d :: ds, xs => fun e => match xs[i]? with
    | none => .ok xs e
    | some (.ol ys) => (match inZ a b ys d e with
      | none => .st
      | some e1 => (match mb e1 with
        | .ok .nx e2 => (match outZ a e.pn e2 with
          | some (zs, e3) => loopZ a b mb (i + 1) ds (xs.set i (.ol zs)) e3
          | none => .st)
        | _ => .st))
    | _ => .st
def endZ (j : Nat) (pn : List Nat) (r : R (List SV)) : R Fl := match r with
  | .ok ys e2 => if isClr e2 j = true ∧ e2.pn = j :: pn then .ok .nx ⟨e2.sl.set j (some (.ol ys)), pn⟩ else .st
  | _ => .st
def dForZ (j a b : Nat) (me : M RV) (mb : M Fl) : M Fl := fun e0 => match e0.sl[j]? with
  | some (some (.ol _)) => (me e0).bind fun r e => (match frzR r e with
    | some (.lst ds, e1) => (match e1.sl[j]? with
      | some (some (.ol xs)) => if j ∈ e1.pn then .st else endZ j e1.pn (loopZ a b mb 0 ds xs ⟨e1.sl.set j none, j :: e1.pn⟩)
      | _ => .st)
    | _ => .st)
  | _ => .st
theorem Cf.openK {i a : Nat} {p q : Addr} {ats ys : List AT} (c : Cf K mg pv F H σ e as (.ol p ats :: held)) (hk : ats[i]? = some (.ol q ys)) (ha : a ∉ e.pn) :
    Cf K mg pv F H (σ.set a (some (.ref q))) (e.setS a (.ol (ers ys))) (as.set a (some (.ol q ys))) (.ol p (ats.set i (.fz (.ref q) .hl)) :: held) := by
  have g : Good K mg F H (.ol p ats :: (opts as ++ held)) := c.g.perm (List.perm_middle (l₁ := opts as) (l₂ := held) (a := AT.ol p ats))
  have hs : AT.sub [i] (.ol p ats) = some (.ol q ys) := sub_at (p := []) (t := .ol p ats) hk
  have g2 := g.open_ hs (a := q) rfl
  rw [put_at (t := .ol p ats) hk] at g2
  have c1 : Cf K mg pv F H σ e as ([.ol q ys] ++ (.ol p (ats.set i (.fz (.ref q) .hl)) :: held)) := by
    refine ⟨c.s, c.r, g2.perm ?_⟩
    show (AT.ol p (ats.set i (.fz (.ref q) .hl)) :: AT.ol q ys :: (opts as ++ held)).Perm (opts as ++ (AT.ol q ys :: AT.ol p (ats.set i (.fz (.ref q) .hl)) :: held))
    exact (List.Perm.swap _ _ _).trans ((List.perm_middle (l₁ := opts as) (l₂ := AT.ol p (ats.set i (.fz (.ref q) .hl)) :: held) (a := AT.ol q ys)).trans ((List.perm_middle (l₁ := opts as) (l₂ := held) (a := AT.ol p (ats.set i (.fz (.ref q) .hl)))).cons _)).symm
  exact c1.store (t := .ol q ys) ha
theorem Cf.closeK {i a : Nat} {p q : Addr} {ats : List AT} {zs : List SV} {pn : List Nat} (c : Cf K mg ((a, .ref q) :: pv) F H σ e as (.ol p ats :: held)) (hk : ats[i]? = some (.fz (.ref q) .hl)) (z : e.sl[a]? = some (some (.ol zs))) (hp : e.pn = a :: pn) (hpv : ∀ k ∈ pv, k.1 ∈ pn) :
    ∃ ys, ers ys = zs ∧ Cf K mg pv F H σ ⟨e.sl.set a (some (.fz .hl)), pn⟩ (as.set a (some (.fz (.ref q) .hl))) (.ol p (ats.set i (.ol q ys)) :: held) := by
  obtain ⟨q2, ys, h1, h2, h3, h4⟩ := c.ownL z
  have hv := (c.r.pin (a, .ref q) List.mem_cons_self).2
  have eq : q2 = q := by rw [h3] at hv; simpa using hv
  subst eq
  refine ⟨ys, h2, ?_⟩
  have g := c.take h1
  have g2 : Good K mg F H (.ol p ats :: .ol q2 ys :: (opts (as.set a none) ++ held)) := by
    refine g.perm ?_
    exact ((List.perm_middle (l₁ := opts (as.set a none)) (l₂ := held) (a := AT.ol p ats)).cons _).trans (List.Perm.swap _ _ _)
  have hs : AT.sub [i] (.ol p ats) = some (.fz (.ref q2) .hl) := sub_at (p := []) (t := .ol p ats) hk
  have g3 := g2.close_ hs (show (AT.ol q2 ys).val = .ref q2 from rfl)
  rw [put_at (t := .ol p ats) hk] at g3
  have g4 : Good K mg F H (.fz (.ref q2) .hl :: (.ol p (ats.set i (.ol q2 ys)) :: (opts (as.set a none) ++ held))) := Good.fz g3 ⟨q2, rfl⟩
  have g5 : Good K mg F H (.fz (.ref q2) .hl :: (opts (as.set a none) ++ (.ol p (ats.set i (.ol q2 ys)) :: held))) := g4.perm ((List.perm_middle (l₁ := opts (as.set a none)) (l₂ := held) (a := AT.ol p (ats.set i (.ol q2 ys)))).symm.cons _)
  have c2 := Cf.put (t' := .fz (.ref q2) .hl) c.r h1 c.s g5 rfl
  exact ⟨c2.s, ⟨c2.r.sl, c2.r.len, c2.r.at_, fun k hk => ⟨hpv k hk, (c2.r.pin k (List.mem_cons_of_mem _ hk)).2⟩⟩, c2.g⟩
theorem getK {ats : List AT} {i : Nat} {s : SV} (h : (ers ats)[i]? = some s) : ∃ t, ats[i]? = some t ∧ er t = s := by
  rw [ers_eq, List.getElem?_map] at h
  cases q : ats[i]? with
  | none => rw [q] at h; cases h
  | some t => rw [q] at h; exact ⟨t, rfl, Option.some.inj h⟩
theorem ss_forZ {j a b : Nat} {te : TE} {tb : TS} {me : M RV} {mb : M Fl} (he : SE K mg E te me) (hb : SS K mg E tb mb) :
    SS K mg E (tFor (iZip K (tCons (tVar j) (tCons te tNil))) (gTup K 2 (L2.gCons (gName a) (L2.gCons (gName b) L2.gNil))) tb) (dForZ j a b me mb) := by
  intro pv F H σ e as held D' c w
  unfold dForZ at w
  cases z0 : e.sl[j]? with
  | none => simp only [z0] at w; exact w.elim
  | some o =>
  cases o with
  | none => simp only [z0] at w; exact w.elim
  | some s0 =>
  cases s0 with
  | fz _ => simp only [z0] at w; exact w.elim
  | oo _ _ _ => simp only [z0] at w; exact w.elim
  | od _ _ => simp only [z0] at w; exact w.elim
  | ol xs0 =>
  simp only [z0] at w
  obtain ⟨p, ats0, h0, _, hv, _⟩ := c.ownL z0
  refine ⟨_, hv, ?_⟩
  refine he pv F H σ e as held _ c (WE.bindE (W := WS K mg pv F held E D') (fun z => z) w (fun _ _ z => z) fun r1 e1' v1 F1' H1 as1' tr1 s1' c1' rr1 w1 => ?_)
  cases q : frzR r1 e1' with
  | none => simp only [q] at w1; exact w1.elim
  | some pr =>
  obtain ⟨d1, e1⟩ := pr
  simp only [q] at w1
  obtain ⟨F1, as1, s1, c1, rp⟩ := c1'.frzR rr1 q
  cases d1 with
  | lst ds =>
    simp only at w1
    cases z : e1.sl[j]? with
    | none => simp only [z] at w1; exact w1.elim
    | some o =>
    cases o with
    | none => simp only [z] at w1; exact w1.elim
    | some s2 =>
    cases s2 with
    | fz _ => simp only [z] at w1; exact w1.elim
    | oo _ _ _ => simp only [z] at w1; exact w1.elim
    | od _ _ => simp only [z] at w1; exact w1.elim
    | ol xs =>
    simp only [z] at w1
    by_cases hj : j ∈ e1.pn
    · rw [if_pos hj] at w1; exact w1.elim
    rw [if_neg hj] at w1
    obtain ⟨p2, ats, h2, ey, hv2, hp2⟩ := c1.ownL z
    have ep : p2 = p := by rw [hv] at hv2; simpa using hv2.symm
    subst ep
    obtain ⟨b2, vs, rfl, hb2, rvs⟩ := rp
    cases qz : loopZ a b mb 0 ds xs ⟨e1.sl.set j none, j :: e1.pn⟩ with
    | st => rw [qz] at w1; exact w1.elim
    | ex _ _ => rw [qz] at w1; exact w1.elim
    | ok ysF eF =>
    rw [qz] at w1
    unfold endZ at w1
    simp only at w1
    by_cases hc : isClr eF j = true ∧ eF.pn = j :: e1.pn
    · rw [if_pos hc] at w1
      have c0 := c1.clr h2
      have c2 : Cf K mg ((j, .ref p2) :: pv) F1 H1 σ ⟨e1.sl.set j none, j :: e1.pn⟩ (as1.set j none) (.ol p2 ats :: held) := ⟨c0.s, ⟨c0.r.sl, c0.r.len, c0.r.at_, fun k hk => by
        rcases List.mem_cons.mp hk with k' | k'
        · subst k'; exact ⟨List.mem_cons_self, hv2⟩
        · exact ⟨List.mem_cons_of_mem _ (c1.r.pin k k').1, (c1.r.pin k k').2⟩⟩, c0.g⟩
      have sql : ∀ {F2 H2 : Hp}, Same F1 F2 → Same F2 H2 → SqL K H2 b2 vs := fun s s' => SqL.of (s' _ _ (s _ _ hb2))
      refine ⟨p2, b2, vals ats, vs, rfl, SqL.of c2.lstAt, sql (Same.refl _) c2.s, ?_⟩
      have lenv : vs.length = ds.length := rvs.length
      refine ⟨fun i m σ2 H2 => m = ds.length - i ∧ ∃ F2 e2 as2 ats2, Same F1 F2 ∧ Cf K mg ((j, .ref p2) :: pv) F2 H2 σ2 e2 as2 (.ol p2 ats2 :: held) ∧ loopZ a b mb i (ds.drop i) (ers ats2) e2 = .ok ysF eF, ⟨_, rfl, F1, _, _, ats, Same.refl _, c2, by rw [ey]; exact qz⟩, ?_⟩
      rintro i m σ2 H2 ⟨rfl, F2, e2, as2, ats2, s2, c3, qi⟩
      have done : (ysF = ers ats2 ∧ eF = e2) → D'.nx σ2 H2 := fun ⟨e5, e6⟩ => by
        subst e5 e6
        have c4 := Cf.back (t := .ol p2 ats2) c3 hc.1 hc.2 (fun k hk => (c1.r.pin k hk).1)
        exact w1 σ2 F2 H2 _ ((s1'.trans s1).trans s2) c4
      by_cases hlt : i < ds.length
      · have e4 : ds.drop i = ds[i] :: ds.drop (i + 1) := List.drop_eq_getElem_cons hlt
        rw [e4] at qi
        unfold loopZ at qi
        cases q1 : (ers ats2)[i]? with
        | none =>
          simp only [q1] at qi
          cases qi
          refine .inl ⟨⟨vals ats2, vs, SqL.of c3.lstAt, sql s2 c3.s, .inl ?_⟩, done ⟨rfl, rfl⟩⟩
          have := List.getElem?_eq_none_iff.mp q1
          rw [ers_length] at this
          unfold vals
          rwa [List.length_map]
        | some sk =>
          simp only [q1] at qi
          obtain ⟨tk, hk, ek⟩ := getK q1
          cases sk with
          | fz _ => simp only at qi; cases qi
          | oo _ _ _ => simp only at qi; cases qi
          | od _ _ => simp only at qi; cases qi
          | ol ys =>
            obtain ⟨qq, kys, rfl, eys⟩ := er_ol ek
            simp only at qi
            have hx : (vals ats2)[i]? = some (.ref qq) := by unfold vals; rw [List.getElem?_map, hk]; rfl
            have hvl : i < vs.length := by rw [lenv]; exact hlt
            refine .inr ⟨⟨vals ats2, vs, .ref qq, vs[i], SqL.of c3.lstAt, sql s2 c3.s, hx, List.getElem?_eq_getElem hvl⟩, fun σ' H' => ∃ F3 e3 as3 ats3, Same F1 F3 ∧ Cf K mg ((j, .ref p2) :: pv) F3 H' σ' e3 as3 (.ol p2 ats3 :: held) ∧ loopZ a b mb (i + 1) (ds.drop (i + 1)) (ers ats3) e3 = .ok ysF eF, fun σ' H' ⟨F3, e3, as3, ats3, z1, z2, z3⟩ => ⟨ds.length - (i + 1), by omega, rfl, F3, e3, as3, ats3, z1, z2, z3⟩, fun x H' y => ?_⟩
            obtain ⟨T, u, u', e5, hT, e6, y1, y2⟩ := y
            subst e5 e6
            have eu : u = .ref qq := by
              have := y1 _ (SqL.of c3.lstAt)
              rw [hx] at this
              exact (Option.some.inj this).symm
            subst eu
            obtain ⟨d, hd, rd⟩ := rvs.getV (y2 vs (sql s2 c3.s))
            have ed : ds[i] = d := by rw [List.getElem?_eq_getElem hlt] at hd; exact Option.some.inj hd
            rw [ed] at qi
            have c4 : Cf K mg ((j, .ref p2) :: pv) F2 (upd H2 T (.tup [.ref qq, u'])) σ2 e2 as2 (.ol p2 ats2 :: held) := ⟨same_own c3.s (c3.s.free hT), c3.r, c3.g.grow hT⟩
            refine ⟨T, [.ref qq, u'], rfl, SqT.of upd_same, rfl, .ref qq, [u'], rfl, u', [], rfl, rfl, ?_⟩
            cases q2 : inZ a b ys d e2 with
            | none => simp only [q2] at qi; cases qi
            | some e7 =>
              simp only [q2] at qi
              unfold inZ at q2
              by_cases hz : a ≠ b ∧ a ∉ e2.pn ∧ b ∉ e2.pn ∧ a < e2.sl.length
              · rw [if_pos hz] at q2
                obtain ⟨hab, ha, hbp, hal⟩ := hz
                have q2' := Option.some.inj q2
                have c5 := c4.openK hk ha
                have c6 := (c5.fz (Rep.same s2 rd)).store (i := b) (t := .fz u' d) hbp
                have hla : a < as2.length := by
                  have := congrArg List.length c3.r.sl
                  rw [List.length_map] at this
                  omega
                have ga : (((as2.set a (some (.ol qq kys))).set b (some (.fz u' d))))[a]? = some (some (.ol qq kys)) := by
                  rw [List.getElem?_set_ne (Ne.symm hab), List.getElem?_set_self hla]
                have va := c6.r.at_ a _ ga
                have c7 : Cf K mg ((a, .ref qq) :: (j, .ref p2) :: pv) F2 (upd H2 T (.tup [.ref qq, u'])) ((σ2.set a (some (.ref qq))).set b (some u')) e7 ((as2.set a (some (.ol qq kys))).set b (some (.fz u' d))) (.ol p2 (ats2.set i (.fz (.ref qq) .hl)) :: held) := by
                  rw [← q2', ← eys]
                  refine ⟨c6.s, ⟨c6.r.sl, c6.r.len, c6.r.at_, fun k hk' => ?_⟩, c6.g⟩
                  rcases List.mem_cons.mp hk' with k' | k'
                  · subst k'; exact ⟨List.mem_cons_self, va⟩
                  · exact ⟨List.mem_cons_of_mem _ (c6.r.pin k k').1, (c6.r.pin k k').2⟩
                refine hb _ F2 _ _ e7 _ _ _ c7 ?_
                cases q3 : mb e7 with
                | st => rw [q3] at qi; cases qi
                | ex _ _ => rw [q3] at qi; cases qi
                | ok f e8 =>
                  rw [q3] at qi
                  cases f with
                  | bk => cases qi
                  | ct => cases qi
                  | rt _ => cases qi
                  | nx =>
                    simp only at qi
                    intro σ5 F5 H5 as5 s5 c8
                    cases q4 : outZ a e2.pn e8 with
                    | none => rw [q4] at qi; cases qi
                    | some pr =>
                      obtain ⟨zs, e9⟩ := pr
                      rw [q4] at qi
                      simp only at qi
                      unfold outZ at q4
                      by_cases hpn : e8.pn = a :: e2.pn
                      · rw [if_pos hpn] at q4
                        cases z8 : e8.sl[a]? with
                        | none => rw [z8] at q4; cases q4
                        | some o => cases o with
                          | none => rw [z8] at q4; cases q4
                          | some s8 => cases s8 with
                            | fz _ => rw [z8] at q4; cases q4
                            | oo _ _ _ => rw [z8] at q4; cases q4
                            | od _ _ => rw [z8] at q4; cases q4
                            | ol zs' =>
                              rw [z8] at q4
                              cases q4
                              have hkl : i < ats2.length := (List.getElem?_eq_some_iff.mp hk).1
                              obtain ⟨ys9, e10, c9⟩ := c8.closeK (i := i) (by rw [List.getElem?_set_self hkl]) z8 hpn (fun k hk' => (c3.r.pin k hk').1)
                              rw [List.set_set] at c9
                              refine ⟨F5, _, _, ats2.set i (.ol qq ys9), s2.trans s5, c9, ?_⟩
                              have e11 : ers (ats2.set i (.ol qq ys9)) = (ers ats2).set i (.ol zs) := by
                                rw [ers_eq, ers_eq, List.map_set, ← e10]; rfl
                              rw [e11]
                              exact qi
                      · rw [if_neg hpn] at q4; cases q4
              · rw [if_neg hz] at q2; cases q2
      · refine .inl ⟨⟨vals ats2, vs, SqL.of c3.lstAt, sql s2 c3.s, .inr (by omega)⟩, done ?_⟩
        rw [List.drop_eq_nil_of_le (by omega)] at qi
        unfold loopZ at qi
        have qi' : R.ok (ers ats2) e2 = R.ok ysF eF := qi
        cases qi'
        exact ⟨rfl, rfl⟩
    · rw [if_neg hc] at w1; exact w1.elim
  | _ => simp only at w1; exact w1.elim
end
section
variable {X : Cx} {E : XS} {pos : Pos}
theorem s_setCompO {L : List Nat} {tg it : Expr} {mi : M (List D)} {g : Tg} {me : M RV} {i : Nat} {y : Str} {py spos : Pos} {elt : Expr} {ifs : List Expr} {scope sc : Scope} {own : List (Str × Nat)} {mt : M Bool} (hc : X.calm = true) (hN : X.N.Nodup) (hy : X.N[i]? = some y) (hyl : X.env.scope.names.lookup y = some .local)
    (hsw : swapsWith (.ListComp elt [⟨tg, it, ifs, 0⟩] scope pos) (some (.Name y py)) spos.line X.env = pure true) (hsc : X.env.scope = sc) (ok : BlkOk X.N sc scope own) (hL : ∀ i ∈ L, i ∈ own.map (·.2)) (hi : VI X E tg it mi)
    (hg : ∀ (s : Shared) (H : Hp) (C : Addr) (cl : List (Str × Addr)) (fp : List Addr), VG (X.blk s H scope (compEnvC scope cl C X.env) fp) L tg g) (ht : ∀ (s : Shared) (H : Hp) (C : Addr) (cl : List (Str × Addr)) (fp : List Addr), VTs (X.blk s H scope (compEnvC scope cl C X.env) fp) E0 ifs mt)
    (he : ∀ (s : Shared) (H : Hp) (C : Addr) (cl : List (Str × Addr)) (fp : List Addr), VE (X.blk s H scope (compEnvC scope cl C X.env) fp) E0 elt me) (hs : ∀ x, foldedSetIterable it X.env x = pure x := by intro _; rfl) :
    VS X E (.Assign [.Name y py] (.ListComp elt [⟨tg, it, ifs, 0⟩] scope pos) spos) (dSet i (dCompO (own.map (·.2)) mi g mt me)) := by
  subst hsc
  obtain ⟨t, p, s⟩ := hi
  exact .mk (ps_setLc (g := wG X.K X.mg L g) (tt := wT X.K X.mg E0 mt) (te := wE X.K X.mg E0 me) hc hN hy hyl hsw p ok hg ht he hs) (ss_set (se_compO s sg_w hL st_w se_w))
theorem s_forZ {j a b k : Nat} {y xa xb : Str} {e : Expr} {me : M RV} {mb : M Fl} {body : List Stmt} {p p1 p2 pa pb tp : Pos} (hp : PassesOwn (model X.prog X.w) X.A X.env X.xe) (hc : X.calm = true) (hg : Gl X "zip") (hm : X.mg "zip" = none) (hN : X.N[j]? = some y) (hv : Vis X.env.scope y) (he : VE X E e me) (nd : X.N.Nodup)
    (ha : X.N[a]? = some xa) (hxa : Loc X.env.scope xa) (hb' : X.N[b]? = some xb) (hxb : Loc X.env.scope xb) (hb : VB X E body mb)
    (hz : ∀ {t : TA}, L2.PA X [.Name y p1, e] t → PI X (.Tuple [.Name xa pa, .Name xb pb] k tp) (.Call (.Name "zip" p) [.Name y p1, e] [] p2) (iZip X.K t))
    (h1 : starEach [.Name y p1, e] X.env = (false, eval (.Name y p1) X.env) :: starEach [e] X.env := by rfl) (h2 : starEach [e] X.env = (false, eval e X.env) :: starEach [] X.env := by rfl)
    (fa : X.fn xa = true ∨ X.env.scope.names.lookup xa = some .local := by first | exact .inl rfl | exact .inr rfl | assumption) (fb : X.fn xb = true ∨ X.env.scope.names.lookup xb = some .local := by first | exact .inl rfl | exact .inr rfl | assumption)
    (n1 : (assignEach [.Name xa pa, .Name xb pb] X.env).map (·.2) = assign (.Name xa pa) X.env :: (assignEach [.Name xb pb] X.env).map (·.2) := by rfl) (n2 : (assignEach [.Name xb pb] X.env).map (·.2) = assign (.Name xb pb) X.env :: (assignEach [] X.env).map (·.2) := by rfl)
    (hn : (assignEach [.Name xa pa, .Name xb pb] X.env).length = 2 := by rfl) (hst : (assignEach [.Name xa pa, .Name xb pb] X.env).findIdx? (·.1) = none := by rfl)
    (hs : ∀ x, foldedSetIterable (.Call (.Name "zip" p) [.Name y p1, e] [] p2) X.env x = pure x := by intro _; rfl) (hd : (y == ("__debug__" : Str)) = false := by decide) (hcd : (y == ("__classdict__" : Str)) = false := by decide) :
    VS X E (.For (.Tuple [.Name xa pa, .Name xb pb] k tp) (.Call (.Name "zip" p) [.Name y p1, e] [] p2) body [] pos) (dForZ j a b me mb) :=
  .mk (ps_for hp hc (hz (pa_cons (pe_var hN hv hd hcd) (pa_cons he pa_nil h2) h1)) (pg_tup hc (pgs_cons (pg_name nd ha hxa fa) (pgs_cons (pg_name nd hb' hxb fb) pgs_nil n2) n1) hn hst) hb hs) (ss_forZ se_w ss_w)
end
end VF
set_option maxRecDepth 100000
set_option maxHeartbeats 4000000
namespace VF
set_option autoImplicit false
open PySem L2
@[simp] theorem bind_ok {α β : Type} (a : α) (e : Env) (f : α → M β) : (R.ok a e).bind f = f a e := (rfl)
@[simp] theorem bind_st {α β : Type} (f : α → M β) : (R.st : R α).bind f = .st := (rfl)
@[simp] theorem mbind {α β : Type} (m : M α) (f : α → M β) (e : Env) : (m.bind f) e = (m e).bind f := (rfl)
@[simp] theorem ev_c (d : D) (e : Env) : dC d e = .ok (.fz d) e := (rfl)
def varR (i : Nat) (e : Env) : Option (Option SV) → R RV
  | some (some (.fz d)) => .ok (.fz d) e
  | some (some _) => .ok (.var i) e
  | _ => .st
@[simp] theorem ev_var (i : Nat) (l : List (Option SV)) (p : List Nat) : dVar i ⟨l, p⟩ = varR i ⟨l, p⟩ l[i]? := (rfl)
@[simp] theorem varR_fz (i : Nat) (e : Env) (d : D) : varR i e (some (some (.fz d))) = .ok (.fz d) e := (rfl)
@[simp] theorem varR_ol (i : Nat) (e : Env) (xs : List SV) : varR i e (some (some (.ol xs))) = .ok (.var i) e := (rfl)
@[simp] theorem ev_nil (e : Env) : dNil e = .ok [] e := (rfl)
@[simp] theorem ev_next (e : Env) : dNext e = .ok .nx e := (rfl)
@[simp] theorem ev_yes (e : Env) : dYes e = .ok true e := (rfl)
@[simp] theorem ev_cons (a : M RV) (b : M (List RV)) (e : Env) : dCons a b e = (a e).bind fun r e => (b e).bind fun rs e => .ok (r :: rs) e := (rfl)
@[simp] theorem view_fz (e : Env) (d : D) : view e (.fz d) = some d := (rfl)
@[simp] theorem view_own (e : Env) (s : SV) : view e (.own s) = some s.toD := (rfl)
@[simp] theorem view_var (i : Nat) (l : List (Option SV)) (p : List Nat) : view ⟨l, p⟩ (.var i) = (match l[i]? with
  | some (some s) => some s.toD
  | _ => none) := (rfl)
@[simp] theorem setS_mk (i : Nat) (l : List (Option SV)) (p : List Nat) (s : SV) : Env.setS ⟨l, p⟩ i s = ⟨l.set i (some s), p⟩ := (rfl)
@[simp] theorem clr_mk (i : Nat) (l : List (Option SV)) (p : List Nat) : Env.clr ⟨l, p⟩ i = ⟨l.set i none, p⟩ := (rfl)
def fzs (ds : List D) : List SV := ds.map .fz
def iDs (L : List Int) : List D := L.map .int
@[simp] theorem fzs_nil : fzs [] = [] := (rfl)
@[simp] theorem iDs_nil : iDs [] = [] := (rfl)
@[simp] theorem fzs_len (ds : List D) : (fzs ds).length = ds.length := by simp [fzs]
@[simp] theorem iDs_len (L : List Int) : (iDs L).length = L.length := by simp [iDs]
@[simp] theorem fzs_get (ds : List D) (i : Nat) : (fzs ds)[i]? = (ds[i]?).map .fz := by simp [fzs]
@[simp] theorem iDs_get (L : List Int) (i : Nat) : (iDs L)[i]? = (L[i]?).map .int := by simp [iDs]
@[simp] theorem fzs_snoc (ds : List D) (d : D) : fzs ds ++ [.fz d] = fzs (ds ++ [d]) := by simp [fzs]
@[simp] theorem iDs_snoc (L : List Int) (d : Int) : iDs L ++ [.int d] = iDs (L ++ [d]) := by simp [iDs]
@[simp] theorem fzs_set (ds : List D) (d : D) (i : Nat) : (fzs ds).set i (.fz d) = fzs (ds.set i d) := by simp [fzs, List.map_set]
@[simp] theorem iDs_set (L : List Int) (d : Int) (i : Nat) : (iDs L).set i (.int d) = iDs (L.set i d) := by simp [iDs, List.map_set]
@[simp] theorem fzs_erase (ds : List D) (i : Nat) : (fzs ds).eraseIdx i = fzs (ds.eraseIdx i) := (map_erase _ _ _).symm
@[simp] theorem iDs_erase (L : List Int) (i : Nat) : (iDs L).eraseIdx i = iDs (L.eraseIdx i) := (map_erase _ _ _).symm
@[simp] theorem intsOf_iDs (L : List Int) : intsOf (iDs L) = some L := intsOf_map L
@[simp] theorem toDs_map (ds : List D) : SV.toDs (fzs ds) = ds := by
  unfold fzs
  induction ds with
  | nil => rfl
  | cons d ds ih => show d :: SV.toDs (ds.map .fz) = _; rw [ih]
@[simp] theorem toD_fz (d : D) : SV.toD (.fz d) = d := (rfl)
@[simp] theorem toD_ol (ds : List D) : SV.toD (.ol (fzs ds)) = .lst ds := by show D.lst _ = _; rw [toDs_map]
@[simp] theorem toD_cons (x : SV) (xs : List SV) : SV.toD (.ol (x :: xs)) = .lst (x.toD :: SV.toDs xs) := (rfl)
@[simp] theorem toDs_cons (x : SV) (xs : List SV) : SV.toDs (x :: xs) = x.toD :: SV.toDs xs := (rfl)
@[simp] theorem toDs_nil : SV.toDs [] = [] := (rfl)
@[simp] theorem toD_nil : SV.toD (.ol []) = .lst [] := (rfl)
@[simp] theorem frz_fz (d : D) (e : Env) : frzR (.fz d) e = some (d, e) := (rfl)
@[simp] theorem frz_own (s : SV) (e : Env) : frzR (.own s) e = some (s.toD, e) := (rfl)
@[simp] theorem frz_var (i : Nat) (l : List (Option SV)) (p : List Nat) : frzR (.var i) ⟨l, p⟩ = (match l[i]? with
  | some (some s) => some (s.toD, ⟨l.set i (some (.fz s.toD)), p⟩)
  | _ => none) := (rfl)
@[simp] theorem frzs_nil (e : Env) : frzRs [] e = some ([], e) := (rfl)
@[simp] theorem frzs_cons (r : RV) (rs : List RV) (e : Env) : frzRs (r :: rs) e = (match frzR r e with
    | some (d, e1) => (match frzRs rs e1 with
      | some (ds, e2) => some (d :: ds, e2)
      | none => none)
    | none => none) := (rfl)
@[simp] theorem ev_op (f : D → D → Option D) (a b : M RV) (e : Env) : dOp f a b e = (a e).bind fun r e => (b e).bind fun q e => match view e r, view e q with
  | some x, some y => (match f x y with
    | some d => .ok (.fz d) e
    | none => .st)
  | _, _ => .st := (rfl)
@[simp] theorem ev_cb (f : List D → Option D) (a : M (List RV)) (e : Env) : dCB f a e = (a e).bind fun rs e => match rs.mapM (view e) with
  | some xs => (match f xs with
    | some d => .ok (.fz d) e
    | none => .st)
  | none => .st := (rfl)
@[simp] theorem ev_t (a : M RV) (e : Env) : dT a e = (a e).bind fun r e => match view e r with
  | some (.bl b) => .ok b e
  | _ => .st := (rfl)
@[simp] theorem ev_tru (a : M RV) (e : Env) : dTru a e = (a e).bind fun r e => match (view e r).bind truD with
  | some b => .ok b e
  | none => .st := (rfl)
@[simp] theorem ev_and (a b : M Bool) (e : Env) : dAnd a b e = (a e).bind fun c e => match c with
  | true => b e
  | false => .ok false e := by unfold dAnd M.bind; cases a e <;> (try rfl); rename_i c e; cases c <;> rfl
@[simp] theorem ev_or (a b : M Bool) (e : Env) : dOr a b e = (a e).bind fun c e => match c with
  | true => .ok true e
  | false => b e := by unfold dOr M.bind; cases a e <;> (try rfl); rename_i c e; cases c <;> rfl
@[simp] theorem ev_not (a : M Bool) (e : Env) : dNot a e = (a e).bind fun c e => .ok (!c) e := (rfl)
@[simp] theorem ev_if (c : M Bool) (a b : M Fl) (e : Env) : dIf c a b e = (c e).bind fun k e => match k with
  | true => a e
  | false => b e := by unfold dIf M.bind; cases c e <;> (try rfl); rename_i c e; cases c <;> rfl
@[simp] theorem ev_seq (a b : M Fl) (e : Env) : dSeq a b e = (a e).bind fun f e => match f with
  | .nx => b e
  | f => .ok f e := by unfold dSeq M.bind; cases a e <;> (try rfl); rename_i c e; cases c <;> rfl
@[simp] theorem ev_ret (a : M RV) (e : Env) : dRet a e = (a e).bind fun r e => .ok (.rt r) e := (rfl)
@[simp] theorem ev_drop (a : M RV) (e : Env) : dDrop a e = (a e).bind fun _ e => .ok .nx e := (rfl)
@[simp] theorem ev_set (i : Nat) (a : M RV) (e : Env) : dSet i a e = (a e).bind fun r e => match putR i r e with
  | some e' => .ok .nx e'
  | none => .st := (rfl)
@[simp] theorem put_fz (i : Nat) (d : D) (l : List (Option SV)) (p : List Nat) : putR i (.fz d) ⟨l, p⟩ = if i ∈ p then none else some ⟨l.set i (some (.fz d)), p⟩ := (rfl)
@[simp] theorem put_own (i : Nat) (s : SV) (l : List (Option SV)) (p : List Nat) : putR i (.own s) ⟨l, p⟩ = if i ∈ p then none else some ⟨l.set i (some s), p⟩ := (rfl)
@[simp] theorem put_var (i j : Nat) (l : List (Option SV)) (p : List Nat) : putR i (.var j) ⟨l, p⟩ = if i ∈ p then none else (match l[j]? with
    | some (some s) => some ⟨(l.set j (some (.fz s.toD))).set i (some (.fz s.toD)), p⟩
    | _ => none) := (rfl)
@[simp] theorem ev_ix (a b : M RV) (e : Env) : dIx a b e = (a e).bind fun r e => (b e).bind fun q e => match view e q with
  | some (.int i) => (match itemR e r i with
    | some d => .ok (.fz d) e
    | none => .st)
  | _ => .st := (rfl)
@[simp] theorem item_fz (e : Env) (d : D) (i : Int) : itemR e (.fz d) i = itemD d i := (rfl)
@[simp] theorem item_own (e : Env) (s : SV) (i : Int) : itemR e (.own s) i = itemS s i := (rfl)
@[simp] theorem item_var (j : Nat) (i : Int) (l : List (Option SV)) (p : List Nat) : itemR ⟨l, p⟩ (.var j) i = (match l[j]? with
    | some (some s) => itemS s i
    | _ => none) := (rfl)
@[simp] theorem itemS_fz (d : D) (i : Int) : itemS (.fz d) i = itemD d i := (rfl)
@[simp] theorem itemS_ol (xs : List SV) (i : Int) : itemS (.ol xs) i = kid xs i := (rfl)
@[simp] theorem itemD_lst (ds : List D) (i : Int) : itemD (.lst ds) i = atI ds i := (rfl)
@[simp] theorem itemD_tup (ds : List D) (i : Int) : itemD (.tup ds) i = atI ds i := (rfl)
@[simp] theorem kid_map (ds : List D) (i : Int) : kid (fzs ds) i = atI ds i := by
  unfold kid fzs
  rw [atI_map]
  cases atI ds i <;> rfl
@[simp] theorem fI_int (g : Int → Int → Int) (i j : Int) : fI g (.int i) (.int j) = some (.int (g i j)) := (rfl)
@[simp] theorem fB_int (g : Int → Int → Bool) (i j : Int) : fB g (.int i) (.int j) = some (.bl (g i j)) := (rfl)
@[simp] theorem fMul_int (i j : Int) : fMul (.int i) (.int j) = if (inB i 64 || inB j 64) = true then some (.int (i * j)) else none := (rfl)
@[simp] theorem fMod_int (i j : Int) : fMod (.int i) (.int j) = if 0 < j then some (.int (i % j)) else none := (rfl)
@[simp] theorem fDiv_int (i j : Int) : fDiv (.int i) (.int j) = if 0 < j ∧ j < 1073741824 then some (.int (i / j)) else none := (rfl)
@[simp] theorem lenD_lst (ds : List D) : lenD [.lst ds] = some (.int (ds.length : Nat)) := (rfl)
@[simp] theorem lenD_scr (ds : List Int) : lenD [.scr ds] = some (.int (ds.length : Nat)) := (rfl)
@[simp] theorem intD_int (i : Int) : intD [.int i] = some (.int i) := (rfl)
@[simp] theorem ev_setIx (j : Nat) (b a : M RV) (e : Env) : dSetIx j b a e = (a e).bind fun r e0 => match e0.sl[j]? with
  | some (some (.ol _)) => (b e0).bind fun q e => match view e q with
    | some (.int k) => (match frzR r e with
      | some (d, e1) => (match e1.sl[j]? with
        | some (some (.ol xs)) => (match ixN xs.length k with
          | some n => .ok .nx (e1.setS j (.ol (xs.set n (.fz d))))
          | none => .st)
        | _ => .st)
      | none => .st)
    | _ => .st
  | _ => .st := (rfl)
@[simp] theorem ev_app (i : Nat) (a : M RV) (e0 : Env) : dApp i a e0 = match e0.sl[i]? with
  | some (some (.ol _)) => (a e0).bind fun r e => match frzR r e with
    | some (d, e1) => (match e1.sl[i]? with
      | some (some (.ol xs)) => if xs.length < sizeLine then .ok (.fz .non) (e1.setS i (.ol (xs ++ [.fz d]))) else .st
      | _ => .st)
    | none => .st
  | _ => .st := (rfl)
theorem run_fn0 {md : List Bool} {n : Nat} {m : M Fl} {ss ss' : List SV} {f : Fl} {e e1 : Env} {r : SV} (ha : okArgs md ss = true) (h : m (env0 md n ss) = .ok f e) (hr : resOf f e = some (r, e1)) (ho : outs 0 md ss e1 = some ss') : mkFn0 md n m ss = .ok r ss' := by
  unfold mkFn0 mkFn
  rw [if_pos ha, h]
  simp only [hr, ho]
@[simp] theorem atI_nonneg {α : Type} (xs : List α) (i : Int) (h : 0 ≤ i) : atI xs i = xs[i.toNat]? := by
  unfold atI ixN
  rw [if_pos h]
  by_cases h2 : i < xs.length
  · rw [if_pos h2]; rfl
  · rw [if_neg h2]
    exact (List.getElem?_eq_none (by omega)).symm
@[simp] theorem ixN_ok {n : Nat} {k : Int} (h0 : 0 ≤ k) (h1 : k < n) : ixN n k = some k.toNat := by
  unfold ixN
  rw [if_pos h0, if_pos h1]
def fzOf : Option SV → Option D
  | some (.fz d) => some d
  | _ => none
@[simp] theorem fzOf_fz (d : D) : fzOf (some (.fz d)) = some d := (rfl)
@[simp] theorem fzOf_none : fzOf none = none := (rfl)
theorem kid_at (xs : List SV) (i : Int) : kid xs i = fzOf (atI xs i) := by
  unfold kid
  cases atI xs i with
  | none => rfl
  | some s => cases s <;> rfl
@[simp] theorem kid_cons (x : SV) (xs : List SV) (i : Int) (h : 0 ≤ i) : kid (x :: xs) i = fzOf (x :: xs)[i.toNat]? := by rw [kid_at, atI_nonneg _ _ h]
@[simp] theorem out_nil (i : Nat) (e : Env) : outs i [] [] e = some [] := (rfl)
@[simp] theorem out_false (i : Nat) (l : List Bool) (s : SV) (ss : List SV) (e : Env) : outs i (false :: l) (s :: ss) e = (match outs (i + 1) l ss e with
    | some r => some (s :: r)
    | none => none) := (rfl)
@[simp] theorem out_true (i : Nat) (l : List Bool) (s : SV) (ss : List SV) (l2 : List (Option SV)) (p : List Nat) : outs i (true :: l) (s :: ss) ⟨l2, p⟩ = (match l2[i]? with
    | some (some s) => (match outs (i + 1) l ss ⟨l2.set i none, p⟩ with
      | some r => some (s :: r)
      | none => none)
    | _ => none) := (rfl)
@[simp] theorem res_fz (d : D) (e : Env) : resOf (.rt (.fz d)) e = some (.fz d, e) := (rfl)
@[simp] theorem res_nx (e : Env) : resOf .nx e = some (.fz .non, e) := (rfl)
@[simp] theorem res_own (s : SV) (e : Env) : resOf (.rt (.own s)) e = some (s, e) := (rfl)
@[simp] theorem res_var (i : Nat) (l : List (Option SV)) (p : List Nat) : resOf (.rt (.var i)) ⟨l, p⟩ = (match l[i]? with
    | some (some s) => if i ∈ p then some (.fz s.toD, ⟨l.set i (some (.fz s.toD)), p⟩) else some (s, ⟨l.set i none, p⟩)
    | _ => none) := (rfl)
def d__law_draw : M Fl := (dSeq (dSet 2 (dIx (dVar 0) (dC (.int 1))))
  (dSeq (dSetIx 0 (dC (.int 1)) (dOp (fI (· + ·)) (dVar 2) (dC (.int 1))))
  (dSeq (dIf (dT (dOp (fB fun i j => decide (i < j)) (dVar 2) (dCB lenD (dCons (dIx (dVar 0) (dC (.int 0))) dNil)))) (dRet (dOp fMod (dCB intD (dCons (dIx (dIx (dVar 0) (dC (.int 0))) (dVar 2)) dNil)) (dVar 1))) dNext)
  (dRet (dC (.int 0))))))
def drawV (ds : List Int) (at_ : Nat) (many : Int) : Int := match ds[at_]? with
  | some d => d % many
  | none => 0
def box (ds : List Int) (at_ : Nat) : SV := .ol [.fz (.lst (iDs ds)), .fz (.int at_)]
theorem draw_ok (ds : List Int) (at_ : Nat) (many : Int) (hm : 0 < many) : mkFn0 [true, false] 3 d__law_draw [box ds at_, .fz (.int many)] = .ok (.fz (.int (drawV ds at_ many))) [box ds (at_ + 1), .fz (.int many)] := by
  cases h : ds[at_]? with
  | some d =>
    have h1 : (at_ : Int) < ds.length := by have := (List.getElem?_eq_some_iff.mp h).1; omega
    simp [mkFn0, mkFn, okArgs, env0, pinIx, d__law_draw, box, List.replicate, h, h1, hm, drawV]
  | none =>
    have h1 : ¬ (at_ : Int) < ds.length := by have := List.getElem?_eq_none_iff.mp h; omega
    simp [mkFn0, mkFn, okArgs, env0, pinIx, d__law_draw, box, List.replicate, h, h1, hm, drawV]
end VF
set_option maxRecDepth 100000
set_option maxHeartbeats 4000000
namespace VF
set_option autoImplicit false
open PySem L2
theorem loopF_inv {g : Tg} {body : M Fl} (P : Nat → Env → Prop) : ∀ (ds : List D) (k : Nat) (e : Env), P k e → (∀ (i : Nat) d e, ds[i]? = some d → P (k + i) e → ∃ e1 e2, g d e = some e1 ∧ (body e1 = .ok .nx e2 ∨ body e1 = .ok .ct e2) ∧ P (k + i + 1) e2) → ∃ e', loopF g body ds e = .ok .nx e' ∧ P (k + ds.length) e'
  | [], k, e, h0, _ => ⟨e, rfl, h0⟩
  | d :: ds, k, e, h0, hs => by
    obtain ⟨e1, e2, h1, h2, h3⟩ := hs 0 d e rfl h0
    obtain ⟨e', h4, h5⟩ := loopF_inv P ds (k + 1) e2 h3 fun i d' e' hd hp => by
      have := hs (i + 1) d' e' (by simpa using hd) (by rw [show k + (i + 1) = k + 1 + i by omega]; exact hp)
      rw [show k + (i + 1) + 1 = k + 1 + i + 1 by omega] at this
      exact this
    refine ⟨e', ?_, by rw [List.length_cons, show k + (ds.length + 1) = k + 1 + ds.length by omega]; exact h5⟩
    show (match g d e with
      | none => R.st
      | some e1 => (match body e1 with
        | .ok .nx e2 => loopF g body ds e2
        | .ok .ct e2 => loopF g body ds e2
        | .ok .bk e2 => .ok .nx e2
        | .ok (.rt r) e2 => .ok (.rt r) e2
        | .ex x e2 => .ex x e2
        | .st => .st)) = _
    rw [h1]
    rcases h2 with h2 | h2 <;> (simp only [h2]; exact h4)
theorem loopF_inv0 {g : Tg} {body : M Fl} (P : Nat → Env → Prop) (ds : List D) (e : Env) (h0 : P 0 e) (hs : ∀ (i : Nat) d e, ds[i]? = some d → P i e → ∃ e1 e2, g d e = some e1 ∧ (body e1 = .ok .nx e2 ∨ body e1 = .ok .ct e2) ∧ P (i + 1) e2) : ∃ e', loopF g body ds e = .ok .nx e' ∧ P ds.length e' := by
  have := loopF_inv (g := g) (body := body) P ds 0 e h0 fun i d e hd hp => by
    rw [Nat.zero_add] at hp ⊢
    exact hs i d e hd hp
  rwa [Nat.zero_add] at this
@[simp] theorem ev_it (a : M RV) (e : Env) : dIt a e = (a e).bind fun r e => match frzR r e with
  | some (d, e1) => (match walk d with
    | some ds => .ok ds e1
    | none => .st)
  | none => .st := (rfl)
@[simp] theorem walk_lst (ds : List D) : walk (.lst ds) = some ds := (rfl)
@[simp] theorem ev_rng1 (a : M (List RV)) (e : Env) : dRng1 a e = (a e).bind fun rs e => match rs.mapM (view e) with
  | some ds => (match oneI ds with
    | some j => if small62 j = true then .ok (rngD 0 j.toNat) e else .st
    | none => .st)
  | none => .st := (rfl)
@[simp] theorem ev_rng2 (a : M (List RV)) (e : Env) : dRng2 a e = (a e).bind fun rs e => match rs.mapM (view e) with
  | some ds => (match twoI ds with
    | some (i, j) => if (small62 i && small62 j) = true then .ok (rngD i (j - i).toNat) e else .st
    | none => .st)
  | none => .st := (rfl)
@[simp] theorem oneI_int (i : Int) : oneI [.int i] = some i := (rfl)
@[simp] theorem twoI_int (i j : Int) : twoI [.int i, .int j] = some (i, j) := (rfl)
@[simp] theorem small62_def (i : Int) : small62 i = decide (-(2 ^ 62) ≤ i ∧ i < 2 ^ 62) := (rfl)
@[simp] theorem inB_def (i : Int) (k : Nat) : inB i k = decide (-(2 ^ k) < i ∧ i < 2 ^ k) := (rfl)
@[simp] theorem gN_def (i : Nat) (d : D) (e : Env) : gN i d e = putR i (.fz d) e := (rfl)
@[simp] theorem ev_for (it : M (List D)) (g : Tg) (body : M Fl) (e : Env) : dFor it g body e = (it e).bind fun ds => loopF g body ds := (rfl)
@[simp] theorem ev_call (md : List Bool) (φ : Fn) (a : M (List RV)) (e : Env) : dCall md φ a e = (a e).bind fun rs e => match load md rs e with
  | some (ss, e1) => (match φ ss with
    | .st => .st
    | .ok r ss' => (match unload md rs ss' e1 with
      | some e2 => .ok (svR r) e2
      | none => .st)
    | .ex x ss' => (match unload md rs ss' e1 with
      | some e2 => .ex x e2
      | none => .st))
  | none => .st := (rfl)
@[simp] theorem ld_nil (e : Env) : load [] [] e = some ([], e) := (rfl)
@[simp] theorem ld_false (md : List Bool) (r : RV) (rs : List RV) (e : Env) : load (false :: md) (r :: rs) e = (match (match frzR r e with
    | some (d, e1) => some (SV.fz d, e1)
    | none => none) with
    | some (s, e1) => (match load md rs e1 with
      | some (ss, e2) => some (s :: ss, e2)
      | none => none)
    | none => none) := (rfl)
@[simp] theorem ld_true (md : List Bool) (i : Nat) (rs : List RV) (l : List (Option SV)) (p : List Nat) : load (true :: md) (.var i :: rs) ⟨l, p⟩ = (match (match l[i]? with
      | some (some s) => some (s, (⟨l.set i none, p⟩ : Env))
      | _ => none) with
    | some (s, e1) => (match load md rs e1 with
      | some (ss, e2) => some (s :: ss, e2)
      | none => none)
    | none => none) := (rfl)
@[simp] theorem ul_nil (e : Env) : unload [] [] [] e = some e := (rfl)
@[simp] theorem ul_false (md : List Bool) (r : RV) (rs : List RV) (s : SV) (ss : List SV) (e : Env) : unload (false :: md) (r :: rs) (s :: ss) e = unload md rs ss e := by cases r <;> rfl
@[simp] theorem ul_true (md : List Bool) (i : Nat) (rs : List RV) (s : SV) (ss : List SV) (e : Env) : unload (true :: md) (.var i :: rs) (s :: ss) e = if isClr e i = true then unload md rs ss (e.setS i s) else none := (rfl)
@[simp] theorem isClr_mk (l : List (Option SV)) (p : List Nat) (i : Nat) : isClr ⟨l, p⟩ i = (match l[i]? with
  | some none => true
  | _ => false) := (rfl)
@[simp] theorem svR_fz (d : D) : svR (.fz d) = .fz d := (rfl)
@[simp] theorem svR_ol (xs : List SV) : svR (.ol xs) = .own (.ol xs) := (rfl)
@[simp] theorem ev_callB (n : Nat) (φ : Fn) (a : M (List RV)) (e : Env) : dCallB n φ a e = (a e).bind fun rs e => match rs.mapM (view e) with
  | some ds => if ds.length = n then (match φ (ds.map .fz) with
    | .ok r _ => (match immS r with
      | some d => .ok (.fz d) e
      | none => .st)
    | .ex x _ => .ex x e
    | .st => .st) else .st
  | none => .st := (rfl)
@[simp] theorem immS_int (i : Int) : immS (.fz (.int i)) = some (.int i) := (rfl)
@[simp] theorem immS_bl (i : Bool) : immS (.fz (.bl i)) = some (.bl i) := (rfl)
@[simp] theorem immS_non : immS (.fz .non) = some .non := (rfl)
@[simp] theorem immS_str (s : Str) : immS (.fz (.str s)) = some (.str s) := (rfl)
@[simp] theorem ev_lst (a : M (List RV)) (e : Env) : dLst a e = (a e).bind fun rs e => match frzRs rs e with
  | some (ds, e') => if ds.length ≤ sizeLine then .ok (.own (.ol (fzs ds))) e' else .st
  | none => .st := (rfl)
@[simp] theorem size_pos : 0 ≤ sizeLine := Nat.zero_le _
theorem size_ge {n : Nat} (h : n ≤ 16777216) : n ≤ sizeLine := by rw [sizeLine_eq]; exact h
theorem size_gt {n : Nat} (h : n < 16777216) : n < sizeLine := by rw [sizeLine_eq]; exact h
def e18 : Int := 1000000000000000000
@[simp] theorem fPow_18 : fPow (.int 10) (.int 18) = some (.int e18) := by
  unfold fPow
  simp only
  rw [if_pos ⟨by decide, by decide, by decide⟩]
  rfl
@[simp] theorem blOf_bl (b : Bool) : blOf (.bl b) = some b := (rfl)
@[simp] theorem ev_chain (f g : D → D → Option D) (a b c : M RV) (e : Env) : dChain f g a b c e = (a e).bind fun r e => (b e).bind fun q e => match view e r, view e q with
  | some x, some y => (match (f x y).bind blOf with
    | some true => (c e).bind fun p e => (match view e q, view e p with
      | some y, some z => (match g y z with
        | some d => .ok (.fz d) e
        | none => .st)
      | _, _ => .st)
    | some false => .ok (.fz (.bl false)) e
    | none => .st)
  | _, _ => .st := (rfl)
def d__law_cell : M Fl := (dSeq (dIf (dT (dOp (fB fun i j => decide (i < j)) (dVar 1) (dCB lenD (dCons (dVar 0) dNil)))) (dRet (dIx (dVar 0) (dVar 1))) dNext)
  (dRet (dC (.int 0))))
def φ__law_cell : Fn := mkFn0 [false, false] 2 d__law_cell
@[simp] theorem itemD_scr (ns : List Int) (i : Int) : itemD (.scr ns) i = (atI ns i).map .int := (rfl)
theorem cell_ok (ns : List Int) (k : Nat) : ∃ c : Int, φ__law_cell [.fz (.scr ns), .fz (.int k)] = .ok (.fz (.int c)) [.fz (.scr ns), .fz (.int k)] := by
  cases h : ns[k]? with
  | some d =>
    have h1 : (k : Int) < ns.length := by have := (List.getElem?_eq_some_iff.mp h).1; omega
    exact ⟨d, by simp [φ__law_cell, mkFn0, mkFn, okArgs, env0, pinIx, d__law_cell, h, h1]⟩
  | none =>
    have h1 : ¬ (k : Int) < ns.length := by have := List.getElem?_eq_none_iff.mp h; omega
    exact ⟨0, by simp [φ__law_cell, mkFn0, mkFn, okArgs, env0, pinIx, d__law_cell, h, h1]⟩
def d__law_digits : M Fl := (dSeq (dSet 3 (dLst dNil))
  (dSeq (dFor (dRng2 (dCons (dVar 1) (dCons (dVar 2) dNil))) (gN 4) (dSeq (dSet 5 (dCall [false, false] φ__law_cell (dCons (dVar 0) (dCons (dVar 4) dNil))))
  (dSeq (dIf (dT (dOp (fB fun i j => decide (i < j)) (dVar 5) (dC (.int 0)))) (dSet 5 (dOp (fI (· - ·)) (dC (.int 1)) (dOp fMul (dC (.int 2)) (dVar 5)))) dNext)
  (dIf (dT (dOp (fB fun i j => decide (j ≤ i)) (dVar 5) (dOp fPow (dC (.int 10)) (dC (.int 18))))) (dFor (dRng1 (dCons (dC (.int 60)) dNil)) (gN 6) (dIf (dT (dOp (fB fun i j => decide (j < i)) (dVar 5) (dC (.int 0)))) (dSeq (dDrop (dApp 3 (dOp fMod (dCB intD (dCons (dVar 5) dNil)) (dC (.int 1000)))))
  (dSet 5 (dOp fDiv (dVar 5) (dC (.int 1000))))) dNext)) (dSeq (dSet 7 (dOp fMod (dCB intD (dCons (dOp (fI (· + ·)) (dOp (fI (· + ·)) (dOp fMul (dVar 5) (dC (.int 48271))) (dOp fMul (dVar 4) (dC (.int 69621)))) (dC (.int 11))) dNil)) (dC (.int 2147483647))))
  (dFor (dRng1 (dCons (dC (.int 12)) dNil)) (gN 6) (dSeq (dSet 7 (dOp fMod (dCB intD (dCons (dOp (fI (· + ·)) (dOp (fI (· + ·)) (dOp fMul (dVar 7) (dC (.int 16807))) (dOp fMul (dC (.int 7)) (dVar 6))) (dC (.int 1))) dNil)) (dC (.int 2147483647))))
  (dDrop (dApp 3 (dOp fMod (dCB intD (dCons (dOp fDiv (dVar 7) (dC (.int 997))) dNil)) (dC (.int 1000))))))))))))
  (dRet (dVar 3))))
def φ__law_digits : Fn := mkFn0 [false, false, false] 8 d__law_digits
theorem rng_at {lo : Int} {n i : Nat} {d : D} (h : (rngD lo n)[i]? = some d) : i < n ∧ d = .int (lo + i) := by
  unfold rngD at h
  rw [List.getElem?_map] at h
  cases q : (List.range n)[i]? with
  | none => rw [q] at h; cases h
  | some j =>
    rw [q] at h
    cases h
    have hlt : i < n := by simpa using (List.getElem?_eq_some_iff.mp q).1
    rw [List.getElem?_range hlt] at q
    cases q
    exact ⟨hlt, rfl⟩
@[simp] theorem rng_len (lo : Int) (n : Nat) : (rngD lo n).length = n := by simp [rngD]
def DgP (ns : List Int) (b : Nat) (e : Env) : Prop := ∃ (L : List Int) (v4 v5 v6 v7 : Option SV), L.length ≤ b ∧ e = ⟨[some (.fz (.scr ns)), some (.fz (.int 0)), some (.fz (.int 63)), some (.ol (fzs (iDs L))), v4, v5, v6, v7], []⟩
def dg1 : M Fl := dIf (dT (dOp (fB fun i j => decide (j < i)) (dVar 5) (dC (.int 0)))) (dSeq (dDrop (dApp 3 (dOp fMod (dCB intD (dCons (dVar 5) dNil)) (dC (.int 1000)))))
  (dSet 5 (dOp fDiv (dVar 5) (dC (.int 1000))))) dNext
theorem dg1_ok (ns : List Int) (b : Nat) (hb : b ≤ 10000) (L : List Int) (c : Int) (v4 v6 v7 : Option SV) (hL : L.length ≤ b) : ∃ e', loopF (gN 6) dg1 (rngD 0 60) ⟨[some (.fz (.scr ns)), some (.fz (.int 0)), some (.fz (.int 63)), some (.ol (fzs (iDs L))), v4, some (.fz (.int c)), v6, v7], []⟩ = .ok .nx e' ∧ DgP ns (b + 60) e' := by
  have h := loopF_inv0 (g := gN 6) (body := dg1) (fun i e => ∃ (L : List Int) (c : Int) (v6 : Option SV), L.length ≤ b + i ∧ e = ⟨[some (.fz (.scr ns)), some (.fz (.int 0)), some (.fz (.int 63)), some (.ol (fzs (iDs L))), v4, some (.fz (.int c)), v6, v7], []⟩) (rngD 0 60) _ ⟨L, c, v6, hL, rfl⟩ (by
    rintro i d e hd ⟨L, c, v6, hL, rfl⟩
    obtain ⟨hi, rfl⟩ := rng_at hd
    have hz : L.length < sizeLine := size_gt (by omega)
    by_cases hc : 0 < c
    · refine ⟨_, ⟨[some (.fz (.scr ns)), some (.fz (.int 0)), some (.fz (.int 63)), some (.ol (fzs (iDs (L ++ [c % 1000])))), v4, some (.fz (.int (c / 1000))), some (.fz (.int (0 + (i : Nat)))), v7], []⟩, rfl, .inl ?_, L ++ [c % 1000], c / 1000, _, by simp; omega, rfl⟩
      simp [dg1, hc, hz]
    · refine ⟨_, ⟨[some (.fz (.scr ns)), some (.fz (.int 0)), some (.fz (.int 63)), some (.ol (fzs (iDs L))), v4, some (.fz (.int c)), some (.fz (.int (0 + (i : Nat)))), v7], []⟩, rfl, .inl ?_, L, c, _, by omega, rfl⟩
      simp [dg1, hc])
  obtain ⟨e', h1, L', c', v6', h2, rfl⟩ := h
  exact ⟨_, h1, L', v4, _, v6', v7, by simpa using h2, rfl⟩
def dg2 : M Fl := dSeq (dSet 7 (dOp fMod (dCB intD (dCons (dOp (fI (· + ·)) (dOp (fI (· + ·)) (dOp fMul (dVar 7) (dC (.int 16807))) (dOp fMul (dC (.int 7)) (dVar 6))) (dC (.int 1))) dNil)) (dC (.int 2147483647))))
  (dDrop (dApp 3 (dOp fMod (dCB intD (dCons (dOp fDiv (dVar 7) (dC (.int 997))) dNil)) (dC (.int 1000)))))
theorem dg2_ok (ns : List Int) (b : Nat) (hb : b ≤ 10000) (L : List Int) (c : Int) (v4 v5 v6 : Option SV) (hL : L.length ≤ b) : ∃ e', loopF (gN 6) dg2 (rngD 0 12) ⟨[some (.fz (.scr ns)), some (.fz (.int 0)), some (.fz (.int 63)), some (.ol (fzs (iDs L))), v4, v5, v6, some (.fz (.int c))], []⟩ = .ok .nx e' ∧ DgP ns (b + 60) e' := by
  have h := loopF_inv0 (g := gN 6) (body := dg2) (fun i e => ∃ (L : List Int) (c : Int) (v6 : Option SV), L.length ≤ b + i ∧ e = ⟨[some (.fz (.scr ns)), some (.fz (.int 0)), some (.fz (.int 63)), some (.ol (fzs (iDs L))), v4, v5, v6, some (.fz (.int c))], []⟩) (rngD 0 12) _ ⟨L, c, v6, hL, rfl⟩ (by
    rintro i d e hd ⟨L, c, v6, hL, rfl⟩
    obtain ⟨hi, rfl⟩ := rng_at hd
    have hz : L.length < sizeLine := size_gt (by omega)
    refine ⟨_, ⟨[some (.fz (.scr ns)), some (.fz (.int 0)), some (.fz (.int 63)), some (.ol (fzs (iDs (L ++ [((c * 16807 + 7 * (0 + (i : Nat)) + 1) % 2147483647) / 997 % 1000])))), v4, v5, some (.fz (.int (0 + (i : Nat)))), some (.fz (.int ((c * 16807 + 7 * (0 + (i : Nat)) + 1) % 2147483647)))], []⟩, rfl, .inl ?_, _, _, _, ?_, rfl⟩
    · simp [dg2, hz]
    · simp; omega)
  obtain ⟨e', h1, L', c', v6', h2, rfl⟩ := h
  exact ⟨_, h1, L', v4, v5, v6', _, by rw [rng_len] at h2; omega, rfl⟩
def dgT : M Fl := dIf (dT (dOp (fB fun i j => decide (j ≤ i)) (dVar 5) (dOp fPow (dC (.int 10)) (dC (.int 18))))) (dFor (dRng1 (dCons (dC (.int 60)) dNil)) (gN 6) dg1) (dSeq (dSet 7 (dOp fMod (dCB intD (dCons (dOp (fI (· + ·)) (dOp (fI (· + ·)) (dOp fMul (dVar 5) (dC (.int 48271))) (dOp fMul (dVar 4) (dC (.int 69621)))) (dC (.int 11))) dNil)) (dC (.int 2147483647))))
      (dFor (dRng1 (dCons (dC (.int 12)) dNil)) (gN 6) dg2))
theorem t5 (ns : List Int) (b i : Nat) (hb : b ≤ 10000) (L : List Int) (v6 v7 : Option SV) (hL : L.length ≤ b) (c : Int) (hx : e18 ≤ c) : ∃ e', dgT ⟨[some (.fz (.scr ns)), some (.fz (.int 0)), some (.fz (.int 63)), some (.ol (fzs (iDs L))), some (.fz (.int i)), some (.fz (.int c)), v6, v7], []⟩ = .ok .nx e' ∧ DgP ns (b + 60) e' := by
  obtain ⟨e', h1, h2⟩ := dg1_ok ns b hb L c (some (.fz (.int i))) v6 v7 hL
  refine ⟨e', ?_, h2⟩
  unfold dgT
  simp [hx, h1]
def dgS : M Fl := dSet 7 (dOp fMod (dCB intD (dCons (dOp (fI (· + ·)) (dOp (fI (· + ·)) (dOp fMul (dVar 5) (dC (.int 48271))) (dOp fMul (dVar 4) (dC (.int 69621)))) (dC (.int 11))) dNil)) (dC (.int 2147483647)))
theorem dgS_ok (x1 x2 x3 x4 v6 v7 : Option SV) (c i : Int) : ∃ s : Int, dgS ⟨[x1, x2, x3, x4, some (.fz (.int i)), some (.fz (.int c)), v6, v7], []⟩ = .ok .nx ⟨[x1, x2, x3, x4, some (.fz (.int i)), some (.fz (.int c)), v6, some (.fz (.int s))], []⟩ := by
  refine ⟨(c * 48271 + i * 69621 + 11) % 2147483647, ?_⟩
  simp [dgS]
theorem t6 (ns : List Int) (b i : Nat) (hb : b ≤ 10000) (L : List Int) (v6 v7 : Option SV) (hL : L.length ≤ b) (c : Int) (hx : ¬ e18 ≤ c) : ∃ e', dgT ⟨[some (.fz (.scr ns)), some (.fz (.int 0)), some (.fz (.int 63)), some (.ol (fzs (iDs L))), some (.fz (.int i)), some (.fz (.int c)), v6, v7], []⟩ = .ok .nx e' ∧ DgP ns (b + 60) e' := by
  obtain ⟨s, hs⟩ := dgS_ok (some (.fz (.scr ns))) (some (.fz (.int 0))) (some (.fz (.int 63))) (some (.ol (fzs (iDs L)))) v6 v7 c i
  obtain ⟨e', h1, h2⟩ := dg2_ok ns b hb L s (some (.fz (.int i))) (some (.fz (.int c))) v6 hL
  refine ⟨e', ?_, h2⟩
  unfold dgS at hs
  unfold dgT
  rw [ev_if, ev_t, ev_op]
  simp [hx, hs, h1, -ev_set]
def dgB : M Fl := dSeq (dSet 5 (dCall [false, false] φ__law_cell (dCons (dVar 0) (dCons (dVar 4) dNil))))
  (dSeq (dIf (dT (dOp (fB fun i j => decide (i < j)) (dVar 5) (dC (.int 0)))) (dSet 5 (dOp (fI (· - ·)) (dC (.int 1)) (dOp fMul (dC (.int 2)) (dVar 5)))) dNext)
  dgT)
theorem dgB_ok (ns : List Int) (b i : Nat) (hb : b ≤ 10000) (L : List Int) (v5 v6 v7 : Option SV) (hL : L.length ≤ b) : ∃ e', dgB ⟨[some (.fz (.scr ns)), some (.fz (.int 0)), some (.fz (.int 63)), some (.ol (fzs (iDs L))), some (.fz (.int i)), v5, v6, v7], []⟩ = .ok .nx e' ∧ DgP ns (b + 60) e' := by
  obtain ⟨c0, hc⟩ := cell_ok ns i
  have tail : ∀ c : Int, ∃ e', dgT ⟨[some (.fz (.scr ns)), some (.fz (.int 0)), some (.fz (.int 63)), some (.ol (fzs (iDs L))), some (.fz (.int i)), some (.fz (.int c)), v6, v7], []⟩ = .ok .nx e' ∧ DgP ns (b + 60) e' := fun c => by
    by_cases hx : e18 ≤ c
    · exact t5 ns b i hb L v6 v7 hL c hx
    · exact t6 ns b i hb L v6 v7 hL c hx
  by_cases h0 : c0 < 0
  · obtain ⟨e', h1, h2⟩ := tail (1 - 2 * c0)
    refine ⟨e', ?_, h2⟩
    simp [dgB, hc, h0, h1]
  · obtain ⟨e', h1, h2⟩ := tail c0
    refine ⟨e', ?_, h2⟩
    simp [dgB, hc, h0, h1]
theorem digits_ok (ns : List Int) : ∃ ds : List Int, φ__law_digits [.fz (.scr ns), .fz (.int 0), .fz (.int 63)] = .ok (.ol (fzs (iDs ds))) [.fz (.scr ns), .fz (.int 0), .fz (.int 63)] := by
  have outer : ∃ e', loopF (gN 4) dgB (rngD 0 63) ⟨[some (.fz (.scr ns)), some (.fz (.int 0)), some (.fz (.int 63)), some (.ol []), none, none, none, none], []⟩ = .ok .nx e' ∧ DgP ns (60 * (rngD 0 63).length) e' := by
    refine loopF_inv0 (fun i e => DgP ns (60 * i) e) (rngD 0 63) _ ⟨[], none, none, none, none, Nat.le_refl _, rfl⟩ ?_
    rintro i d e hd ⟨L, v4, v5, v6, v7, hL, rfl⟩
    obtain ⟨hi, rfl⟩ := rng_at hd
    rw [Int.zero_add]
    obtain ⟨e', h1, h2⟩ := dgB_ok ns (60 * i) i (by omega) L v5 v6 v7 hL
    exact ⟨_, e', rfl, .inl h1, by rw [Nat.mul_succ]; exact h2⟩
  obtain ⟨e', h1, L, v4, v5, v6, v7, _, rfl⟩ := outer
  refine ⟨L, ?_⟩
  have h1' := h1
  unfold dgB dgT dg1 dg2 at h1'
  simp [φ__law_digits, mkFn0, mkFn, okArgs, env0, pinIx, d__law_digits, List.replicate, h1']
end VF
set_option maxRecDepth 100000
set_option maxHeartbeats 4000000
namespace VF
set_option autoImplicit false
open PySem L2
def plD : Nat → D → Bool
  | _, .non => true
  | _, .int _ => true
  | _, .str s => PyData.strOk s
  | n + 1, .lst ds => ds.all (plD n)
  | n + 1, .tup ds => ds.all (plD n)
  | _, _ => false
theorem pl_all {n : Nat} (ih : ∀ d, plD n d = true → ∃ p, toP d = some p ∧ p.canLay0 = true ∧ p.depth ≤ n) : ∀ ds : List D, ds.all (plD n) = true → ∃ ps, toPs ds = some ps ∧ PyData.canLayAll0 ps = true ∧ PyData.depthAll ps ≤ n
  | [], _ => ⟨[], rfl, rfl, by simp [PyData.depthAll]⟩
  | d :: ds, h => by
    rw [List.all_cons, Bool.and_eq_true] at h
    obtain ⟨p, h1, h2, h3⟩ := ih d h.1
    obtain ⟨ps, q1, q2, q3⟩ := pl_all ih ds h.2
    refine ⟨p :: ps, by unfold toPs; rw [h1, q1], by simp [PyData.canLayAll0, h2, q2], ?_⟩
    simp only [PyData.depthAll]
    omega
theorem pl_ok : ∀ (n : Nat) (d : D), plD n d = true → ∃ p, toP d = some p ∧ p.canLay0 = true ∧ p.depth ≤ n := by
  have base : ∀ (n : Nat) (s : Str), PyData.strOk s = true → ∃ p, toP (.str s) = some p ∧ p.canLay0 = true ∧ p.depth ≤ n := fun n s h => ⟨.str s, rfl, by simp [PyData.canLay0, h], by simp [PyData.depth]⟩
  intro n
  induction n with
  | zero =>
    intro d h
    cases d with
    | non => exact ⟨_, rfl, rfl, by simp [PyData.depth]⟩
    | int i => exact ⟨_, rfl, rfl, by simp [PyData.depth]⟩
    | str s => exact base _ s h
    | _ => cases h
  | succ n ih =>
    intro d h
    cases d with
    | non => exact ⟨_, rfl, rfl, by simp [PyData.depth]⟩
    | int i => exact ⟨_, rfl, rfl, by simp [PyData.depth]⟩
    | str s => exact base _ s h
    | lst ds =>
      obtain ⟨ps, h1, h2, h3⟩ := pl_all ih ds h
      exact ⟨.list ps, by show (toPs ds).map _ = _; rw [h1]; rfl, by simpa [PyData.canLay0] using h2, by simp only [PyData.depth]; omega⟩
    | tup ds =>
      obtain ⟨ps, h1, h2, h3⟩ := pl_all ih ds h
      exact ⟨.tuple ps, by show (toPs ds).map _ = _; rw [h1]; rfl, by simpa [PyData.canLay0] using h2, by simp only [PyData.depth]; omega⟩
    | _ => cases h
theorem pl_eqs {n m : Nat} (ih : ∀ a b p q, plD n a = true → plD m b = true → toP a = some p → toP b = some q → (PyData.eqv p q = true ↔ a = b)) : ∀ (as bs : List D) (ps qs : List PyData), as.all (plD n) = true → bs.all (plD m) = true → toPs as = some ps → toPs bs = some qs → (PyData.eqvAll ps qs = true ↔ as = bs)
  | [], [], ps, qs, _, _, q1, q2 => by cases q1; cases q2; simp [PyData.eqvAll]
  | [], b :: bs, ps, qs, _, hb, q1, q2 => by
    cases q1
    unfold toPs at q2
    split at q2
    · cases q2; simp [PyData.eqvAll]
    · cases q2
  | a :: as, [], ps, qs, ha, _, q1, q2 => by
    cases q2
    unfold toPs at q1
    split at q1
    · cases q1; simp [PyData.eqvAll]
    · cases q1
  | a :: as, b :: bs, ps, qs, ha, hb, q1, q2 => by
    rw [List.all_cons, Bool.and_eq_true] at ha hb
    unfold toPs at q1 q2
    split at q1
    · split at q2
      · rename_i p ps z1 z2 _ _ q qs z3 z4
        cases q1; cases q2
        simp only [PyData.eqvAll, Bool.and_eq_true, ih a b p q ha.1 hb.1 z1 z3, pl_eqs ih as bs ps qs ha.2 hb.2 z2 z4, List.cons.injEq]
      · cases q2
    · cases q1
theorem toP_lst (ds : List D) : toP (.lst ds) = (toPs ds).map .list := rfl
theorem toP_tup (ds : List D) : toP (.tup ds) = (toPs ds).map .tuple := rfl
theorem pl_eq : ∀ (n m : Nat) (a b : D) (p q : PyData), plD n a = true → plD m b = true → toP a = some p → toP b = some q → (PyData.eqv p q = true ↔ a = b) := by
  intro n
  induction n with
  | zero =>
    intro m a b p q ha hb ea eb
    cases a with
    | non => cases ea; cases b <;> first | (exfalso; revert hb; cases m <;> (intro hb; cases hb); done) | (cases eb; simp [PyData.eqv]; done) | (rw [toP_lst] at eb; cases z : toPs _ <;> rw [z] at eb <;> cases eb; simp [PyData.eqv]; done) | (rw [toP_tup] at eb; cases z : toPs _ <;> rw [z] at eb <;> cases eb; simp [PyData.eqv]; done)
    | int i => cases ea; cases b <;> first | (exfalso; revert hb; cases m <;> (intro hb; cases hb); done) | (cases eb; simp [PyData.eqv]; done) | (rw [toP_lst] at eb; cases z : toPs _ <;> rw [z] at eb <;> cases eb; simp [PyData.eqv]; done) | (rw [toP_tup] at eb; cases z : toPs _ <;> rw [z] at eb <;> cases eb; simp [PyData.eqv]; done)
    | str i => cases ea; cases b <;> first | (exfalso; revert hb; cases m <;> (intro hb; cases hb); done) | (cases eb; simp [PyData.eqv]; done) | (rw [toP_lst] at eb; cases z : toPs _ <;> rw [z] at eb <;> cases eb; simp [PyData.eqv]; done) | (rw [toP_tup] at eb; cases z : toPs _ <;> rw [z] at eb <;> cases eb; simp [PyData.eqv]; done)
    | _ => cases ha
  | succ n ih =>
    intro m a b p q ha hb ea eb
    cases a with
    | non => cases ea; cases b <;> first | (exfalso; revert hb; cases m <;> (intro hb; cases hb); done) | (cases eb; simp [PyData.eqv]; done) | (rw [toP_lst] at eb; cases z : toPs _ <;> rw [z] at eb <;> cases eb; simp [PyData.eqv]; done) | (rw [toP_tup] at eb; cases z : toPs _ <;> rw [z] at eb <;> cases eb; simp [PyData.eqv]; done)
    | int i => cases ea; cases b <;> first | (exfalso; revert hb; cases m <;> (intro hb; cases hb); done) | (cases eb; simp [PyData.eqv]; done) | (rw [toP_lst] at eb; cases z : toPs _ <;> rw [z] at eb <;> cases eb; simp [PyData.eqv]; done) | (rw [toP_tup] at eb; cases z : toPs _ <;> rw [z] at eb <;> cases eb; simp [PyData.eqv]; done)
    | str i => cases ea; cases b <;> first | (exfalso; revert hb; cases m <;> (intro hb; cases hb); done) | (cases eb; simp [PyData.eqv]; done) | (rw [toP_lst] at eb; cases z : toPs _ <;> rw [z] at eb <;> cases eb; simp [PyData.eqv]; done) | (rw [toP_tup] at eb; cases z : toPs _ <;> rw [z] at eb <;> cases eb; simp [PyData.eqv]; done)
    | lst as =>
      rw [toP_lst] at ea
      cases z1 : toPs as with
      | none => rw [z1] at ea; cases ea
      | some ps =>
        rw [z1] at ea; cases ea
        cases b with
        | lst bs =>
          rw [toP_lst] at eb
          cases z2 : toPs bs with
          | none => rw [z2] at eb; cases eb
          | some qs =>
            rw [z2] at eb; cases eb
            cases m with
            | zero => cases hb
            | succ m =>
              simp only [PyData.eqv, D.lst.injEq]
              exact pl_eqs (fun a b p q h1 h2 h3 h4 => ih m a b p q h1 h2 h3 h4) as bs ps qs ha hb z1 z2
        | tup bs => rw [toP_tup] at eb; cases z : toPs bs <;> rw [z] at eb <;> cases eb; simp [PyData.eqv]
        | _ => first | (exfalso; revert hb; cases m <;> (intro hb; cases hb); done) | (cases eb; simp [PyData.eqv]; done)
    | tup as =>
      rw [toP_tup] at ea
      cases z1 : toPs as with
      | none => rw [z1] at ea; cases ea
      | some ps =>
        rw [z1] at ea; cases ea
        cases b with
        | tup bs =>
          rw [toP_tup] at eb
          cases z2 : toPs bs with
          | none => rw [z2] at eb; cases eb
          | some qs =>
            rw [z2] at eb; cases eb
            cases m with
            | zero => cases hb
            | succ m =>
              simp only [PyData.eqv, D.tup.injEq]
              exact pl_eqs (fun a b p q h1 h2 h3 h4 => ih m a b p q h1 h2 h3 h4) as bs ps qs ha hb z1 z2
        | lst bs => rw [toP_lst] at eb; cases z : toPs bs <;> rw [z] at eb <;> cases eb; simp [PyData.eqv]
        | _ => first | (exfalso; revert hb; cases m <;> (intro hb; cases hb); done) | (cases eb; simp [PyData.eqv]; done)
    | _ => cases ha
theorem eqD_pl {a b : D} [Decidable (a = b)] (ha : plD 64 a = true) (hb : plD 64 b = true) : eqD a b = some (decide (a = b)) := by
  obtain ⟨p, h1, h2, h3⟩ := pl_ok 64 a ha
  obtain ⟨q, k1, k2, k3⟩ := pl_ok 64 b hb
  have e := pl_eq 64 64 a b p q ha hb h1 k1
  unfold eqD
  rw [h1, k1]
  simp only
  rw [if_pos (by simp [shp, PyData.plain_of_canLay0 _ h2, PyData.plain_of_canLay0 _ k2, h3, k3])]
  by_cases h : a = b
  · rw [e.mpr h, decide_eq_true h]
  · rw [decide_eq_false h]
    cases z : PyData.eqv p q with
    | true => exact absurd (e.mp z) h
    | false => rfl
theorem iDs_all (L : List Int) (n : Nat) : (iDs L).all (plD n) = true := by
  rw [List.all_eq_true]
  intro d hd
  obtain ⟨i, _, rfl⟩ := List.mem_map.mp hd
  cases n <;> rfl
theorem iDs_inj {a b : List Int} : iDs a = iDs b ↔ a = b := by
  constructor
  · intro h
    induction a generalizing b with
    | nil => cases b <;> simp_all [iDs]
    | cons x xs ih => cases b with
      | nil => simp [iDs] at h
      | cons y ys =>
        simp only [iDs, List.map_cons, List.cons.injEq, D.int.injEq] at h
        rw [h.1, ih h.2]
  · intro h; rw [h]
@[simp] theorem fEq_int (i j : Int) : fEq (.int i) (.int j) = some (.bl (decide (i = j))) := by
  have : Decidable (D.int i = D.int j) := if h : i = j then isTrue (by rw [h]) else isFalse (fun q => h (D.int.inj q))
  unfold fEq
  rw [eqD_pl rfl rfl]
  simp
@[simp] theorem fNe_int (i j : Int) : fNe (.int i) (.int j) = some (.bl (decide (i ≠ j))) := by
  have : Decidable (D.int i = D.int j) := if h : i = j then isTrue (by rw [h]) else isFalse (fun q => h (D.int.inj q))
  unfold fNe
  rw [eqD_pl rfl rfl]
  simp
@[simp] theorem fEq_iDs (a b : List Int) : fEq (.lst (iDs a)) (.lst (iDs b)) = some (.bl (decide (a = b))) := by
  have : Decidable (D.lst (iDs a) = D.lst (iDs b)) := if h : a = b then isTrue (by rw [h]) else isFalse (fun q => h (iDs_inj.mp (D.lst.inj q)))
  unfold fEq
  rw [eqD_pl (a := .lst (iDs a)) (b := .lst (iDs b)) (iDs_all a 63) (iDs_all b 63)]
  simp [iDs_inj]
@[simp] theorem fNe_iDs (a b : List Int) : fNe (.lst (iDs a)) (.lst (iDs b)) = some (.bl (decide (a ≠ b))) := by
  have : Decidable (D.lst (iDs a) = D.lst (iDs b)) := if h : a = b then isTrue (by rw [h]) else isFalse (fun q => h (iDs_inj.mp (D.lst.inj q)))
  unfold fNe
  rw [eqD_pl (a := .lst (iDs a)) (b := .lst (iDs b)) (iDs_all a 63) (iDs_all b 63)]
  simp [iDs_inj]
@[simp] theorem truD_bl (b : Bool) : truD (.bl b) = some b := (rfl)
@[simp] theorem truD_lst (ds : List D) : truD (.lst ds) = some !ds.isEmpty := (rfl)
@[simp] theorem truD_int (i : Int) : truD (.int i) = some (i != 0) := (rfl)
@[simp] theorem truD_non : truD .non = some false := (rfl)
@[simp] theorem iDs_emp (L : List Int) : (iDs L).isEmpty = L.isEmpty := by cases L <;> rfl
@[simp] theorem isi_int_int (i : Int) : isiD [.int i, .ty "int"] = some (.bl true) := (rfl)
theorem kit_ib : kitB "int" "bool" = some false := by decide +kernel
@[simp] theorem isi_int_bool (i : Int) : isiD [.int i, .ty "bool"] = some (.bl false) := by unfold isiD tyName; simp only [kit_ib]; rfl
@[simp] theorem isi_lst_lst (i : List D) : isiD [.lst i, .ty "list"] = some (.bl true) := (rfl)
@[simp] theorem ev_bl (a : M RV) (k : Bool → M RV) (e : Env) : dBl a k e = (a e).bind fun r e => match (view e r).bind blOf with
  | some b => k b e
  | none => .st := (rfl)
@[simp] theorem ev_andV (a b : M RV) (e : Env) : dAndV a b e = (a e).bind fun r e => match (view e r).bind blOf with
  | some true => b e
  | some false => .ok (.fz (.bl false)) e
  | none => .st := by
  show (a e).bind _ = _
  congr 1; funext r e; cases (view e r).bind blOf with
  | none => rfl
  | some b => cases b <;> rfl
@[simp] theorem ev_orV (a b : M RV) (e : Env) : dOrV a b e = (a e).bind fun r e => match (view e r).bind blOf with
  | some true => .ok (.fz (.bl true)) e
  | some false => b e
  | none => .st := by
  show (a e).bind _ = _
  congr 1; funext r e; cases (view e r).bind blOf with
  | none => rfl
  | some b => cases b <;> rfl
@[simp] theorem ev_notV (a : M RV) (e : Env) : dNotV a e = (a e).bind fun r e => match (view e r).bind blOf with
  | some b => .ok (.fz (.bl (!b))) e
  | none => .st := (rfl)
@[simp] theorem ev_ifE (c : M Bool) (a b : M RV) (e : Env) : dIfE c a b e = (c e).bind fun k e => match k with
  | true => a e
  | false => b e := by unfold dIfE M.bind; cases c e <;> (try rfl); rename_i c e; cases c <;> rfl
@[simp] theorem sumD_iDs (L : List Int) : sumD [.lst (iDs L)] = some (.int L.sum) := by unfold sumD; show (intsOf (iDs L)).map _ = _; simp
@[simp] theorem kidI_mk (l : List (Option SV)) (p : List Nat) (j : Nat) (k : Int) : kidI ⟨l, p⟩ j k = (match l[j]? with
  | some (some (.ol xs)) => (match kid xs k with
    | some (.int x) => some x
    | _ => none)
  | _ => none) := (rfl)
@[simp] theorem ev_augIx (j : Nat) (b : M RV) (f : Int → Int → Int) (a : M RV) (e0 : Env) : dAugIx j b f a e0 = (match e0.sl[j]? with
  | some (some (.ol _)) => (b e0).bind fun q e => match view e q with
    | some (.int k) => if 0 ≤ k then (match kidI e j k with
      | some x => (a e).bind fun r e1 => (match view e1 r with
        | some (.int y) => (match e1.sl[j]? with
          | some (some (.ol xs)) => (match ixN xs.length k with
            | some n => .ok .nx (e1.setS j (.ol (xs.set n (.fz (.int (f x y))))))
            | none => .st)
          | _ => .st)
        | _ => .st)
      | _ => .st) else .st
    | _ => .st
  | _ => .st) := (rfl)
def φ__law_draw : Fn := mkFn0 [true, false] 3 d__law_draw
@[simp] theorem draw_φ (ds : List Int) (at_ : Nat) (many : Int) (hm : 0 < many) : φ__law_draw [box ds at_, .fz (.int many)] = .ok (.fz (.int (drawV ds at_ many))) [box ds (at_ + 1), .fz (.int many)] := draw_ok ds at_ many hm
@[simp] theorem box_fold (ds : List Int) : SV.ol (fzs [.lst (iDs ds), .int 0]) = box ds 0 := (rfl)
@[simp] theorem varR_box (i : Nat) (e : Env) (ds : List Int) (k : Nat) : varR i e (some (some (box ds k))) = .ok (.var i) e := (rfl)
def d__law_is_int : M Fl := (dRet (dAndV (dCB isiD (dCons (dVar 0) (dCons (dC (.ty "int")) dNil))) (dNotV (dCB isiD (dCons (dVar 0) (dCons (dC (.ty "bool")) dNil))))))
def φ__law_is_int : Fn := mkFn0 [false] 1 d__law_is_int
@[simp] theorem isint_φ (i : Int) : φ__law_is_int [.fz (.int i)] = .ok (.fz (.bl true)) [.fz (.int i)] := by
  simp [φ__law_is_int, mkFn0, mkFn, okArgs, env0, pinIx, d__law_is_int, List.replicate]
end VF
set_option maxRecDepth 100000
set_option maxHeartbeats 4000000
namespace VF
set_option autoImplicit false
open PySem L2
inductive Res (α : Type) where
  | st | ok (a : α) | ex (x : Exc)
namespace Res
def bind {α β : Type} (p : Res α) (q : α → Res β) : Res β := match p with
  | .st => .st
  | .ok a => q a
  | .ex x => .ex x
@[simp] theorem bind_ok {α β : Type} (a : α) (q : α → Res β) : (Res.ok a).bind q = q a := (rfl)
@[simp] theorem bind_st {α β : Type} (q : α → Res β) : (Res.st : Res α).bind q = .st := (rfl)
@[simp] theorem bind_ex {α β : Type} (x : Exc) (q : α → Res β) : (Res.ex x : Res α).bind q = .ex x := (rfl)
@[simp] theorem bind_assoc {α β γ : Type} (p : Res α) (q : α → Res β) (r : β → Res γ) : (p.bind q).bind r = p.bind fun a => (q a).bind r := by cases p <;> rfl
end Res
class Enc (α : Type) where
  enc : α → D
open Enc (enc)
structure T3 (α β γ : Type) where
  a : α
  b : β
  c : γ
  deriving DecidableEq, Inhabited
structure T4 (α β γ δ : Type) where
  a : α
  b : β
  c : γ
  d : δ
  deriving DecidableEq, Inhabited
structure T5 (α β γ δ ε : Type) where
  a : α
  b : β
  c : γ
  d : δ
  e : ε
  deriving DecidableEq, Inhabited
structure Tup (α : Type) where
  l : List α
  deriving DecidableEq, Inhabited
section
variable {α β γ δ ε : Type}
instance : Enc Int := ⟨.int⟩
instance : Enc Bool := ⟨.bl⟩
instance : Enc Str := ⟨.str⟩
instance : Enc Unit := ⟨fun _ => .non⟩
instance [Enc α] : Enc (List α) := ⟨fun xs => .lst (xs.map enc)⟩
instance [Enc α] : Enc (Tup α) := ⟨fun xs => .tup (xs.l.map enc)⟩
instance [Enc α] [Enc β] : Enc (α × β) := ⟨fun p => .tup [enc p.1, enc p.2]⟩
instance [Enc α] [Enc β] [Enc γ] : Enc (T3 α β γ) := ⟨fun p => .tup [enc p.a, enc p.b, enc p.c]⟩
instance [Enc α] [Enc β] [Enc γ] [Enc δ] : Enc (T4 α β γ δ) := ⟨fun p => .tup [enc p.a, enc p.b, enc p.c, enc p.d]⟩
instance [Enc α] [Enc β] [Enc γ] [Enc δ] [Enc ε] : Enc (T5 α β γ δ ε) := ⟨fun p => .tup [enc p.a, enc p.b, enc p.c, enc p.d, enc p.e]⟩
def encO [Enc α] : Option α → D
  | none => .non
  | some a => enc a
instance [Enc α] : Enc (Option α) := ⟨encO⟩
abbrev encs [Enc α] (xs : List α) : List D := xs.map enc
end
class EqE (α : Type) [Enc α] where
  dep : Nat
  lay : ∀ a : α, ∃ p, toP (enc a) = some p ∧ p.plain = true ∧ p.depth ≤ dep
  eqv : ∀ (a b : α) p q, toP (enc a) = some p → toP (enc b) = some q → (PyData.eqv p q = true ↔ a = b)
class LayE (α : Type) [Enc α] : Prop where
  can : ∀ (a : α) p, toP (enc a) = some p → p.canLay0 = true
class NoN (α : Type) [Enc α] where
  nn : ∀ a : α, toP (enc a) ≠ some .none
section
variable {α β γ δ ε : Type}
instance : EqE Int where
  dep := 0
  lay := fun a => ⟨.int a, rfl, rfl, Nat.le_refl _⟩
  eqv := fun a b p q h1 h2 => by cases h1; cases h2; simp [PyData.eqv]
instance : EqE Bool where
  dep := 0
  lay := fun a => ⟨.bool a, rfl, rfl, Nat.le_refl _⟩
  eqv := fun a b p q h1 h2 => by cases h1; cases h2; simp [PyData.eqv]
instance : EqE Str where
  dep := 0
  lay := fun a => ⟨.str a, rfl, rfl, Nat.le_refl _⟩
  eqv := fun a b p q h1 h2 => by cases h1; cases h2; simp [PyData.eqv]
instance : LayE Int := ⟨fun a p h => by cases h; rfl⟩
instance : LayE Bool := ⟨fun a p h => by cases h; rfl⟩
theorem toPs_can [Enc α] [LayE α] : ∀ (xs : List α) ps, toPs (xs.map enc) = some ps → PyData.canLayAll0 ps = true
  | [], ps, h => by cases h; rfl
  | x :: xs, ps, h => by
    have h' : (match toP (enc x), toPs (xs.map enc) with | some p, some ps => some (p :: ps) | _, _ => none) = some ps := h
    cases z1 : toP (enc x) with
    | none => rw [z1] at h'; cases h'
    | some p => cases z2 : toPs (xs.map enc) with
      | none => rw [z1, z2] at h'; cases h'
      | some ps2 => rw [z1, z2] at h'; cases h'; simp only [PyData.canLayAll0, LayE.can x p z1, toPs_can xs ps2 z2, Bool.and_self]
instance [Enc α] [LayE α] : LayE (List α) := ⟨fun a p h => by
  have h' : (toPs (a.map enc)).map PyData.list = some p := h
  cases z : toPs (a.map enc) with
  | none => rw [z] at h'; cases h'
  | some ps => rw [z] at h'; cases h'; simp only [PyData.canLay0, toPs_can a ps z]⟩
instance : NoN Str := ⟨fun a h => by cases h⟩
instance : NoN Int := ⟨fun a h => by cases h⟩
instance : NoN Bool := ⟨fun a h => by cases h⟩
theorem toPs_lay [Enc α] [EqE α] : ∀ xs : List α, ∃ ps, toPs (xs.map enc) = some ps ∧ PyData.plainAll ps = true ∧ PyData.depthAll ps ≤ EqE.dep α
  | [] => ⟨[], rfl, rfl, by simp [PyData.depthAll]⟩
  | x :: xs => by
    obtain ⟨p, h1, h2, h3⟩ := EqE.lay x
    obtain ⟨ps, k1, k2, k3⟩ := toPs_lay xs
    refine ⟨p :: ps, ?_, by simp [PyData.plainAll, h2, k2], ?_⟩
    · show toPs (enc x :: xs.map enc) = _
      unfold toPs; rw [h1, k1]
    · simp only [PyData.depthAll]; omega
theorem toPs_eqv [Enc α] [EqE α] : ∀ (xs ys : List α) ps qs, toPs (xs.map enc) = some ps → toPs (ys.map enc) = some qs → (PyData.eqvAll ps qs = true ↔ xs = ys)
  | [], [], ps, qs, h1, h2 => by cases h1; cases h2; simp [PyData.eqvAll]
  | [], y :: ys, ps, qs, h1, h2 => by
    cases h1
    obtain ⟨q, l1, _⟩ := EqE.lay y
    obtain ⟨qs', l2, _⟩ := toPs_lay ys
    have : toPs ((y :: ys).map enc) = some (q :: qs') := by show toPs (enc y :: ys.map enc) = _; unfold toPs; rw [l1, l2]
    rw [this] at h2; cases h2; simp [PyData.eqvAll]
  | x :: xs, [], ps, qs, h1, h2 => by
    cases h2
    obtain ⟨q, l1, _⟩ := EqE.lay x
    obtain ⟨qs', l2, _⟩ := toPs_lay xs
    have : toPs ((x :: xs).map enc) = some (q :: qs') := by show toPs (enc x :: xs.map enc) = _; unfold toPs; rw [l1, l2]
    rw [this] at h1; cases h1; simp [PyData.eqvAll]
  | x :: xs, y :: ys, ps, qs, h1, h2 => by
    obtain ⟨p, l1, _⟩ := EqE.lay x
    obtain ⟨ps', l2, _⟩ := toPs_lay xs
    obtain ⟨q, m1, _⟩ := EqE.lay y
    obtain ⟨qs', m2, _⟩ := toPs_lay ys
    have a1 : toPs ((x :: xs).map enc) = some (p :: ps') := by show toPs (enc x :: xs.map enc) = _; unfold toPs; rw [l1, l2]
    have a2 : toPs ((y :: ys).map enc) = some (q :: qs') := by show toPs (enc y :: ys.map enc) = _; unfold toPs; rw [m1, m2]
    rw [a1] at h1; rw [a2] at h2
    cases h1; cases h2
    simp only [PyData.eqvAll, Bool.and_eq_true, EqE.eqv x y p q l1 m1, toPs_eqv xs ys ps' qs' l2 m2, List.cons.injEq]
instance [Enc α] [EqE α] : EqE (List α) where
  dep := EqE.dep α + 1
  lay := fun xs => by
    obtain ⟨ps, k1, k2, k3⟩ := toPs_lay xs
    exact ⟨.list ps, by show (toPs (xs.map enc)).map _ = _; rw [k1]; rfl, by simpa [PyData.plain] using k2, by simp only [PyData.depth]; omega⟩
  eqv := fun xs ys p q h1 h2 => by
    obtain ⟨ps, k1, _⟩ := toPs_lay xs
    obtain ⟨qs, l1, _⟩ := toPs_lay ys
    have e1 : toP (enc xs) = some (.list ps) := by show (toPs (xs.map enc)).map _ = _; rw [k1]; rfl
    have e2 : toP (enc ys) = some (.list qs) := by show (toPs (ys.map enc)).map _ = _; rw [l1]; rfl
    rw [e1] at h1; rw [e2] at h2; cases h1; cases h2
    simp only [PyData.eqv]
    exact toPs_eqv xs ys ps qs k1 l1
instance [Enc α] : NoN (List α) := ⟨fun a h => by
  have h' : (toPs (a.map enc)).map PyData.list = some .none := h
  cases z : toPs (a.map enc) <;> rw [z] at h' <;> cases h'⟩
instance [Enc α] [EqE α] : EqE (Tup α) where
  dep := EqE.dep α + 1
  lay := fun xs => by
    obtain ⟨ps, k1, k2, k3⟩ := toPs_lay xs.l
    exact ⟨.tuple ps, by show (toPs (xs.l.map enc)).map _ = _; rw [k1]; rfl, by simpa [PyData.plain] using k2, by simp only [PyData.depth]; omega⟩
  eqv := fun xs ys p q h1 h2 => by
    obtain ⟨ps, k1, _⟩ := toPs_lay xs.l
    obtain ⟨qs, l1, _⟩ := toPs_lay ys.l
    have e1 : toP (enc xs) = some (.tuple ps) := by show (toPs (xs.l.map enc)).map _ = _; rw [k1]; rfl
    have e2 : toP (enc ys) = some (.tuple qs) := by show (toPs (ys.l.map enc)).map _ = _; rw [l1]; rfl
    rw [e1] at h1; rw [e2] at h2; cases h1; cases h2
    simp only [PyData.eqv]
    rw [toPs_eqv xs.l ys.l ps qs k1 l1]
    cases xs; cases ys; simp
theorem toP_tup2 {ds : List D} {ps : List PyData} (h : toPs ds = some ps) : toP (.tup ds) = some (.tuple ps) := by show (toPs ds).map _ = _; rw [h]; rfl
instance [Enc α] [EqE α] [Enc β] [EqE β] : EqE (α × β) where
  dep := max (EqE.dep α) (EqE.dep β) + 1
  lay := fun x => by
    obtain ⟨p, h1, h2, h3⟩ := EqE.lay x.1
    obtain ⟨q, k1, k2, k3⟩ := EqE.lay x.2
    refine ⟨.tuple [p, q], toP_tup2 (by simp [toPs, h1, k1]), by simp [PyData.plain, PyData.plainAll, h2, k2], ?_⟩
    simp only [PyData.depth, PyData.depthAll]; omega
  eqv := fun x y p q h1 h2 => by
    obtain ⟨p1, a1, _⟩ := EqE.lay x.1
    obtain ⟨p2, a2, _⟩ := EqE.lay x.2
    obtain ⟨q1, b1, _⟩ := EqE.lay y.1
    obtain ⟨q2, b2, _⟩ := EqE.lay y.2
    have e1 : toP (enc x) = some (.tuple [p1, p2]) := toP_tup2 (by simp [toPs, a1, a2])
    have e2 : toP (enc y) = some (.tuple [q1, q2]) := toP_tup2 (by simp [toPs, b1, b2])
    rw [e1] at h1; rw [e2] at h2; cases h1; cases h2
    simp only [PyData.eqv, PyData.eqvAll, Bool.and_true, Bool.and_eq_true, EqE.eqv _ _ _ _ a1 b1, EqE.eqv _ _ _ _ a2 b2]
    exact ⟨fun h => Prod.ext h.1 h.2, fun h => by rw [h]; exact ⟨rfl, rfl⟩⟩
instance [Enc α] [Enc β] : NoN (α × β) := ⟨fun a h => by
  have h' : (toPs [enc a.1, enc a.2]).map PyData.tuple = some .none := h
  cases z : toPs [enc a.1, enc a.2] <;> rw [z] at h' <;> cases h'⟩
instance [Enc α] : NoN (Tup α) := ⟨fun a h => by
  have h' : (toPs (a.l.map enc)).map PyData.tuple = some .none := h
  cases z : toPs (a.l.map enc) <;> rw [z] at h' <;> cases h'⟩
instance [Enc α] [EqE α] [Enc β] [EqE β] [Enc γ] [EqE γ] : EqE (T3 α β γ) where
  dep := max (EqE.dep α) (max (EqE.dep β) (EqE.dep γ)) + 1
  lay := fun x => by
    obtain ⟨p, h1, h2, h3⟩ := EqE.lay x.a
    obtain ⟨q, k1, k2, k3⟩ := EqE.lay x.b
    obtain ⟨r, l1, l2, l3⟩ := EqE.lay x.c
    refine ⟨.tuple [p, q, r], toP_tup2 (by simp [toPs, h1, k1, l1]), by simp [PyData.plain, PyData.plainAll, h2, k2, l2], ?_⟩
    simp only [PyData.depth, PyData.depthAll]; omega
  eqv := fun x y p q h1 h2 => by
    obtain ⟨p1, a1, _⟩ := EqE.lay x.a
    obtain ⟨p2, a2, _⟩ := EqE.lay x.b
    obtain ⟨p3, a3, _⟩ := EqE.lay x.c
    obtain ⟨q1, b1, _⟩ := EqE.lay y.a
    obtain ⟨q2, b2, _⟩ := EqE.lay y.b
    obtain ⟨q3, b3, _⟩ := EqE.lay y.c
    have e1 : toP (enc x) = some (.tuple [p1, p2, p3]) := toP_tup2 (by simp [toPs, a1, a2, a3])
    have e2 : toP (enc y) = some (.tuple [q1, q2, q3]) := toP_tup2 (by simp [toPs, b1, b2, b3])
    rw [e1] at h1; rw [e2] at h2; cases h1; cases h2
    simp only [PyData.eqv, PyData.eqvAll, Bool.and_true, Bool.and_eq_true, EqE.eqv _ _ _ _ a1 b1, EqE.eqv _ _ _ _ a2 b2, EqE.eqv _ _ _ _ a3 b3]
    cases x; cases y; simp
instance [Enc α] [Enc β] [Enc γ] : NoN (T3 α β γ) := ⟨fun a h => by
  have h' : (toPs [enc a.a, enc a.b, enc a.c]).map PyData.tuple = some .none := h
  cases z : toPs [enc a.a, enc a.b, enc a.c] <;> rw [z] at h' <;> cases h'⟩
instance [Enc α] [EqE α] [Enc β] [EqE β] [Enc γ] [EqE γ] [Enc δ] [EqE δ] : EqE (T4 α β γ δ) where
  dep := max (max (EqE.dep α) (EqE.dep δ)) (max (EqE.dep β) (EqE.dep γ)) + 1
  lay := fun x => by
    obtain ⟨p, h1, h2, h3⟩ := EqE.lay x.a
    obtain ⟨q, k1, k2, k3⟩ := EqE.lay x.b
    obtain ⟨r, l1, l2, l3⟩ := EqE.lay x.c
    obtain ⟨s, m1, m2, m3⟩ := EqE.lay x.d
    refine ⟨.tuple [p, q, r, s], toP_tup2 (by simp [toPs, h1, k1, l1, m1]), by simp [PyData.plain, PyData.plainAll, h2, k2, l2, m2], ?_⟩
    simp only [PyData.depth, PyData.depthAll]; omega
  eqv := fun x y p q h1 h2 => by
    obtain ⟨p1, a1, _⟩ := EqE.lay x.a
    obtain ⟨p2, a2, _⟩ := EqE.lay x.b
    obtain ⟨p3, a3, _⟩ := EqE.lay x.c
    obtain ⟨p4, a4, _⟩ := EqE.lay x.d
    obtain ⟨q1, b1, _⟩ := EqE.lay y.a
    obtain ⟨q2, b2, _⟩ := EqE.lay y.b
    obtain ⟨q3, b3, _⟩ := EqE.lay y.c
    obtain ⟨q4, b4, _⟩ := EqE.lay y.d
    have e1 : toP (enc x) = some (.tuple [p1, p2, p3, p4]) := toP_tup2 (by simp [toPs, a1, a2, a3, a4])
    have e2 : toP (enc y) = some (.tuple [q1, q2, q3, q4]) := toP_tup2 (by simp [toPs, b1, b2, b3, b4])
    rw [e1] at h1; rw [e2] at h2; cases h1; cases h2
    simp only [PyData.eqv, PyData.eqvAll, Bool.and_true, Bool.and_eq_true, EqE.eqv _ _ _ _ a1 b1, EqE.eqv _ _ _ _ a2 b2, EqE.eqv _ _ _ _ a3 b3, EqE.eqv _ _ _ _ a4 b4]
    cases x; cases y; simp
theorem toP_some [Enc α] (a : α) : toP (enc (some a)) = toP (enc a) := (rfl)
theorem eqv_non_l : ∀ q : PyData, PyData.eqv .none q = true ↔ q = .none := by intro q; cases q <;> simp [PyData.eqv]
theorem eqv_non_r : ∀ q : PyData, PyData.eqv q .none = true ↔ q = .none := by intro q; cases q <;> simp [PyData.eqv]
instance [Enc α] [EqE α] [NoN α] : EqE (Option α) where
  dep := EqE.dep α
  lay := fun x => match x with
    | none => ⟨.none, rfl, rfl, Nat.zero_le _⟩
    | some a => EqE.lay a
  eqv := fun x y p q h1 h2 => by
    cases x with
    | none =>
      cases h1
      rw [eqv_non_l]
      cases y with
      | none => cases h2; simp
      | some b =>
        have := NoN.nn b
        rw [toP_some] at h2
        constructor
        · intro e; subst e; exact absurd h2 this
        · intro e; cases e
    | some a =>
      cases y with
      | none =>
        cases h2
        rw [eqv_non_r]
        have := NoN.nn a
        rw [toP_some] at h1
        constructor
        · intro e; subst e; exact absurd h1 this
        · intro e; cases e
      | some b =>
        rw [toP_some] at h1 h2
        rw [EqE.eqv a b p q h1 h2]
        simp
theorem shaped_enc [Enc α] [EqE α] (a : α) (hd : EqE.dep α ≤ 64) : ∃ p, toP (enc a) = some p ∧ shp p = true := by
  obtain ⟨p, h1, h2, h3⟩ := EqE.lay a
  exact ⟨p, h1, by simp [shp, h2]; omega⟩
theorem eqD_enc [Enc α] [EqE α] [DecidableEq α] (a b : α) (hd : EqE.dep α ≤ 64) : eqD (enc a) (enc b) = some (decide (a = b)) := by
  obtain ⟨p, h1, h2⟩ := shaped_enc a hd
  obtain ⟨q, k1, k2⟩ := shaped_enc b hd
  have e := EqE.eqv a b p q h1 k1
  unfold eqD
  rw [h1, k1]
  simp only
  rw [if_pos (by simp [h2, k2])]
  by_cases h : a = b
  · rw [e.mpr h, decide_eq_true h]
  · rw [decide_eq_false h]
    cases z : PyData.eqv p q with
    | true => exact absurd (e.mp z) h
    | false => rfl
theorem fEq_enc [Enc α] [EqE α] [DecidableEq α] (a b : α) (hd : EqE.dep α ≤ 64) : fEq (enc a) (enc b) = some (.bl (decide (a = b))) := by
  unfold fEq; rw [eqD_enc a b hd]; rfl
theorem fNe_enc [Enc α] [EqE α] [DecidableEq α] (a b : α) (hd : EqE.dep α ≤ 64) : fNe (enc a) (enc b) = some (.bl (decide (a ≠ b))) := by
  unfold fNe; rw [eqD_enc a b hd]; simp
end
end VF
set_option maxRecDepth 100000
set_option maxHeartbeats 4000000
namespace VF
set_option autoImplicit false
open PySem L2
open Enc (enc)
inductive SD where
  | fz (d : D) | ol (ds : List D) | clr | val (d : D) | cf | any | x (s : SV)
def SD.ok : SD → Option SV → Prop
  | .fz d, o => o = some (.fz d)
  | .ol ds, o => o = some (.ol (fzs ds))
  | .clr, o => o = none
  | .val d, o => o = some (.fz d) ∨ ∃ ds, d = .lst ds ∧ o = some (.ol (fzs ds))
  | .cf, o => o = none ∨ ∃ d, o = some (.fz d)
  | .any, _ => True
  | .x s, o => o = some s
def F2 : List SD → List (Option SV) → Prop
  | [], [] => True
  | s :: S, o :: l => s.ok o ∧ F2 S l
  | _, _ => False
theorem F2.get : ∀ {S : List SD} {l : List (Option SV)} {i : Nat} {s : SD}, F2 S l → S[i]? = some s → ∃ o, l[i]? = some o ∧ s.ok o
  | s :: S, o :: l, 0, s', h, e => by cases e; exact ⟨o, rfl, h.1⟩
  | s :: S, o :: l, i + 1, s', h, e => by
    obtain ⟨o', h1, h2⟩ := F2.get (i := i) h.2 (by simpa using e)
    exact ⟨o', by simpa using h1, h2⟩
  | [], _, _, _, _, e => by simp at e
  | _ :: _, [], _, _, h, _ => h.elim
theorem F2.set : ∀ {S : List SD} {l : List (Option SV)} {s : SD} {o : Option SV} (i : Nat), F2 S l → s.ok o → F2 (S.set i s) (l.set i o)
  | s' :: S, o' :: l, s, o, 0, h, k => ⟨k, h.2⟩
  | s' :: S, o' :: l, s, o, i + 1, h, k => ⟨h.1, F2.set i h.2 k⟩
  | [], [], _, _, _, _, _ => trivial
  | [], _ :: _, _, _, _, h, _ => h.elim
  | _ :: _, [], _, _, _, h, _ => h.elim
structure Has (pn : List Nat) (S : List SD) (e : Env) : Prop where
  pn : e.pn = pn
  sl : F2 S e.sl
inductive W : List SD → List SD → Prop
  | nil : W [] []
  | rf {s : SD} {S S' : List SD} : W S S' → W (s :: S) (s :: S')
  | an {s : SD} {S S' : List SD} : W S S' → W (s :: S) (.any :: S')
  | cc {S S' : List SD} : W S S' → W (.clr :: S) (.cf :: S')
  | cz {d : D} {S S' : List SD} : W S S' → W (.fz d :: S) (.cf :: S')
  | vz {d : D} {S S' : List SD} : W S S' → W (.fz d :: S) (.val d :: S')
  | vo {ds : List D} {S S' : List SD} : W S S' → W (.ol ds :: S) (.val (.lst ds) :: S')
theorem W.refl : ∀ S : List SD, W S S
  | [] => .nil
  | _ :: S => .rf (W.refl S)
theorem F2.weak {S S' : List SD} (w : W S S') : ∀ {l : List (Option SV)}, F2 S l → F2 S' l := by
  induction w with
  | nil => intro l h; exact h
  | rf w ih => intro l h; cases l with
    | nil => exact h.elim
    | cons o l => exact ⟨h.1, ih h.2⟩
  | an w ih => intro l h; cases l with
    | nil => exact h.elim
    | cons o l => exact ⟨trivial, ih h.2⟩
  | cc w ih => intro l h; cases l with
    | nil => exact h.elim
    | cons o l => exact ⟨.inl h.1, ih h.2⟩
  | cz w ih => intro l h; cases l with
    | nil => exact h.elim
    | cons o l => exact ⟨.inr ⟨_, h.1⟩, ih h.2⟩
  | vz w ih => intro l h; cases l with
    | nil => exact h.elim
    | cons o l => exact ⟨.inl h.1, ih h.2⟩
  | vo w ih => intro l h; cases l with
    | nil => exact h.elim
    | cons o l => exact ⟨.inr ⟨_, rfl, h.1⟩, ih h.2⟩
theorem Has.weak {pn : List Nat} {S S' : List SD} {e : Env} (h : Has pn S e) (w : W S S') : Has pn S' e := ⟨h.pn, h.sl.weak w⟩
theorem Has.setS {pn : List Nat} {S : List SD} {e : Env} {s : SD} {v : SV} (h : Has pn S e) (i : Nat) (k : s.ok (some v)) : Has pn (S.set i s) (e.setS i v) := ⟨h.pn, h.sl.set i k⟩
theorem Has.clr {pn : List Nat} {S : List SD} {e : Env} (h : Has pn S e) (i : Nat) : Has pn (S.set i .clr) (e.clr i) := ⟨h.pn, h.sl.set i rfl⟩
inductive Opd where
  | f (d : D) | w (ds : List D) | y (d : D) | v (i : Nat) | u (i : Nat) (d : D) | o (s : SV)
def ROk : RV → Opd → Prop
  | r, .f d => r = .fz d
  | r, .w ds => r = .own (.ol (fzs ds))
  | r, .y d => r = .fz d ∨ ∃ ds, d = .lst ds ∧ r = .own (.ol (fzs ds))
  | r, .v i => r = .var i
  | r, .u i d => r = .fz d ∨ r = .var i
  | r, .o s => r = .own s
inductive Dt (S : List SD) : Opd → D → Prop
  | f {d : D} : Dt S (.f d) d
  | w {ds : List D} : Dt S (.w ds) (.lst ds)
  | y {d : D} : Dt S (.y d) d
  | v {i : Nat} {ds : List D} : S[i]? = some (.ol ds) → Dt S (.v i) (.lst ds)
  | vz {i : Nat} {d : D} : S[i]? = some (.fz d) → Dt S (.v i) d
  | u {i : Nat} {d : D} : S[i]? = some (.val d) → Dt S (.u i d) d
  | o {c : Str} {ns : List Str} {xs : List SV} {d : D} : SV.toD (.oo c ns xs) = d → Dt S (.o (.oo c ns xs)) d
  | x {i : Nat} {c : Str} {ns : List Str} {xs : List SV} {d : D} : S[i]? = some (.x (.oo c ns xs)) → SV.toD (.oo c ns xs) = d → Dt S (.v i) d
section
variable {pn : List Nat} {S S' S1 S2 : List SD} {e : Env} {r : RV} {o : Opd} {d : D}
theorem Has.slot (h : Has pn S e) {i : Nat} {s : SD} (q : S[i]? = some s) : ∃ o, e.sl[i]? = some o ∧ s.ok o := h.sl.get q
theorem view_of {i : Nat} {s : SV} (h : e.sl[i]? = some (some s)) : VF.view e (.var i) = some s.toD := by unfold VF.view; simp only [h]
theorem frz_of {i : Nat} {s : SV} (h : e.sl[i]? = some (some s)) : VF.frzR (.var i) e = some (s.toD, e.setS i (.fz s.toD)) := by unfold VF.frzR; simp only [h]
theorem Dt.view (h : Has pn S e) (k : ROk r o) (q : Dt S o d) : view e r = some d := by
  cases q with
  | f => cases k; rfl
  | w => cases k; show some (SV.toD _) = _; rw [toD_ol]
  | y => rcases k with rfl | ⟨ds, rfl, rfl⟩
         · rfl
         · show some (SV.toD _) = _; rw [toD_ol]
  | v q =>
    cases k
    obtain ⟨o, h1, h2⟩ := h.slot q
    cases h2
    rw [view_of h1, toD_ol]
  | vz q =>
    cases k
    obtain ⟨o, h1, h2⟩ := h.slot q
    cases h2
    rw [view_of h1]; rfl
  | u q =>
    rcases k with rfl | rfl
    · rfl
    · obtain ⟨o, h1, h2⟩ := h.slot q
      rcases h2 with rfl | ⟨ds, rfl, rfl⟩
      · rw [view_of h1]; rfl
      · rw [view_of h1, toD_ol]
  | o e => cases k; subst e; rfl
  | x q e =>
    cases k
    subst e
    obtain ⟨o, h1, h2⟩ := h.slot q
    cases h2
    rw [view_of h1]
inductive Fz (S : List SD) : Opd → D → List SD → Prop
  | f {d : D} : Fz S (.f d) d S
  | w {ds : List D} : Fz S (.w ds) (.lst ds) S
  | y {d : D} : Fz S (.y d) d S
  | v {i : Nat} {ds : List D} : S[i]? = some (.ol ds) → Fz S (.v i) (.lst ds) (S.set i (.fz (.lst ds)))
  | vz {i : Nat} {d : D} : S[i]? = some (.fz d) → Fz S (.v i) d (S.set i (.fz d))
  | u {i : Nat} {d : D} : S[i]? = some (.val d) → Fz S (.u i d) d S
  | o {s : SV} : Fz S (.o s) s.toD S
  | x {i : Nat} {s : SV} : S[i]? = some (.x s) → Fz S (.v i) s.toD (S.set i (.fz s.toD))
theorem F2.same : ∀ {S : List SD} {l : List (Option SV)} {s : SD} {o : Option SV} {i : Nat}, F2 S l → S[i]? = some s → s.ok o → F2 S (l.set i o)
  | s' :: S, o' :: l, s, o, 0, h, q, k => by cases q; exact ⟨k, h.2⟩
  | s' :: S, o' :: l, s, o, i + 1, h, q, k => ⟨h.1, F2.same (i := i) h.2 (by simpa using q) k⟩
  | [], [], _, _, _, _, q, _ => by simp at q
  | [], _ :: _, _, _, _, h, _, _ => h.elim
  | _ :: _, [], _, _, _, h, _, _ => h.elim
theorem Fz.frz (h : Has pn S e) (k : ROk r o) (q : Fz S o d S') : ∃ e', frzR r e = some (d, e') ∧ Has pn S' e' := by
  cases q with
  | f => cases k; exact ⟨e, rfl, h⟩
  | w => cases k; exact ⟨e, by show some (SV.toD _, e) = _; rw [toD_ol], h⟩
  | y => rcases k with rfl | ⟨ds, rfl, rfl⟩
         · exact ⟨e, rfl, h⟩
         · exact ⟨e, by show some (SV.toD _, e) = _; rw [toD_ol], h⟩
  | v q =>
    cases k
    obtain ⟨o, h1, h2⟩ := h.slot q
    cases h2
    exact ⟨_, by rw [frz_of h1, toD_ol], h.setS _ rfl⟩
  | vz q =>
    cases k
    obtain ⟨o, h1, h2⟩ := h.slot q
    cases h2
    exact ⟨_, by rw [frz_of h1]; rfl, h.setS _ rfl⟩
  | u q =>
    rcases k with rfl | rfl
    · exact ⟨e, rfl, h⟩
    · obtain ⟨o, h1, h2⟩ := h.slot q
      rcases h2 with rfl | ⟨ds, rfl, rfl⟩
      · exact ⟨e.setS _ (.fz d), by rw [frz_of h1]; rfl, ⟨h.pn, h.sl.same q (.inl rfl)⟩⟩
      · exact ⟨e.setS _ (.fz (.lst ds)), by rw [frz_of h1, toD_ol], ⟨h.pn, h.sl.same q (.inl rfl)⟩⟩
  | o => cases k; exact ⟨e, rfl, h⟩
  | x q =>
    cases k
    obtain ⟨o, h1, h2⟩ := h.slot q
    cases h2
    exact ⟨_, by rw [frz_of h1], h.setS _ rfl⟩
inductive Fzs : List SD → List Opd → List D → List SD → Prop
  | nil {S : List SD} : Fzs S [] [] S
  | cons {S S1 S2 : List SD} {o : Opd} {os : List Opd} {d : D} {ds : List D} : Fz S o d S1 → Fzs S1 os ds S2 → Fzs S (o :: os) (d :: ds) S2
def ROks : List RV → List Opd → Prop
  | [], [] => True
  | r :: rs, o :: os => ROk r o ∧ ROks rs os
  | _, _ => False
theorem Fzs.frz {os : List Opd} {ds : List D} (q : Fzs S os ds S') : ∀ {e : Env} {rs : List RV}, Has pn S e → ROks rs os → ∃ e', frzRs rs e = some (ds, e') ∧ Has pn S' e' := by
  induction q with
  | nil => intro e rs h k; cases rs with
    | nil => exact ⟨e, rfl, h⟩
    | cons _ _ => exact k.elim
  | cons q1 q2 ih => intro e rs h k; cases rs with
    | nil => exact k.elim
    | cons r rs =>
      obtain ⟨e1, h1, h2⟩ := q1.frz h k.1
      obtain ⟨e2, h3, h4⟩ := ih h2 k.2
      refine ⟨e2, ?_, h4⟩
      unfold frzRs
      simp only [h1, h3]
inductive Dts (S : List SD) : List Opd → List D → Prop
  | nil : Dts S [] []
  | cons {o : Opd} {os : List Opd} {d : D} {ds : List D} : Dt S o d → Dts S os ds → Dts S (o :: os) (d :: ds)
theorem Dts.view {os : List Opd} {ds : List D} (q : Dts S os ds) : ∀ {rs : List RV}, Has pn S e → ROks rs os → rs.mapM (VF.view e) = some ds := by
  induction q with
  | nil => intro rs h k; cases rs with
    | nil => rfl
    | cons _ _ => exact k.elim
  | cons q1 q2 ih => intro rs h k; cases rs with
    | nil => exact k.elim
    | cons r rs => simp [Dt.view h k.1 q1, ih h k.2]
inductive St (S : List SD) (i : Nat) : Opd → List SD → Prop
  | f {d : D} : St S i (.f d) (S.set i (.fz d))
  | w {ds : List D} : St S i (.w ds) (S.set i (.ol ds))
  | y {d : D} : St S i (.y d) (S.set i (.val d))
  | v {j : Nat} {ds : List D} : S[j]? = some (.ol ds) → St S i (.v j) ((S.set j (.fz (.lst ds))).set i (.fz (.lst ds)))
  | u {j : Nat} {d : D} : S[j]? = some (.val d) → St S i (.u j d) ((S.set j (.val d)).set i (.val d))
  | o {s : SV} : St S i (.o s) (S.set i (.x s))
theorem St.put {i : Nat} (h : Has pn S e) (k : ROk r o) (q : St S i o S') (hi : i ∉ pn) : ∃ e', putR i r e = some e' ∧ Has pn S' e' := by
  have hi' : i ∉ e.pn := by rw [h.pn]; exact hi
  unfold putR
  rw [if_neg hi']
  cases q with
  | f => cases k; exact ⟨_, rfl, h.setS (s := .fz _) i rfl⟩
  | w => cases k; exact ⟨_, rfl, h.setS (s := .ol _) i rfl⟩
  | o => cases k; exact ⟨_, rfl, h.setS (s := .x _) i rfl⟩
  | y => rcases k with rfl | ⟨ds, rfl, rfl⟩
         · exact ⟨_, rfl, h.setS (s := .val _) i (.inl rfl)⟩
         · exact ⟨_, rfl, h.setS (s := .val _) i (.inr ⟨_, rfl, rfl⟩)⟩
  | v q =>
    cases k
    obtain ⟨o, h1, h2⟩ := h.slot q
    cases h2
    refine ⟨_, by simp only [h1, toD_ol]; rfl, ?_⟩
    exact (h.setS (s := .fz _) _ rfl).setS (s := .fz _) _ rfl
  | u q =>
    rcases k with rfl | rfl
    · refine ⟨_, rfl, ?_⟩
      rename_i j d
      refine ⟨h.pn, F2.set i ?_ (.inl rfl)⟩
      have same : S.set j (.val d) = S := by
        obtain ⟨hl, hg⟩ := List.getElem?_eq_some_iff.mp q
        exact List.ext_getElem? fun n => by
          rw [List.getElem?_set]
          split
          · rename_i c; subst c; rw [q]
          · rfl
      rw [same]; exact h.sl
    · obtain ⟨o, h1, h2⟩ := h.slot q
      rcases h2 with rfl | ⟨ds, rfl, rfl⟩
      · exact ⟨_, by simp only [h1]; rfl, (h.setS (s := .val _) (v := .fz _) _ (.inl rfl)).setS (s := .val _) (v := .fz _) _ (.inl rfl)⟩
      · exact ⟨_, by simp only [h1, toD_ol], (h.setS (s := .val (.lst ds)) (v := .fz (.lst ds)) _ (.inl rfl)).setS (s := .val (.lst ds)) (v := .fz (.lst ds)) _ (.inl rfl)⟩
end
def SmD {α β : Type} (r : R β) (p : Res α) (G : α → β → Env → Prop) (X : Exc → Env → Prop) : Prop := match p with
  | .st => True
  | .ok a => ∃ b e, r = .ok b e ∧ G a b e
  | .ex x => ∃ e, r = .ex x e ∧ X x e
structure Sm {α β : Type} (r : R β) (p : Res α) (G : α → β → Env → Prop) (X : Exc → Env → Prop) : Prop where
  run : SmD r p G X
section
variable {α β γ δ : Type} {X : Exc → Env → Prop}
theorem Sm.bind {r : R β} {p : Res α} {G : α → β → Env → Prop} {K : β → M δ} {q : α → Res γ} {G' : γ → δ → Env → Prop} (h : Sm r p G X) (k : ∀ a b e, G a b e → Sm (K b e) (q a) G' X) : Sm (r.bind K) (p.bind q) G' X := by
  cases p with
  | st => first | trivial | exact ⟨trivial⟩
  | ok a => obtain ⟨b, e, rfl, h2⟩ := h; exact k a b e h2
  | ex x => obtain ⟨e, rfl, h2⟩ := h; exact ⟨e, rfl, h2⟩
theorem Sm.mono {r : R β} {p : Res α} {G G' : α → β → Env → Prop} {X' : Exc → Env → Prop} (h : Sm r p G X) (k : ∀ a b e, G a b e → G' a b e) (kx : ∀ x e, X x e → X' x e) : Sm r p G' X' := by
  cases p with
  | st => first | trivial | exact ⟨trivial⟩
  | ok a => obtain ⟨b, e, h1, h2⟩ := h; exact ⟨b, e, h1, k _ _ _ h2⟩
  | ex x => obtain ⟨e, h1, h2⟩ := h; exact ⟨e, h1, kx _ _ h2⟩
def okK {β : Type} : β → M β := fun b e => .ok b e
theorem bind_okK (r : R β) : r.bind okK = r := by cases r <;> rfl
theorem Sm.top {r : R β} {p : Res α} {G : α → β → Env → Prop} (h : Sm (r.bind okK) p G X) : Sm r p G X := by rwa [bind_okK] at h
theorem rbind_assoc {a b c : Type} (r : R a) (f : a → M b) (g : b → M c) : (r.bind f).bind g = r.bind fun x e => (f x e).bind g := by cases r <;> rfl
end
def PJ (pn : List Nat) (S : List SD) (m : M RV) (o : Opd) : Prop := ∀ e, Has pn S e → ∃ r, m e = .ok r e ∧ ROk r o
def PB (pn : List Nat) (S : List SD) (m : M Bool) (c : Bool) : Prop := ∀ e, Has pn S e → m e = .ok c e
def PA (pn : List Nat) (S : List SD) (m : M (List RV)) (os : List Opd) : Prop := ∀ e, Has pn S e → ∃ rs, m e = .ok rs e ∧ ROks rs os
section
variable {pn : List Nat} {S : List SD} {a b c : M RV} {oa ob oc : Opd} {ma : M (List RV)} {os : List Opd}
theorem p_fz {i : Nat} {d : D} (q : S[i]? = some (.fz d)) : PJ pn S (dVar i) (.f d) := fun e h => by
  obtain ⟨o, h1, h2⟩ := h.slot q
  cases h2
  exact ⟨.fz d, by unfold dVar; rw [h1], rfl⟩
theorem p_ol {i : Nat} {ds : List D} (q : S[i]? = some (.ol ds)) : PJ pn S (dVar i) (.v i) := fun e h => by
  obtain ⟨o, h1, h2⟩ := h.slot q
  cases h2
  exact ⟨.var i, by unfold dVar; rw [h1], rfl⟩
theorem p_c {d : D} : PJ pn S (dC d) (.f d) := fun e h => ⟨.fz d, rfl, rfl⟩
theorem p_op {fn : D → D → Option D} {x y z : D} (ha : PJ pn S a oa) (hb : PJ pn S b ob) (da : Dt S oa x) (db : Dt S ob y) (h : fn x y = some z) : PJ pn S (dOp fn a b) (.f z) := fun e he => by
  obtain ⟨r1, h1, k1⟩ := ha e he
  obtain ⟨r2, h2, k2⟩ := hb e he
  refine ⟨.fz z, ?_, rfl⟩
  rw [ev_op, h1, bind_ok, h2, bind_ok, da.view he k1, db.view he k2]
  simp only [h]
section
variable {x y : Int} (ha : PJ pn S a oa) (hb : PJ pn S b ob) (da : Dt S oa (.int x) := by first | exact .f | exact .u rfl) (db : Dt S ob (.int y) := by first | exact .f | exact .u rfl)
include ha hb da db
theorem p_int {g : Int → Int → Int} : PJ pn S (dOp (fI g) a b) (.f (.int (g x y))) := p_op ha hb da db rfl
end
section
variable {α : Type} [Enc α] [EqE α] [DecidableEq α] {x y : α} {xs : List α} (ha : PJ pn S a oa) (hb : PJ pn S b ob)
include ha hb
theorem p_ne (da : Dt S oa (enc x) := by first | exact .f | exact .v rfl | exact .vz rfl | exact .w | exact .y | exact .u rfl) (db : Dt S ob (enc y) := by first | exact .f | exact .v rfl | exact .vz rfl | exact .w | exact .y | exact .u rfl) (hd : EqE.dep α ≤ 64 := by decide) : PJ pn S (dOp fNe a b) (.f (.bl (decide (x ≠ y)))) := p_op ha hb da db (fNe_enc x y hd)
end
theorem pa_nil' : PA pn S dNil [] := fun e h => ⟨[], rfl, trivial⟩
theorem pa_cons' {o : Opd} (ha : PJ pn S a o) (hs : PA pn S ma os) : PA pn S (dCons a ma) (o :: os) := fun e h => by
  obtain ⟨r, h1, k1⟩ := ha e h
  obtain ⟨rs, h2, k2⟩ := hs e h
  exact ⟨r :: rs, by rw [ev_cons, h1, bind_ok, h2, bind_ok], k1, k2⟩
theorem p_cb {fn : List D → Option D} {ds : List D} {z : D} (ha : PA pn S ma os) (da : Dts S os ds) (h : fn ds = some z) : PJ pn S (dCB fn ma) (.f z) := fun e he => by
  obtain ⟨rs, h1, k1⟩ := ha e he
  refine ⟨.fz z, ?_, rfl⟩
  rw [ev_cb, h1, bind_ok, da.view he k1]
  simp only [h]
theorem p_len {α : Type} [Enc α] {xs : List α} (ha : PJ pn S a oa) (da : Dt S oa (enc xs) := by first | exact .f | exact .v rfl | exact .vz rfl | exact .w | exact .y | exact .u rfl) : PJ pn S (dCB lenD (dCons a dNil)) (.f (.int xs.length)) :=
  p_cb (pa_cons' ha pa_nil') (.cons da .nil) (by show some (D.int ((xs.map enc).length : Nat)) = _; rw [List.length_map])
theorem p_toInt {x : Int} (ha : PJ pn S a oa) (da : Dt S oa (.int x) := by first | exact .f | exact .u rfl) : PJ pn S (dCB intD (dCons a dNil)) (.f (.int x)) := p_cb (pa_cons' ha pa_nil') (.cons da .nil) rfl
theorem intsOf_enc (xs : List Int) : intsOf (xs.map enc) = some xs := intsOf_map xs
theorem p_sum {xs : List Int} (ha : PJ pn S a oa) (da : Dt S oa (enc xs) := by first | exact .f | exact .v rfl | exact .vz rfl | exact .w | exact .y | exact .u rfl) : PJ pn S (dCB sumD (dCons a dNil)) (.f (.int xs.sum)) :=
  p_cb (pa_cons' ha pa_nil') (.cons da .nil) (by unfold sumD; show (intsOf (xs.map enc)).map _ = _; rw [intsOf_enc]; rfl)
theorem p_isi {d : D} {n t : String} {c : Bool} (ha : PJ pn S a oa) (hb : PJ pn S b (.f (.ty n))) (da : Dt S oa d) (ht : tyName d = some t) (hk : kitB t n = some c) : PJ pn S (dCB isiD (dCons a (dCons b dNil))) (.f (.bl c)) :=
  p_cb (pa_cons' ha (pa_cons' hb pa_nil')) (.cons da (.cons .f .nil)) (by unfold isiD; simp only [ht, hk]; rfl)
inductive Cl : Opd → D → Prop
  | f {d : D} : Cl (.f d) d
  | w {ds : List D} : Cl (.w ds) (.lst ds)
  | y {d : D} : Cl (.y d) d
inductive Cls : List Opd → List D → Prop
  | nil : Cls [] []
  | cons {o : Opd} {os : List Opd} {d : D} {ds : List D} : Cl o d → Cls os ds → Cls (o :: os) (d :: ds)
theorem Cl.frz {o : Opd} {d : D} {r : RV} (q : Cl o d) (k : ROk r o) (e : Env) : frzR r e = some (d, e) := by
  cases q with
  | f => cases k; rfl
  | w => cases k; show some (SV.toD _, e) = _; rw [toD_ol]
  | y => rcases k with rfl | ⟨ds, rfl, rfl⟩
         · rfl
         · show some (SV.toD _, e) = _; rw [toD_ol]
theorem Cls.frz {os : List Opd} {ds : List D} (q : Cls os ds) : ∀ {rs : List RV}, ROks rs os → ∀ e, frzRs rs e = some (ds, e) := by
  induction q with
  | nil => intro rs k e; cases rs with
    | nil => rfl
    | cons _ _ => exact k.elim
  | cons q1 q2 ih => intro rs k e; cases rs with
    | nil => exact k.elim
    | cons r rs =>
      unfold frzRs
      simp only [q1.frz k.1 e, ih k.2 e]
theorem p_new {fn : List D → Option (List D)} {ds es : List D} (ha : PA pn S ma os) (da : Cls os ds) (h : fn ds = some es) : PJ pn S (dNew fn ma) (.w es) := fun e he => by
  obtain ⟨rs, h1, k1⟩ := ha e he
  refine ⟨.own (.ol (fzs es)), ?_, rfl⟩
  show (ma e).bind _ = _
  rw [h1, bind_ok, da.frz k1 e]
  simp only [h]
  rfl
theorem p_list {α : Type} [Enc α] {xs : List α} (ha : PJ pn S a oa) (da : Cl oa (enc xs) := by first | exact .f | exact .w | exact .y) : PJ pn S (dNew listD (dCons a dNil)) (.w (encs xs)) := p_new (pa_cons' ha pa_nil') (.cons da .nil) rfl
theorem p_lst {ds : List D} (ha : PA pn S ma os) (da : Cls os ds) (h : ds.length ≤ 1000000 := by exact Nat.le_of_ble_eq_true rfl) : PJ pn S (dLst ma) (.w ds) := fun e he => by
  obtain ⟨rs, h1, k1⟩ := ha e he
  refine ⟨.own (.ol (fzs ds)), ?_, rfl⟩
  rw [ev_lst, h1, bind_ok, da.frz k1 e]
  simp only
  rw [if_pos (size_ge (by omega))]
section
variable {t u : M Bool} {c1 c2 : Bool}
theorem b_t (ha : PJ pn S a (.f (.bl c1))) : PB pn S (dT a) c1 := fun e h => by
  obtain ⟨r, h1, k1⟩ := ha e h
  cases k1
  rw [ev_t, h1, bind_ok]; rfl
theorem b_tru {d : D} (ha : PJ pn S a oa) (da : Dt S oa d) (q : truD d = some c1) : PB pn S (dTru a) c1 := fun e h => by
  obtain ⟨r, h1, k1⟩ := ha e h
  rw [ev_tru, h1, bind_ok, da.view h k1]
  simp only [Option.bind, q]
theorem b_truB (ha : PJ pn S a oa) (da : Dt S oa (.bl c1) := by first | exact .f | exact .u rfl) : PB pn S (dTru a) c1 := b_tru ha da rfl
theorem b_or (h1 : PB pn S t c1) (h2 : PB pn S u c2) : PB pn S (dOr t u) (c1 || c2) := fun e h => by
  rw [ev_or, h1 e h, bind_ok]; cases c1 with
  | true => rfl
  | false => exact h2 e h
theorem b_not (h1 : PB pn S t c1) : PB pn S (dNot t) (!c1) := fun e h => by rw [ev_not, h1 e h, bind_ok]
theorem p_andV (ha : PJ pn S a (.f (.bl c1))) (hb : PJ pn S b (.f (.bl c2))) : PJ pn S (dAndV a b) (.f (.bl (c1 && c2))) := fun e h => by
  obtain ⟨r, h1, k1⟩ := ha e h
  cases k1
  rw [ev_andV, h1, bind_ok]
  cases c1 with
  | true => exact hb e h
  | false => exact ⟨_, rfl, rfl⟩
theorem p_notV (ha : PJ pn S a (.f (.bl c1))) : PJ pn S (dNotV a) (.f (.bl (!c1))) := fun e h => by
  obtain ⟨r, h1, k1⟩ := ha e h
  cases k1
  exact ⟨_, by rw [ev_notV, h1, bind_ok]; rfl, rfl⟩
theorem chain_ok {f g : D → D → Option D} {x y z : D} (ha : PJ pn S a oa) (hb : PJ pn S b ob) (hc : PJ pn S c oc) (da : Dt S oa x) (db : Dt S ob y) (dc : Dt S oc z) (h1 : f x y = some (.bl c1)) (h2 : g y z = some (.bl c2)) : PJ pn S (dChain f g a b c) (.f (.bl (c1 && c2))) := fun e he => by
  obtain ⟨r1, e1, k1⟩ := ha e he
  obtain ⟨r2, e2, k2⟩ := hb e he
  obtain ⟨r3, e3, k3⟩ := hc e he
  rw [ev_chain, e1, bind_ok, e2, bind_ok, da.view he k1, db.view he k2]
  simp only [h1, Option.bind, blOf_bl]
  cases c1 with
  | false => exact ⟨_, rfl, rfl⟩
  | true =>
    simp only [e3, bind_ok, db.view he k2, dc.view he k3, h2]
    exact ⟨_, rfl, rfl⟩
theorem p_chain {f g : Int → Int → Bool} {x y z : Int} (ha : PJ pn S a oa) (hb : PJ pn S b ob) (hc : PJ pn S c oc) (da : Dt S oa (.int x) := by first | exact .f | exact .u rfl) (db : Dt S ob (.int y) := by first | exact .f | exact .u rfl) (dc : Dt S oc (.int z) := by first | exact .f | exact .u rfl) : PJ pn S (dChain (fB f) (fB g) a b c) (.f (.bl (f x y && g y z))) := chain_ok ha hb hc da db dc rfl rfl
end
end
end VF
set_option maxRecDepth 100000
set_option maxHeartbeats 4000000
namespace VF
set_option autoImplicit false
open PySem L2
open Enc (enc)
def geti {α : Type} (xs : List α) (i : Int) : Res α := match atI xs i with
  | some a => .ok a
  | none => .st
@[irreducible] def ok62 (n : Int) : Bool := small62 n
@[irreducible] def okDiv (y : Int) : Bool := decide (0 < y ∧ y < 1073741824)
@[irreducible] def okMul (x y : Int) : Bool := inB x 64 || inB y 64
@[irreducible] def okPow (x y : Int) : Bool := decide (0 ≤ y ∧ y ≤ 1000000 ∧ x.natAbs < 2 ^ 64)
@[irreducible] def okLt (n : Nat) : Bool := decide (n < sizeLine)
@[irreducible] def okLe (n : Nat) : Bool := decide (n ≤ sizeLine)
@[irreducible] def okLr (n : Int) : Bool := decide (n ≤ 1000000 ∧ -(2 ^ 62) ≤ n)
theorem ok62_eq (n : Int) : ok62 n = small62 n := by rw [ok62]
theorem okLt_eq (n : Nat) : okLt n = decide (n < sizeLine) := by rw [okLt]
theorem okLe_eq (n : Nat) : okLe n = decide (n ≤ sizeLine) := by rw [okLe]
def modR (x y : Int) : Res Int := if 0 < y then .ok (x % y) else .st
def appR {α : Type} (xs : List α) (x : α) : Res (List α) := if okLt xs.length = true then .ok (xs ++ [x]) else .st
def setR {α : Type} (xs : List α) (i : Int) (x : α) : Res (List α) := match ixN xs.length i with
  | some n => .ok (xs.set n x)
  | none => .st
def irng (lo : Int) (n : Nat) : List Int := (List.range n).map fun i => lo + (i : Nat)
def rng1R (n : Int) : Res (List Int) := if ok62 n = true then .ok (irng 0 n.toNat) else .st
inductive Lp (σ τ : Type) where
  | go (s : σ) | bk (s : σ) | out (t : τ)
def forR {α σ τ : Type} (f : α → σ → Res (Lp σ τ)) : List α → σ → (σ → Res τ) → Res τ
  | [], s, k => k s
  | x :: xs, s, k => (f x s).bind fun l => match l with
    | .go s' => forR f xs s' k
    | .bk s' => k s'
    | .out t => .ok t
def foldR {α σ : Type} (f : α → σ → Res σ) : List α → σ → Res σ
  | [], s => .ok s
  | x :: xs, s => (f x s).bind fun s' => foldR f xs s'
def compGo {α β σ : Type} (f : α → σ → Res (Option β × σ)) : List α → σ → List β → Res (List β × σ)
  | [], s, acc => .ok (acc, s)
  | x :: xs, s, acc => match f x s with
    | .ok (some y, s') => compGo f xs s' (acc ++ [y])
    | .ok (none, s') => compGo f xs s' acc
    | _ => .st
def filS {α β σ : Type} (f : α → σ → Res (Option β × σ)) (xs : List α) (s : σ) : Res (List β × σ) := if okLe xs.length = true then compGo f xs s [] else .st
def mapS {α β σ : Type} (f : α → σ → Res (β × σ)) (xs : List α) (s : σ) : Res (List β × σ) := filS (fun x s => (f x s).bind fun p => .ok (some p.1, p.2)) xs s
def filC {α β : Type} (f : α → Res (Option β)) (xs : List α) : Res (List β) := (filS (fun x (_ : Unit) => (f x).bind fun o => .ok (o, ())) xs ()).bind fun p => .ok p.1
def mapC {α β : Type} (f : α → Res β) (xs : List α) : Res (List β) := filC (fun x => (f x).bind fun y => .ok (some y)) xs
section
variable {α β γ δ σ τ : Type} {pn : List Nat} {S S' S1 S2 : List SD} {e : Env} {X : Exc → Env → Prop} {P : Res α} {G : α → γ → Env → Prop} {r q : RV} {o oa ob oc : Opd} {d x y z : D}
theorem c_pure {a : M RV} {K : RV → M γ} (h : Has pn S e) (ha : PJ pn S a o) (k : ∀ r, ROk r o → Sm (K r e) P G X) : Sm ((a e).bind K) P G X := by
  obtain ⟨r, h1, k1⟩ := ha e h
  rw [h1]; exact k r k1
theorem c_pureB {t : M Bool} {c : Bool} {K : Bool → M γ} (h : Has pn S e) (ht : PB pn S t c) (k : Sm (K c e) P G X) : Sm ((t e).bind K) P G X := by
  rw [ht e h]; exact k
theorem c_pureA {a : M (List RV)} {os : List Opd} {K : List RV → M γ} (h : Has pn S e) (ha : PA pn S a os) (k : ∀ rs, ROks rs os → Sm (K rs e) P G X) : Sm ((a e).bind K) P G X := by
  obtain ⟨r, h1, k1⟩ := ha e h
  rw [h1]; exact k r k1
def seqK (b : M Fl) (K : Fl → M γ) : Fl → M γ := fun f => match f with
  | .nx => fun e => (b e).bind K
  | f => K f
theorem c_seq {a b : M Fl} {K : Fl → M γ} (k : Sm ((a e).bind (seqK b K)) P G X) : Sm ((dSeq a b e).bind K) P G X := by
  have : (dSeq a b e).bind K = (a e).bind (seqK b K) := by
    unfold dSeq M.bind
    cases a e with
    | st => rfl
    | ok f e => cases f <;> rfl
    | ex x e => rfl
  rw [this]; exact k
def setK (i : Nat) (K : Fl → M γ) : RV → M γ := fun r e => match putR i r e with
  | some e' => K .nx e'
  | none => .st
theorem c_set {i : Nat} {a : M RV} {K : Fl → M γ} (k : Sm ((a e).bind (setK i K)) P G X) : Sm ((dSet i a e).bind K) P G X := by
  have : (dSet i a e).bind K = (a e).bind (setK i K) := by
    unfold dSet M.bind
    cases a e with
    | st => rfl
    | ok f e =>
      show R.bind (match putR i f e with | some e' => R.ok Fl.nx e' | none => R.st) K = setK i K f e
      unfold setK
      cases putR i f e <;> rfl
    | ex x e => rfl
  rw [this]; exact k
theorem f_set {i : Nat} {K : Fl → M γ} (h : Has pn S e) (ho : ROk r o) (s : St S i o S') (hi : i ∉ pn) (k : ∀ e', Has pn S' e' → Sm (K .nx e') P G X) : Sm (setK i K r e) P G X := by
  obtain ⟨e', h1, h2⟩ := s.put h ho hi
  unfold setK; simp only [h1]; exact k e' h2
def retK (K : Fl → M γ) : RV → M γ := fun r e => K (.rt r) e
theorem c_ret {a : M RV} {K : Fl → M γ} (k : Sm ((a e).bind (retK K)) P G X) : Sm ((dRet a e).bind K) P G X := by
  have : (dRet a e).bind K = (a e).bind (retK K) := by
    unfold dRet M.bind
    cases a e <;> rfl
  rw [this]; exact k
def dropK (K : Fl → M γ) : RV → M γ := fun _ e => K .nx e
theorem c_drop {a : M RV} {K : Fl → M γ} (k : Sm ((a e).bind (dropK K)) P G X) : Sm ((dDrop a e).bind K) P G X := by
  have : (dDrop a e).bind K = (a e).bind (dropK K) := by
    unfold dDrop M.bind
    cases a e <;> rfl
  rw [this]; exact k
def ifK (a b : M Fl) (K : Fl → M γ) : Bool → M γ := fun c e => match c with
  | true => (a e).bind K
  | false => (b e).bind K
theorem c_if {t : M Bool} {a b : M Fl} {K : Fl → M γ} (k : Sm ((t e).bind (ifK a b K)) P G X) : Sm ((dIf t a b e).bind K) P G X := by
  have : (dIf t a b e).bind K = (t e).bind (ifK a b K) := by
    unfold dIf M.bind
    cases t e with
    | st => rfl
    | ok c e => cases c <;> rfl
    | ex x e => rfl
  rw [this]; exact k
theorem f_if {c : Bool} {a b : M Fl} {K : Fl → M γ} {P1 P2 : Res α} (k1 : c = true → Sm ((a e).bind K) P1 G X) (k2 : c = false → Sm ((b e).bind K) P2 G X) : Sm (ifK a b K c e) (if c = true then P1 else P2) G X := by
  cases c with
  | true => exact k1 rfl
  | false => exact k2 rfl
theorem c_next {K : Fl → M γ} (k : Sm (K .nx e) P G X) : Sm ((dNext e).bind K) P G X := k
def opK2 (fn : D → D → Option D) (r : RV) (K : RV → M γ) : RV → M γ := fun q e => match view e r, view e q with
  | some x, some y => (match fn x y with
    | some d => K (.fz d) e
    | none => .st)
  | _, _ => .st
def opK1 (fn : D → D → Option D) (b : M RV) (K : RV → M γ) : RV → M γ := fun r e => (b e).bind (opK2 fn r K)
theorem c_op {fn : D → D → Option D} {a b : M RV} {K : RV → M γ} (k : Sm ((a e).bind (opK1 fn b K)) P G X) : Sm ((dOp fn a b e).bind K) P G X := by
  have : (dOp fn a b e).bind K = (a e).bind (opK1 fn b K) := by
    rw [ev_op, rbind_assoc]
    congr 1; funext r e
    unfold opK1
    rw [rbind_assoc]
    congr 1; funext q e
    unfold opK2
    cases view e r with
    | none => rfl
    | some x => cases view e q with
      | none => rfl
      | some y => simp only; cases fn x y <;> rfl
  rw [this]; exact k
theorem c_op2 {fn : D → D → Option D} {b : M RV} {K : RV → M γ} (k : Sm ((b e).bind (opK2 fn r K)) P G X) : Sm (opK1 fn b K r e) P G X := k
theorem f_op {fn : D → D → Option D} {K : RV → M γ} (h : Has pn S e) (k1 : ROk r oa) (k2 : ROk q ob) (da : Dt S oa x) (db : Dt S ob y) (hf : fn x y = some z) (k : Sm (K (.fz z) e) P G X) : Sm (opK2 fn r K q e) P G X := by
  unfold opK2
  rw [da.view h k1, db.view h k2]
  simp only [hf]; exact k
section
variable {i j : Int} {K : RV → M γ} {k : Int → Res α} (h : Has pn S e) (k1 : ROk r oa) (k2 : ROk q ob) (da : Dt S oa (.int i) := by first | exact .f | exact .u rfl) (db : Dt S ob (.int j) := by first | exact .f | exact .u rfl)
include h k1 k2 da db
theorem f_int {g : Int → Int → Int} (kk : Sm (K (.fz (.int (g i j))) e) P G X) : Sm (opK2 (fI g) r K q e) P G X := f_op h k1 k2 da db rfl kk
theorem f_mod (kk : ∀ v, Sm (K (.fz (.int v)) e) (k v) G X) : Sm (opK2 fMod r K q e) ((modR i j).bind k) G X := by
  by_cases c : 0 < j
  · unfold modR; rw [if_pos c]; exact f_op h k1 k2 da db (if_pos c) (kk _)
  · unfold modR; rw [if_neg c]; first | trivial | exact ⟨trivial⟩
end
def tK (K : Bool → M γ) : RV → M γ := fun r e => match view e r with
  | some (.bl b) => K b e
  | _ => .st
theorem c_t {a : M RV} {K : Bool → M γ} (k : Sm ((a e).bind (tK K)) P G X) : Sm ((dT a e).bind K) P G X := by
  have : (dT a e).bind K = (a e).bind (tK K) := by
    rw [ev_t, rbind_assoc]
    congr 1; funext r e
    unfold tK
    cases view e r with
    | none => rfl
    | some d => cases d <;> rfl
  rw [this]; exact k
theorem f_t {c : Bool} {K : Bool → M γ} (h : Has pn S e) (k1 : ROk r o) (kk : Sm (K c e) P G X) (da : Dt S o (.bl c) := by first | exact .f | exact .u rfl) : Sm (tK K r e) P G X := by
  unfold tK; rw [da.view h k1]; exact kk
def truK (K : Bool → M γ) : RV → M γ := fun r e => match (view e r).bind truD with
  | some b => K b e
  | none => .st
theorem c_tru {a : M RV} {K : Bool → M γ} (k : Sm ((a e).bind (truK K)) P G X) : Sm ((dTru a e).bind K) P G X := by
  have : (dTru a e).bind K = (a e).bind (truK K) := by
    rw [ev_tru, rbind_assoc]
    congr 1; funext r e
    unfold truK
    cases (view e r).bind truD <;> rfl
  rw [this]; exact k
theorem f_tru {c : Bool} {K : Bool → M γ} (h : Has pn S e) (k1 : ROk r o) (da : Dt S o d) (hd : truD d = some c) (kk : Sm (K c e) P G X) : Sm (truK K r e) P G X := by
  unfold truK; rw [da.view h k1]; simp only [Option.bind, hd]; exact kk
def orK (u : M Bool) (K : Bool → M γ) : Bool → M γ := fun c e => match c with
  | true => K true e
  | false => (u e).bind K
theorem c_or {t u : M Bool} {K : Bool → M γ} (k : Sm ((t e).bind (orK u K)) P G X) : Sm ((dOr t u e).bind K) P G X := by
  have : (dOr t u e).bind K = (t e).bind (orK u K) := by
    unfold dOr M.bind
    cases t e with
    | st => rfl
    | ok c e => cases c <;> rfl
    | ex x e => rfl
  rw [this]; exact k
def notK (K : Bool → M γ) : Bool → M γ := fun c e => K (!c) e
theorem c_not {t : M Bool} {K : Bool → M γ} (k : Sm ((t e).bind (notK K)) P G X) : Sm ((dNot t e).bind K) P G X := by
  have : (dNot t e).bind K = (t e).bind (notK K) := by
    unfold dNot M.bind
    cases t e <;> rfl
  rw [this]; exact k
theorem f_not {c : Bool} {K : Bool → M γ} (kk : Sm (K (!c) e) P G X) : Sm (notK K c e) P G X := kk
def Tb (pn : List Nat) (S : List SD) : Bool → Bool → Env → Prop := fun b b' e => b' = b ∧ Has pn S e
theorem f_tb {c : Bool} (h : Has pn S e) : Sm (okK c e) (.ok c) (Tb pn S) X := ⟨c, e, rfl, rfl, h⟩
theorem f_or {c : Bool} {u : M Bool} {P1 : Res Bool} {K : Bool → M γ} {k : Bool → Res α} (h : Has pn S e) (k1 : c = false → Sm ((u e).bind okK) P1 (Tb pn S) X) (kk : ∀ b e', Has pn S e' → Sm (K b e') (k b) G X) : Sm (orK u K c e) ((if c = true then .ok true else P1).bind k) G X := by
  cases c with
  | false => exact (k1 rfl).top.bind fun a b e' hj => by obtain ⟨rfl, hj⟩ := hj; exact kk _ _ hj
  | true => exact kk _ _ h
theorem f_orP {c c2 : Bool} {u : M Bool} {K : Bool → M γ} (h : Has pn S e) (hu : PB pn S u c2) (k : Sm (K (c || c2) e) P G X) : Sm (orK u K c e) P G X := by
  cases c with
  | true => exact k
  | false => show Sm ((u e).bind K) P G X; rw [hu e h]; exact k
def ixK2 (r : RV) (K : RV → M γ) : RV → M γ := fun q e => match view e q with
  | some (.int i) => (match itemR e r i with
    | some d => K (.fz d) e
    | none => .st)
  | _ => .st
def ixK1 (b : M RV) (K : RV → M γ) : RV → M γ := fun r e => (b e).bind (ixK2 r K)
theorem c_ix {a b : M RV} {K : RV → M γ} (k : Sm ((a e).bind (ixK1 b K)) P G X) : Sm ((dIx a b e).bind K) P G X := by
  have : (dIx a b e).bind K = (a e).bind (ixK1 b K) := by
    rw [ev_ix, rbind_assoc]
    congr 1; funext r e
    unfold ixK1
    rw [rbind_assoc]
    congr 1; funext q e
    unfold ixK2
    cases view e q with
    | none => rfl
    | some x => cases x <;> first | rfl | (simp only; cases itemR e r _ <;> rfl)
  rw [this]; exact k
theorem c_ix2 {b : M RV} {K : RV → M γ} (k : Sm ((b e).bind (ixK2 r K)) P G X) : Sm (ixK1 b K r e) P G X := k
theorem item_dt {ds : List D} {i : Int} (h : Has pn S e) (k : ROk r o) (q : Dt S o (.lst ds)) : itemR e r i = atI ds i := by
  cases q with
  | f => cases k; rfl
  | w => cases k; exact kid_map ds i
  | y => rcases k with rfl | ⟨ds', e1, rfl⟩
         · rfl
         · cases e1; exact kid_map ds i
  | v q =>
    cases k
    obtain ⟨o, h1, h2⟩ := h.slot q
    cases h2
    show (match e.sl[_]? with | some (some s) => itemS s i | _ => none) = _
    rw [h1]; exact kid_map ds i
  | vz q =>
    cases k
    obtain ⟨o, h1, h2⟩ := h.slot q
    cases h2
    show (match e.sl[_]? with | some (some s) => itemS s i | _ => none) = _
    rw [h1]; rfl
  | u q =>
    rcases k with rfl | rfl
    · rfl
    · obtain ⟨o, h1, h2⟩ := h.slot q
      show (match e.sl[_]? with | some (some s) => itemS s i | _ => none) = _
      rcases h2 with rfl | ⟨ds', e1, rfl⟩
      · rw [h1]; rfl
      · cases e1; rw [h1]; exact kid_map ds i
  | o e => cases e
  | x q e => cases e
theorem f_ix {ω : Type} [Enc ω] {xs : List ω} {i : Int} {K : RV → M γ} {k : ω → Res α} (h : Has pn S e) (k1 : ROk r oa) (k2 : ROk q ob) (kk : ∀ v, Sm (K (.fz (enc v)) e) (k v) G X) (da : Dt S oa (enc xs) := by first | exact .f | exact .v rfl | exact .vz rfl | exact .w | exact .y | exact .u rfl) (db : Dt S ob (.int i) := by first | exact .f | exact .u rfl) : Sm (ixK2 r K q e) ((geti xs i).bind k) G X := by
  unfold ixK2
  rw [db.view h k2]
  simp only
  rw [item_dt h k1 da]
  unfold geti
  rw [atI_map]
  cases atI xs i with
  | none => first | trivial | exact ⟨trivial⟩
  | some v => exact kk v
end
end VF
set_option maxRecDepth 100000
set_option maxHeartbeats 4000000
namespace VF
set_option autoImplicit false
open PySem L2
open Enc (enc)
section
variable {α β γ δ σ τ : Type} {pn : List Nat} {S S' S1 S2 : List SD} {e : Env} {X : Exc → Env → Prop} {P : Res α} {G : α → γ → Env → Prop} {r q : RV} {o oa ob oc : Opd} {d x y z : D}
def consK2 (r : RV) (K : List RV → M γ) : List RV → M γ := fun rs e => K (r :: rs) e
def consK1 (b : M (List RV)) (K : List RV → M γ) : RV → M γ := fun r e => (b e).bind (consK2 r K)
theorem c_cons {a : M RV} {b : M (List RV)} {K : List RV → M γ} (k : Sm ((a e).bind (consK1 b K)) P G X) : Sm ((dCons a b e).bind K) P G X := by
  have : (dCons a b e).bind K = (a e).bind (consK1 b K) := by
    rw [ev_cons, rbind_assoc]
    congr 1; funext r e
    unfold consK1
    rw [rbind_assoc]
    rfl
  rw [this]; exact k
theorem c_cons2 {b : M (List RV)} {K : List RV → M γ} (k : Sm ((b e).bind (consK2 r K)) P G X) : Sm (consK1 b K r e) P G X := k
theorem f_cons {rs : List RV} {K : List RV → M γ} (k : Sm (K (r :: rs) e) P G X) : Sm (consK2 r K rs e) P G X := k
theorem c_nil {K : List RV → M γ} (k : Sm (K [] e) P G X) : Sm ((dNil e).bind K) P G X := k
def cbK (fn : List D → Option D) (K : RV → M γ) : List RV → M γ := fun rs e => match rs.mapM (view e) with
  | some xs => (match fn xs with
    | some d => K (.fz d) e
    | none => .st)
  | none => .st
theorem c_cb {fn : List D → Option D} {a : M (List RV)} {K : RV → M γ} (k : Sm ((a e).bind (cbK fn K)) P G X) : Sm ((dCB fn a e).bind K) P G X := by
  have : (dCB fn a e).bind K = (a e).bind (cbK fn K) := by
    rw [ev_cb, rbind_assoc]
    congr 1; funext r e
    unfold cbK
    cases r.mapM (view e) with
    | none => rfl
    | some x => simp only; cases fn x <;> rfl
  rw [this]; exact k
theorem f_cb {fn : List D → Option D} {rs : List RV} {os : List Opd} {ds : List D} {K : RV → M γ} (h : Has pn S e) (kr : ROks rs os) (da : Dts S os ds) (hf : fn ds = some d) (k : Sm (K (.fz d) e) P G X) : Sm (cbK fn K rs e) P G X := by
  unfold cbK; rw [da.view h kr]; simp only [hf]; exact k
def lstK (K : RV → M γ) : List RV → M γ := fun rs e => match frzRs rs e with
  | some (ds, e') => if ds.length ≤ sizeLine then K (.own (.ol (fzs ds))) e' else .st
  | none => .st
theorem c_lst {a : M (List RV)} {K : RV → M γ} (k : Sm ((a e).bind (lstK K)) P G X) : Sm ((dLst a e).bind K) P G X := by
  have : (dLst a e).bind K = (a e).bind (lstK K) := by
    rw [ev_lst, rbind_assoc]
    congr 1; funext r e
    unfold lstK
    cases frzRs r e with
    | none => rfl
    | some x => simp only; split <;> rfl
  rw [this]; exact k
theorem f_lst {rs : List RV} {os : List Opd} {ds : List D} {K : RV → M γ} (h : Has pn S e) (kr : ROks rs os) (da : Fzs S os ds S') (hl : ds.length ≤ 1000000) (k : ∀ r e', ROk r (.w ds) → Has pn S' e' → Sm (K r e') P G X) : Sm (lstK K rs e) P G X := by
  obtain ⟨e', h1, h2⟩ := da.frz h kr
  unfold lstK; rw [h1]; simp only
  rw [if_pos (size_ge (by omega))]
  exact k _ _ rfl h2
theorem rngD_enc (lo : Int) (n : Nat) : rngD lo n = (irng lo n).map enc := by
  unfold rngD irng
  rw [List.map_map]
  rfl
def appK (i : Nat) (K : RV → M γ) : RV → M γ := fun r e => match frzR r e with
    | some (d, e1) => (match e1.sl[i]? with
      | some (some (.ol xs)) => if xs.length < sizeLine then K (.fz .non) (e1.setS i (.ol (xs ++ [.fz d]))) else .st
      | _ => .st)
    | none => .st
theorem c_app {i : Nat} {ds : List D} {a : M RV} {K : RV → M γ} (h : Has pn S e) (hi : S[i]? = some (.ol ds)) (k : Sm ((a e).bind (appK i K)) P G X) : Sm ((dApp i a e).bind K) P G X := by
  obtain ⟨o, h1, h2⟩ := h.slot hi
  cases h2
  have : (dApp i a e).bind K = (a e).bind (appK i K) := by
    rw [ev_app, h1]
    simp only [rbind_assoc]
    congr 1; funext r e
    unfold appK
    cases frzR r e with
    | none => rfl
    | some p =>
      simp only
      cases p.2.sl[i]? with
      | none => rfl
      | some o => cases o with
        | none => rfl
        | some s => cases s <;> first | rfl | (simp only; split <;> rfl)
  rw [this]; exact k
theorem f_app {ω : Type} [Enc ω] {i : Nat} {xs : List ω} {v : ω} {K : RV → M γ} {k : List ω → Res α} (h : Has pn S e) (kr : ROk r o) (da : Fz S o (enc v) S') (hi : S'[i]? = some (.ol (encs xs))) (kk : ∀ v r e', ROk r (.f .non) → Has pn (S'.set i (.ol (encs v))) e' → Sm (K r e') (k v) G X) : Sm (appK i K r e) ((appR xs v).bind k) G X := by
  obtain ⟨e', h1, h2⟩ := da.frz h kr
  obtain ⟨o', h3, h4⟩ := h2.slot hi
  cases h4
  unfold appK appR
  rw [h1]
  simp only [h3, fzs_len, encs, List.length_map, okLt_eq, decide_eq_true_eq]
  split
  · refine kk (xs ++ [v]) _ _ rfl (h2.setS i ?_)
    simp [SD.ok, fzs]
  · first | trivial | exact ⟨trivial⟩
def siK2 (j : Nat) (r : RV) (K : Fl → M γ) : RV → M γ := fun q e => match view e q with
    | some (.int k) => (match frzR r e with
      | some (d, e1) => (match e1.sl[j]? with
        | some (some (.ol xs)) => (match ixN xs.length k with
          | some n => K .nx (e1.setS j (.ol (xs.set n (.fz d))))
          | none => .st)
        | _ => .st)
      | none => .st)
    | _ => .st
def siK1 (j : Nat) (b : M RV) (K : Fl → M γ) : RV → M γ := fun r e => match e.sl[j]? with
  | some (some (.ol _)) => (b e).bind (siK2 j r K)
  | _ => .st
theorem c_setIx {j : Nat} {a b : M RV} {K : Fl → M γ} (k : Sm ((a e).bind (siK1 j b K)) P G X) : Sm ((dSetIx j b a e).bind K) P G X := by
  have : (dSetIx j b a e).bind K = (a e).bind (siK1 j b K) := by
    rw [ev_setIx, rbind_assoc]
    congr 1; funext r e
    unfold siK1
    cases e.sl[j]? with
    | none => rfl
    | some o => cases o with
      | none => rfl
      | some s => cases s with
        | ol xs =>
          simp only [rbind_assoc]
          congr 1; funext q e
          unfold siK2
          cases view e q with
          | none => rfl
          | some d => cases d with
            | int n =>
              simp only
              cases frzR r e with
              | none => rfl
              | some p =>
                simp only
                cases p.2.sl[j]? with
                | none => rfl
                | some o => cases o with
                  | none => rfl
                  | some s => cases s <;> first | rfl | (simp only; cases ixN _ _ <;> rfl)
            | _ => rfl
        | _ => rfl
  rw [this]; exact k
theorem c_setIx2 {j : Nat} {b : M RV} {ds : List D} {K : Fl → M γ} (h : Has pn S e) (hi : S[j]? = some (.ol ds)) (k : Sm ((b e).bind (siK2 j r K)) P G X) : Sm (siK1 j b K r e) P G X := by
  obtain ⟨o', h3, h4⟩ := h.slot hi
  cases h4
  unfold siK1
  rw [h3]; exact k
theorem f_setIx {ω : Type} [Enc ω] {j : Nat} {n : Int} {xs : List ω} {v : ω} {K : Fl → M γ} {k : List ω → Res α} (h : Has pn S e) (kr : ROk r o) (kq : ROk q ob) (da : Fz S o (enc v) S') (hi : S'[j]? = some (.ol (encs xs))) (kk : ∀ v e', Has pn (S'.set j (.ol (encs v))) e' → Sm (K .nx e') (k v) G X) (db : Dt S ob (.int n) := by first | exact .f | exact .u rfl) : Sm (siK2 j r K q e) ((setR xs n v).bind k) G X := by
  obtain ⟨e', h1, h2⟩ := da.frz h kr
  obtain ⟨o', h3, h4⟩ := h2.slot hi
  cases h4
  unfold siK2 setR
  rw [db.view h kq]
  simp only [h1, h3, fzs_len, encs, List.length_map]
  cases ixN xs.length n with
  | none => first | trivial | exact ⟨trivial⟩
  | some m =>
    refine kk (xs.set m v) _ (h2.setS j ?_)
    simp [SD.ok, encs, List.map_set]
def itK (K : List D → M γ) : RV → M γ := fun r e => match frzR r e with
  | some (d, e1) => (match walk d with
    | some ds => K ds e1
    | none => .st)
  | none => .st
theorem c_it {a : M RV} {K : List D → M γ} (k : Sm ((a e).bind (itK K)) P G X) : Sm ((dIt a e).bind K) P G X := by
  have : (dIt a e).bind K = (a e).bind (itK K) := by
    rw [ev_it, rbind_assoc]
    congr 1; funext r e
    unfold itK
    cases frzR r e with
    | none => rfl
    | some p => simp only; cases walk p.1 <;> rfl
  rw [this]; exact k
theorem f_it {ω : Type} [Enc ω] {xs : List ω} {K : List D → M γ} (h : Has pn S e) (kr : ROk r o) (da : Fz S o (enc xs) S') (k : ∀ e', Has pn S' e' → Sm (K (xs.map enc) e') P G X) : Sm (itK K r e) P G X := by
  obtain ⟨e', h1, h2⟩ := da.frz h kr
  unfold itK; rw [h1]; exact k _ h2
def rg1K (K : List D → M γ) : List RV → M γ := fun rs e => match rs.mapM (view e) with
  | some ds => (match oneI ds with
    | some j => if small62 j = true then K (rngD 0 j.toNat) e else .st
    | none => .st)
  | none => .st
theorem c_rng1 {a : M (List RV)} {K : List D → M γ} (k : Sm ((a e).bind (rg1K K)) P G X) : Sm ((dRng1 a e).bind K) P G X := by
  have : (dRng1 a e).bind K = (a e).bind (rg1K K) := by
    rw [ev_rng1, rbind_assoc]
    congr 1; funext r e
    unfold rg1K
    cases r.mapM (view e) with
    | none => rfl
    | some ds => simp only; cases oneI ds with
      | none => rfl
      | some j => simp only; split <;> rfl
  rw [this]; exact k
theorem f_rng1 {j : Int} {K : List D → M γ} {k : List Int → Res α} (h : Has pn S e) (kr : ROk r o) (kk : ∀ v : List Int, Sm (K (v.map enc) e) (k v) G X) (da : Dt S o (.int j) := by first | exact .f | exact .u rfl) : Sm (rg1K K [r] e) ((rng1R j).bind k) G X := by
  unfold rg1K rng1R
  rw [(Dts.cons da .nil).view h (rs := [r]) ⟨kr, trivial⟩]
  simp only [oneI_int, ok62_eq]
  split
  · rw [rngD_enc]; exact kk _
  · first | trivial | exact ⟨trivial⟩
def zipK (K : List D → M γ) : List RV → M γ := fun rs e => match frzRs rs e with
  | some (ds, e1) => (match twoL ds with
    | some (xs, ys) => K (zipD xs ys) e1
    | none => .st)
  | none => .st
theorem c_zip {a : M (List RV)} {K : List D → M γ} (k : Sm ((a e).bind (zipK K)) P G X) : Sm ((dZip a e).bind K) P G X := by
  have : (dZip a e).bind K = (a e).bind (zipK K) := by
    unfold dZip
    rw [mbind, rbind_assoc]
    congr 1; funext r e
    unfold zipK
    cases frzRs r e with
    | none => rfl
    | some p => simp only; cases twoL p.1 <;> rfl
  rw [this]; exact k
theorem zipD_enc {ω ψ : Type} [Enc ω] [Enc ψ] (xs : List ω) (ys : List ψ) : zipD (xs.map enc) (ys.map enc) = (xs.zip ys).map enc := by
  unfold zipD
  rw [List.zip_map, List.map_map]
  rfl
theorem f_zip {ω ψ : Type} [Enc ω] [Enc ψ] {xs : List ω} {ys : List ψ} {K : List D → M γ} (h : Has pn S e) (kr : ROk r o) (kq : ROk q ob) (da : Fz S o (enc xs) S1) (db : Fz S1 ob (enc ys) S') (k : ∀ e', Has pn S' e' → Sm (K ((xs.zip ys).map enc) e') P G X) : Sm (zipK K [r, q] e) P G X := by
  obtain ⟨e', h1, h2⟩ := (Fzs.cons da (.cons db .nil)).frz h (rs := [r, q]) ⟨kr, kq, trivial⟩
  unfold zipK; rw [h1]
  show Sm (K (zipD (xs.map enc) (ys.map enc)) e') P G X
  rw [zipD_enc]
  exact k _ h2
end
end VF
set_option maxRecDepth 100000
set_option maxHeartbeats 4000000
namespace VF
set_option autoImplicit false
open PySem L2
open Enc (enc)
section
variable {α β γ δ σ τ ω ψ : Type} {pn : List Nat} {S S' S1 S2 : List SD} {e : Env} {X : Exc → Env → Prop} {P : Res α} {G : α → γ → Env → Prop} {r q : RV} {o oa ob oc : Opd} {d x y z : D}
def TG (pn : List Nat) (S : List SD) (g : Tg) (d : D) (S' : List SD) : Prop := ∀ e, Has pn S e → ∃ e', g d e = some e' ∧ Has pn S' e'
def TGs (pn : List Nat) (S : List SD) (g : Tgs) (ds : List D) (S' : List SD) : Prop := ∀ e, Has pn S e → ∃ e', g ds e = some e' ∧ Has pn S' e'
theorem tg_n {i : Nat} (hi : i ∉ pn := by decide) : TG pn S (gN i) d (S.set i (.fz d)) := fun e h => St.put (o := .f d) (r := .fz d) h rfl .f hi
theorem tgs_no : TGs pn S gNo [] S := fun e h => ⟨e, rfl, h⟩
theorem tgs_co {g : Tg} {g' : Tgs} {ds : List D} (h1 : TG pn S g d S1) (h2 : TGs pn S1 g' ds S2) : TGs pn S (gCo g g') (d :: ds) S2 := fun e h => by
  obtain ⟨e1, k1, k2⟩ := h1 e h
  obtain ⟨e2, k3, k4⟩ := h2 e1 k2
  exact ⟨e2, by unfold gCo; simp only [k1, k3], k4⟩
theorem tg_tup {n : Nat} {g : Tgs} {ds : List D} (h : TGs pn S g ds S') (hn : ds.length = n := by rfl) : TG pn S (gTp n g) (.tup ds) S' := fun e he => by
  obtain ⟨e', k1, k2⟩ := h e he
  exact ⟨e', by unfold gTp; simp only [hn, if_true, k1], k2⟩
def forK (g : Tg) (body : M Fl) (K : Fl → M γ) : List D → M γ := fun ds e => (loopF g body ds e).bind K
theorem c_for {it : M (List D)} {g : Tg} {body : M Fl} {K : Fl → M γ} (k : Sm ((it e).bind (forK g body K)) P G X) : Sm ((dFor it g body e).bind K) P G X := by
  have : (dFor it g body e).bind K = (it e).bind (forK g body K) := by
    unfold dFor
    rw [mbind, rbind_assoc]
    rfl
  rw [this]; exact k
def GB (pn : List Nat) (I : σ → List SD) (K : Fl → M γ) (G : α → γ → Env → Prop) (X : Exc → Env → Prop) : Lp σ α → Fl → Env → Prop
  | .go s, f, e => (f = .nx ∨ f = .ct) ∧ Has pn (I s) e
  | .bk s, f, e => f = .bk ∧ Has pn (I s) e
  | .out t, f, e => (∃ r, f = .rt r) ∧ Sm (K f e) (.ok t) G X
theorem loopF_cons {g : Tg} {body : M Fl} {ds : List D} : loopF g body (d :: ds) e = match g d e with
    | none => R.st
    | some e1 => (body e1).bind fun f e2 => match f with
      | .nx => loopF g body ds e2
      | .ct => loopF g body ds e2
      | .bk => .ok .nx e2
      | .rt r => .ok (.rt r) e2 := by
  show (match g d e with
      | none => R.st
      | some e1 => (match body e1 with
        | .ok .nx e2 => loopF g body ds e2
        | .ok .ct e2 => loopF g body ds e2
        | .ok .bk e2 => .ok .nx e2
        | .ok (.rt r) e2 => .ok (.rt r) e2
        | .ex x e2 => .ex x e2
        | .st => .st)) = _
  cases g d e with
  | none => rfl
  | some e1 =>
    simp only
    cases body e1 with
    | st => rfl
    | ok f e2 => cases f <;> rfl
    | ex x e2 => rfl
theorem f_for [Enc ω] {xs : List ω} {g : Tg} {body : M Fl} {f : ω → σ → Res (Lp σ α)} {k : σ → Res α} {K : Fl → M γ} {I1 : ω → σ → List SD} (I : σ → List SD) (tg : ∀ x s, TG pn (I s) g (enc x) (I1 x s))
    (step : ∀ x s e, Has pn (I1 x s) e → Sm ((body e).bind okK) (f x s) (GB pn I K G X) X) (kk : ∀ s e', Has pn (I s) e' → Sm (K .nx e') (k s) G X) : ∀ {s0 : σ} {S : List SD} {e : Env}, Has pn S e → (w : W S (I s0) := by first | exact W.refl _ | (repeat (first | exact W.nil | refine W.rf ?_ | refine W.cz ?_ | refine W.cc ?_ | refine W.vz ?_ | refine W.vo ?_ | refine W.an ?_))) → Sm (forK g body K (xs.map enc) e) (forR f xs s0 k) G X := by
  have main : ∀ (xs : List ω) (s0 : σ) (e : Env), Has pn (I s0) e → Sm (forK g body K (xs.map enc) e) (forR f xs s0 k) G X := by
    intro xs
    induction xs with
    | nil => intro s0 e h; exact kk _ _ h
    | cons x xs ih =>
      intro s0 e h
      obtain ⟨e1, h1, h2⟩ := tg x s0 e h
      show Sm ((loopF g body (enc x :: xs.map enc) e).bind K) _ G X
      rw [loopF_cons, h1]
      simp only
      rw [rbind_assoc]
      unfold forR
      refine (step x s0 e1 h2).top.bind fun l fl e2 hj => ?_
      cases l with
      | go s =>
        obtain ⟨h3, h4⟩ := hj
        rcases h3 with rfl | rfl <;> exact ih s e2 h4
      | bk s =>
        obtain ⟨rfl, h4⟩ := hj
        exact kk s e2 h4
      | out t =>
        obtain ⟨⟨r, rfl⟩, h4⟩ := hj
        exact h4
  intro s0 S e h w
  exact main xs s0 e (h.weak w)
def Jc (pn : List Nat) (I : σ → List SD) : σ → Fl → Env → Prop := fun s f e => (f = .nx ∨ f = .ct) ∧ Has pn (I s) e
theorem f_fold [Enc ω] {xs : List ω} {g : Tg} {body : M Fl} {f : ω → σ → Res σ} {k : σ → Res α} {K : Fl → M γ} {I1 : ω → σ → List SD} (I : σ → List SD) (tg : ∀ x s, TG pn (I s) g (enc x) (I1 x s))
    (step : ∀ x s e, Has pn (I1 x s) e → Sm ((body e).bind okK) (f x s) (Jc pn I) X) (kk : ∀ s e', Has pn (I s) e' → Sm (K .nx e') (k s) G X) : ∀ {s0 : σ} {S : List SD} {e : Env}, Has pn S e → (w : W S (I s0) := by first | exact W.refl _ | (repeat (first | exact W.nil | refine W.rf ?_ | refine W.cz ?_ | refine W.cc ?_ | refine W.vz ?_ | refine W.vo ?_ | refine W.an ?_))) → Sm (forK g body K (xs.map enc) e) ((foldR f xs s0).bind k) G X := by
  have main : ∀ (xs : List ω) (s0 : σ) (e : Env), Has pn (I s0) e → Sm (forK g body K (xs.map enc) e) ((foldR f xs s0).bind k) G X := by
    intro xs
    induction xs with
    | nil => intro s0 e h; exact kk _ _ h
    | cons x xs ih =>
      intro s0 e h
      obtain ⟨e1, h1, h2⟩ := tg x s0 e h
      show Sm ((loopF g body (enc x :: xs.map enc) e).bind K) _ G X
      rw [loopF_cons, h1]
      simp only
      rw [rbind_assoc]
      unfold foldR
      rw [Res.bind_assoc]
      refine (step x s0 e1 h2).top.bind fun s fl e2 hj => ?_
      obtain ⟨h3, h4⟩ := hj
      rcases h3 with rfl | rfl <;> exact ih s e2 h4
  intro s0 S e h w
  exact main xs s0 e (h.weak w)
theorem f_jc {I : σ → List SD} {s : σ} (h : Has pn S e) (w : W S (I s) := by first | exact W.refl _ | (repeat (first | exact W.nil | refine W.rf ?_ | refine W.cz ?_ | refine W.cc ?_ | refine W.vz ?_ | refine W.vo ?_ | refine W.an ?_))) : Sm (okK Fl.nx e) (.ok s) (Jc pn I) X := ⟨.nx, e, rfl, .inl rfl, h.weak w⟩
theorem f_go {I : σ → List SD} {K : Fl → M γ} {s : σ} (h : Has pn S e) (w : W S (I s) := by first | exact W.refl _ | (repeat (first | exact W.nil | refine W.rf ?_ | refine W.cz ?_ | refine W.cc ?_ | refine W.vz ?_ | refine W.vo ?_ | refine W.an ?_))) : Sm (okK Fl.nx e) (.ok (.go s)) (GB pn I K G X) X := ⟨.nx, e, rfl, .inl rfl, h.weak w⟩
theorem f_out {I : σ → List SD} {K : Fl → M γ} {t : α} (k : Sm (K (.rt r) e) (.ok t) G X) : Sm (okK (Fl.rt r) e) (.ok (.out t)) (GB pn I K G X) X := ⟨.rt r, e, rfl, ⟨r, rfl⟩, k⟩
def wipeS : List Nat → List SD → List SD
  | [], S => S
  | v :: vs, S => (wipeS vs S).set v .clr
theorem wipe_has (h : Has pn S e) : ∀ own, Has pn (wipeS own S) (wipeE own e)
  | [] => h
  | v :: vs => (wipe_has h vs).clr v
def cfS : SD → Bool
  | .fz _ => true
  | .clr => true
  | .cf => true
  | _ => false
def restS : List Nat → List SD → List SD → List SD
  | [], _, T => T
  | v :: vs, S, T => match S[v]? with
    | some s => restS vs S (T.set v s)
    | none => T
def restB : List Nat → List SD → List SD → Bool
  | [], _, _ => true
  | v :: vs, S, T => !vs.contains v && (match S[v]? with
    | some s => cfS s && (match T[v]? with
      | some .clr => restB vs S (T.set v s)
      | _ => false)
    | none => false)
theorem rest_has {e0 : Env} (h0 : Has pn S e0) : ∀ (own : List Nat) {T : List SD} {e : Env}, restB own S T = true → Has pn T e → ∃ e', restE own e0 e = some e' ∧ Has pn (restS own S T) e'
  | [], T, e, _, h => ⟨e, rfl, h⟩
  | v :: vs, T, e, hb, h => by
    unfold restB at hb
    rw [Bool.and_eq_true] at hb
    obtain ⟨b1, b2⟩ := hb
    cases q : S[v]? with
    | none => rw [q] at b2; cases b2
    | some s =>
      rw [q] at b2
      simp only [Bool.and_eq_true] at b2
      obtain ⟨b3, b4⟩ := b2
      cases q2 : T[v]? with
      | none => rw [q2] at b4; cases b4
      | some t =>
        rw [q2] at b4
        cases t with
        | clr =>
          simp only at b4
          obtain ⟨o, h1, h2⟩ := h0.slot q
          obtain ⟨o2, h3, h4⟩ := h.slot q2
          cases h4
          have hc : isClr e v = true := by unfold isClr; rw [h3]
          have hcont : vs.contains v = false := by simpa using b1
          have two : o = none ∨ ∃ d, o = some (.fz d) := by
            cases s with
            | fz d => exact .inr ⟨d, h2⟩
            | clr => exact .inl h2
            | cf => exact h2
            | _ => cases b3
          rcases two with rfl | ⟨d, rfl⟩
          · have h5 : Has pn (T.set v s) e := ⟨h.pn, by
              have := h.sl.set v h2
              rwa [show e.sl.set v none = e.sl from List.ext_getElem? fun n => by
                rw [List.getElem?_set]; split
                · rename_i c; subst c; split
                  · exact h3.symm
                  · rename_i hh; exact (List.getElem?_eq_none (by omega)).symm
                · rfl] at this⟩
            obtain ⟨e', k1, k2⟩ := rest_has h0 vs b4 h5
            refine ⟨e', ?_, by unfold restS; rw [q]; exact k2⟩
            unfold restE
            rw [if_neg (by rw [hcont]; decide), if_pos hc, h1]
            exact k1
          · have h5 : Has pn (T.set v s) (e.setS v (.fz d)) := h.setS v h2
            obtain ⟨e', k1, k2⟩ := rest_has h0 vs b4 h5
            refine ⟨e', ?_, by unfold restS; rw [q]; exact k2⟩
            unfold restE
            rw [if_neg (by rw [hcont]; decide), if_pos hc, h1]
            exact k1
        | _ => cases b4
def compK (own : List Nat) (g : Tg) (tt : M Bool) (te : M RV) (K : RV → M γ) : List D → M γ := fun ds e0 => if noPn own e0 = true then (match loopC own g tt te ds [] (wipeE own e0) with
  | .ok acc e1 => (match restE own e0 e1 with
    | some e2 => K (.own (.ol (fzs acc))) e2
    | none => .st)
  | _ => .st) else .st
theorem c_comp {own : List Nat} {it : M (List D)} {g : Tg} {tt : M Bool} {te : M RV} {K : RV → M γ} (k : Sm ((it e).bind (compK own g tt te K)) P G X) : Sm ((dComp own it g tt te e).bind K) P G X := by
  have : (dComp own it g tt te e).bind K = (it e).bind (compK own g tt te K) := by
    unfold dComp
    rw [mbind, rbind_assoc]
    congr 1; funext ds e0
    unfold compK
    split
    · cases loopC own g tt te ds [] (wipeE own e0) with
      | st => rfl
      | ok acc e1 => simp only; cases restE own e0 e1 <;> rfl
      | ex x e1 => rfl
    · rfl
  rw [this]; exact k
def cmpK (te : M RV) (K : Option RV → M γ) : Bool → M γ := fun b e => match b with
  | true => (te e).bind fun r e => K (some r) e
  | false => K none e
def GC [Enc ψ] (pn : List Nat) (own : List Nat) (I : σ → List SD) : (Option ψ × σ) → Option RV → Env → Prop
  | (some v, s), some r, e => ∃ o S2 S3, Has pn S2 e ∧ ROk r o ∧ Fz S2 o (enc v) S3 ∧ W (wipeS own S3) (I s)
  | (none, s), none, e => ∃ S2, Has pn S2 e ∧ W (wipeS own S2) (I s)
  | _, _, _ => False
theorem noPn_of {own : List Nat} (h : Has pn S e) (hp : (own.all fun v => !pn.contains v) = true) : noPn own e = true := by
  unfold noPn; rw [h.pn]; exact hp
theorem comp_go [Enc ω] [Enc ψ] {own : List Nat} {g : Tg} {tt : M Bool} {te : M RV} {f : ω → σ → Res (Option ψ × σ)} {I1 : ω → σ → List SD} {X' : Exc → Env → Prop} (I : σ → List SD) (hp : (own.all fun v => !pn.contains v) = true) (tg : ∀ x s, TG pn (I s) g (enc x) (I1 x s))
    (step : ∀ x s e, Has pn (I1 x s) e → Sm ((tt e).bind (cmpK te okK)) (f x s) (GC pn own I) X') : ∀ (xs : List ω) (s : σ) (acc : List ψ) (e : Env) ys s', Has pn (I s) e → acc.length + xs.length ≤ sizeLine → compGo f xs s acc = .ok (ys, s') → ∃ e', loopC own g tt te (xs.map enc) (acc.map enc) e = .ok (ys.map enc) e' ∧ Has pn (I s') e'
  | [], s, acc, e, ys, s', h, _, q => by cases q; exact ⟨e, rfl, h⟩
  | x :: xs, s, acc, e, ys, s', h, hl, q => by
    obtain ⟨e1, h1, h2⟩ := tg x s e h
    have st := step x s e1 h2
    rw [List.length_cons] at hl
    show ∃ e', loopC own g tt te (enc x :: xs.map enc) (acc.map enc) e = _ ∧ _
    unfold compGo at q
    unfold loopC
    simp only [h1]
    cases z : f x s with
    | st => rw [z] at q; cases q
    | ex x' => rw [z] at q; cases q
    | ok p =>
      rw [z] at q st
      obtain ⟨b, e4, h4, h5⟩ := st
      cases z2 : tt e1 with
      | st => rw [z2] at h4; cases h4
      | ex x' e5 => rw [z2] at h4; cases h4
      | ok t e2 =>
        rw [z2, bind_ok] at h4
        cases t with
        | false =>
          have h4' : okK (none : Option RV) e2 = .ok b e4 := h4
          cases h4'
          obtain ⟨o, s1⟩ := p
          cases o with
          | some v => exact h5.elim
          | none =>
            obtain ⟨S2, k1, k2⟩ := h5
            simp only at q ⊢
            rw [if_pos (noPn_of k1 hp)]
            exact comp_go I hp tg step xs s1 acc _ ys s' ((wipe_has k1 own).weak k2) (by omega) q
        | true =>
          have h4' : ((te e2).bind fun r e => okK (some r) e) = .ok b e4 := h4
          cases z3 : te e2 with
          | st => rw [z3] at h4'; cases h4'
          | ex x' e5 => rw [z3] at h4'; cases h4'
          | ok r e3 =>
            rw [z3, bind_ok] at h4'
            cases h4'
            obtain ⟨o, s1⟩ := p
            cases o with
            | none => exact h5.elim
            | some v =>
              obtain ⟨oo, S2, S3, k1, k2, k3, k4⟩ := h5
              obtain ⟨e5, k5, k6⟩ := k3.frz k1 k2
              simp only [z3, k5] at q ⊢
              rw [if_pos (by rw [noPn_of k6 hp, Bool.and_true]; exact decide_eq_true (by rw [List.length_map]; omega))]
              have := comp_go I hp tg step xs s1 (acc ++ [v]) _ ys s' ((wipe_has k6 own).weak k4) (by rw [List.length_append, List.length_singleton]; omega) q
              rwa [List.map_append] at this
theorem f_filS [Enc ω] [Enc ψ] {own : List Nat} {xs : List ω} {g : Tg} {tt : M Bool} {te : M RV} {f : ω → σ → Res (Option ψ × σ)} {I1 : ω → σ → List SD} {K : RV → M γ} {k : List ψ × σ → Res α} {s0 : σ} (I : σ → List SD) (h : Has pn S e) (w : W (wipeS own S) (I s0)) (tg : ∀ x s, TG pn (I s) g (enc x) (I1 x s))
    (step : ∀ x s e, Has pn (I1 x s) e → Sm ((tt e).bind (cmpK te okK)) (f x s) (GC pn own I) fun _ _ => True) (J : σ → List SD) (kk : ∀ ys s r e', ROk r (.w (encs ys)) → Has pn (J s) e' → Sm (K r e') (k (ys, s)) G X)
    (hp : (own.all fun v => !pn.contains v) = true := by decide) (hr : ∀ s, restB own S (I s) = true := by intro _; rfl) (hw : ∀ s, W (restS own S (I s)) (J s) := by exact fun _ => W.refl _) : Sm (compK own g tt te K (xs.map enc) e) ((filS f xs s0).bind k) G X := by
  unfold filS
  rw [okLe_eq]
  split
  · rename_i hz
    rw [decide_eq_true_iff] at hz
    cases q : compGo f xs s0 [] with
    | st => first | trivial | exact ⟨trivial⟩
    | ex x =>
      exfalso
      have : ∀ (xs : List ω) (s : σ) (acc : List ψ) x, compGo f xs s acc ≠ .ex x := by
        intro xs
        induction xs with
        | nil => intro s acc x h; cases h
        | cons y ys ih =>
          intro s acc x h
          unfold compGo at h
          split at h
          · exact ih _ _ _ h
          · exact ih _ _ _ h
          · cases h
      exact this _ _ _ _ q
    | ok p =>
      obtain ⟨ys, s'⟩ := p
      obtain ⟨e1, h1, h2⟩ := comp_go I hp tg step xs s0 [] _ ys s' ((wipe_has h own).weak w) (by simpa using hz) q
      obtain ⟨e2, h3, h4⟩ := rest_has h own (hr s') h2
      unfold compK
      rw [if_pos (noPn_of h hp)]
      have h1' : loopC own g tt te (xs.map enc) [] (wipeE own e) = .ok (ys.map enc) e1 := h1
      rw [h1']
      simp only [h3]
      exact kk ys s' _ e2 rfl (h4.weak (hw s'))
  · first | trivial | exact ⟨trivial⟩
def GE [Enc ψ] (pn : List Nat) (own : List Nat) (I : List SD) : ψ → RV → Env → Prop := fun v r e => ∃ o S2 S3, Has pn S2 e ∧ ROk r o ∧ Fz S2 o (enc v) S3 ∧ W (wipeS own S3) I
def GEo [Enc ψ] (pn : List Nat) (own : List Nat) (I : List SD) : Option ψ → Option RV → Env → Prop
  | some v, some r, e => ∃ o S2 S3, Has pn S2 e ∧ ROk r o ∧ Fz S2 o (enc v) S3 ∧ W (wipeS own S3) I
  | none, none, e => ∃ S2, Has pn S2 e ∧ W (wipeS own S2) I
  | _, _, _ => False
def GEs [Enc ψ] (pn : List Nat) (own : List Nat) (I : σ → List SD) : ψ × σ → RV → Env → Prop := fun v r e => ∃ o S2 S3, Has pn S2 e ∧ ROk r o ∧ Fz S2 o (enc v.1) S3 ∧ W (wipeS own S3) (I v.2)
theorem f_el [Enc ψ] {own : List Nat} {I S3 : List SD} {v : ψ} (h : Has pn S e) (kr : ROk r o) (da : Fz S o (enc v) S3 := by first | exact .f | exact .w | exact .y | exact .v rfl | exact .vz rfl | exact .u rfl) (w : W (wipeS own S3) I := by first | exact W.refl _ | (repeat (first | exact W.nil | refine W.rf ?_ | refine W.cz ?_ | refine W.cc ?_ | refine W.vz ?_ | refine W.vo ?_ | refine W.an ?_))) : Sm (okK r e) (.ok v) (GE pn own I) X := ⟨r, e, rfl, o, S, S3, h, kr, da, w⟩
theorem f_elS [Enc ψ] {own : List Nat} {I : σ → List SD} {S3 : List SD} {v : ψ} {s : σ} (h : Has pn S e) (kr : ROk r o) (da : Fz S o (enc v) S3 := by first | exact .f | exact .w | exact .y | exact .v rfl | exact .vz rfl | exact .u rfl) (w : W (wipeS own S3) (I s) := by first | exact W.refl _ | (repeat (first | exact W.nil | refine W.rf ?_ | refine W.cz ?_ | refine W.cc ?_ | refine W.vz ?_ | refine W.vo ?_ | refine W.an ?_))) : Sm (okK r e) (.ok (v, s)) (GEs pn own I) X := ⟨r, e, rfl, o, S, S3, h, kr, da, w⟩
theorem f_mapS [Enc ω] [Enc ψ] {own : List Nat} {xs : List ω} {g : Tg} {te : M RV} {f : ω → σ → Res (ψ × σ)} {I1 : ω → σ → List SD} {K : RV → M γ} {k : List ψ × σ → Res α} {s0 : σ} (I : σ → List SD) (h : Has pn S e) (w : W (wipeS own S) (I s0)) (tg : ∀ x s, TG pn (I s) g (enc x) (I1 x s))
    (step : ∀ x s e, Has pn (I1 x s) e → Sm ((te e).bind okK) (f x s) (GEs pn own I) fun _ _ => True) (J : σ → List SD) (kk : ∀ ys s r e', ROk r (.w (encs ys)) → Has pn (J s) e' → Sm (K r e') (k (ys, s)) G X)
    (hp : (own.all fun v => !pn.contains v) = true := by decide) (hr : ∀ s, restB own S (I s) = true := by intro _; rfl) (hw : ∀ s, W (restS own S (I s)) (J s) := by exact fun _ => W.refl _) : Sm (compK own g dYes te K (xs.map enc) e) ((mapS f xs s0).bind k) G X := by
  refine f_filS I h w tg (fun x s e he => ?_) J kk hp hr hw
  show Sm ((te e).bind fun r e => okK (some r) e) _ _ _
  refine (step x s e he).top.bind fun p r e' hj => ?_
  obtain ⟨o, S2, S3, k1, k2, k3, k4⟩ := hj
  exact ⟨some r, e', rfl, o, S2, S3, k1, k2, k3, k4⟩
theorem f_filC [Enc ω] [Enc ψ] {own : List Nat} {xs : List ω} {g : Tg} {tt : M Bool} {te : M RV} {f : ω → Res (Option ψ)} {I1 : ω → List SD} {K : RV → M γ} {k : List ψ → Res α} (h : Has pn S e) (tg : ∀ x, TG pn (wipeS own S) g (enc x) (I1 x))
    (step : ∀ x e, Has pn (I1 x) e → Sm ((tt e).bind (cmpK te okK)) (f x) (GEo pn own (wipeS own S)) fun _ _ => True) (kk : ∀ ys r e', ROk r (.w (encs ys)) → Has pn S e' → Sm (K r e') (k ys) G X)
    (hp : (own.all fun v => !pn.contains v) = true := by decide) (hr : restB own S (wipeS own S) = true := by rfl) (hw : W (restS own S (wipeS own S)) S := by exact W.refl _) : Sm (compK own g tt te K (xs.map enc) e) ((filC f xs).bind k) G X := by
  unfold filC
  rw [Res.bind_assoc]
  have w : ∀ S : List SD, W S S := fun S => by induction S with
    | nil => exact .nil
    | cons s S ih => exact .rf ih
  refine f_filS (σ := Unit) (I1 := fun x _ => I1 x) (fun _ => wipeS own S) h (w _) (fun x _ => tg x) (fun x s e he => ?_) (fun _ => S) (fun ys s r e' kr he => kk ys r e' kr he) hp (fun _ => hr) (fun _ => hw)
  have := step x e he
  cases z : f x with
  | st => first | trivial | exact ⟨trivial⟩
  | ex x' => rw [z] at this; exact ⟨this.run⟩
  | ok o =>
    rw [z] at this
    obtain ⟨b, e', h1, h2⟩ := this
    refine ⟨b, e', h1, ?_⟩
    cases o with
    | none => cases b with
      | none => exact h2
      | some r => exact h2.elim
    | some v => cases b with
      | none => exact h2.elim
      | some r => exact h2
theorem f_mapC [Enc ω] [Enc ψ] {own : List Nat} {xs : List ω} {g : Tg} {te : M RV} {f : ω → Res ψ} {I1 : ω → List SD} {K : RV → M γ} {k : List ψ → Res α} (h : Has pn S e) (tg : ∀ x, TG pn (wipeS own S) g (enc x) (I1 x))
    (step : ∀ x e, Has pn (I1 x) e → Sm ((te e).bind okK) (f x) (GE pn own (wipeS own S)) fun _ _ => True) (kk : ∀ ys r e', ROk r (.w (encs ys)) → Has pn S e' → Sm (K r e') (k ys) G X)
    (hp : (own.all fun v => !pn.contains v) = true := by decide) (hr : restB own S (wipeS own S) = true := by rfl) (hw : W (restS own S (wipeS own S)) S := by exact W.refl _) : Sm (compK own g dYes te K (xs.map enc) e) ((mapC f xs).bind k) G X := by
  unfold mapC
  refine f_filC h tg (fun x e he => ?_) kk hp hr hw
  show Sm ((te e).bind fun r e => okK (some r) e) _ _ _
  refine (step x e he).top.bind fun p r e' hj => ?_
  obtain ⟨o, S2, S3, k1, k2, k3, k4⟩ := hj
  exact ⟨some r, e', rfl, o, S2, S3, k1, k2, k3, k4⟩
inductive Ld : List SD → List Bool → List Opd → List SV → List SD → Prop
  | nil {S : List SD} : Ld S [] [] [] S
  | f {S S1 S2 : List SD} {md : List Bool} {o : Opd} {os : List Opd} {d : D} {ss : List SV} : Fz S o d S1 → Ld S1 md os ss S2 → Ld S (false :: md) (o :: os) (.fz d :: ss) S2
  | t {S S2 : List SD} {md : List Bool} {i : Nat} {os : List Opd} {ds : List D} {ss : List SV} : S[i]? = some (.ol ds) → Ld (S.set i .clr) md os ss S2 → Ld S (true :: md) (.v i :: os) (.ol (fzs ds) :: ss) S2
  | x {S S2 : List SD} {md : List Bool} {i : Nat} {os : List Opd} {s : SV} {ss : List SV} : S[i]? = some (.x s) → Ld (S.set i .clr) md os ss S2 → Ld S (true :: md) (.v i :: os) (s :: ss) S2
theorem Ld.load {md : List Bool} {os : List Opd} {ss : List SV} (q : Ld S md os ss S') : ∀ {e : Env} {rs : List RV}, Has pn S e → ROks rs os → ∃ e', load md rs e = some (ss, e') ∧ Has pn S' e' := by
  induction q with
  | nil => intro e rs h k; cases rs with
    | nil => exact ⟨e, rfl, h⟩
    | cons _ _ => exact k.elim
  | f q1 q2 ih => intro e rs h k; cases rs with
    | nil => exact k.elim
    | cons r rs =>
      obtain ⟨e1, h1, h2⟩ := q1.frz h k.1
      obtain ⟨e2, h3, h4⟩ := ih h2 k.2
      exact ⟨e2, by unfold VF.load loadOne; simp only [h1, h3], h4⟩
  | t q1 q2 ih => intro e rs h k; cases rs with
    | nil => exact k.elim
    | cons r rs =>
      obtain ⟨k1, k2⟩ := k
      cases k1
      obtain ⟨o, h1, h2⟩ := h.slot q1
      cases h2
      obtain ⟨e2, h3, h4⟩ := ih (h.clr _) k2
      exact ⟨e2, by unfold VF.load loadOne; simp only [h1, h3], h4⟩
  | x q1 q2 ih => intro e rs h k; cases rs with
    | nil => exact k.elim
    | cons r rs =>
      obtain ⟨k1, k2⟩ := k
      cases k1
      obtain ⟨o, h1, h2⟩ := h.slot q1
      cases h2
      obtain ⟨e2, h3, h4⟩ := ih (h.clr _) k2
      exact ⟨e2, by unfold VF.load loadOne; simp only [h1, h3], h4⟩
inductive Ul : List SD → List Bool → List Opd → List SV → List SD → Prop
  | nil {S : List SD} : Ul S [] [] [] S
  | f {S S2 : List SD} {md : List Bool} {o : Opd} {os : List Opd} {s : SV} {ss : List SV} : Ul S md os ss S2 → Ul S (false :: md) (o :: os) (s :: ss) S2
  | t {S S2 : List SD} {md : List Bool} {i : Nat} {os : List Opd} {ds : List D} {ss : List SV} : S[i]? = some .clr → Ul (S.set i (.ol ds)) md os ss S2 → Ul S (true :: md) (.v i :: os) (.ol (fzs ds) :: ss) S2
  | x {S S2 : List SD} {md : List Bool} {i : Nat} {os : List Opd} {s : SV} {ss : List SV} : S[i]? = some .clr → Ul (S.set i (.x s)) md os ss S2 → Ul S (true :: md) (.v i :: os) (s :: ss) S2
theorem Ul.unload {md : List Bool} {os : List Opd} {ss : List SV} (q : Ul S md os ss S') : ∀ {e : Env} {rs : List RV}, Has pn S e → ROks rs os → ∃ e', unload md rs ss e = some e' ∧ Has pn S' e' := by
  induction q with
  | nil => intro e rs h k; cases rs with
    | nil => exact ⟨e, rfl, h⟩
    | cons _ _ => exact k.elim
  | f q2 ih => intro e rs h k; cases rs with
    | nil => exact k.elim
    | cons r rs =>
      obtain ⟨e2, h3, h4⟩ := ih h k.2
      exact ⟨e2, by rw [ul_false]; exact h3, h4⟩
  | t q1 q2 ih => intro e rs h k; cases rs with
    | nil => exact k.elim
    | cons r rs =>
      obtain ⟨k1, k2⟩ := k
      cases k1
      obtain ⟨o, h1, h2⟩ := h.slot q1
      cases h2
      obtain ⟨e2, h3, h4⟩ := ih (h.setS _ (s := .ol _) rfl) k2
      refine ⟨e2, ?_, h4⟩
      rw [ul_true]
      rw [if_pos (by unfold isClr; rw [h1])]
      exact h3
  | x q1 q2 ih => intro e rs h k; cases rs with
    | nil => exact k.elim
    | cons r rs =>
      obtain ⟨k1, k2⟩ := k
      cases k1
      obtain ⟨o, h1, h2⟩ := h.slot q1
      cases h2
      obtain ⟨e2, h3, h4⟩ := ih (h.setS _ (s := .x _) rfl) k2
      refine ⟨e2, ?_, h4⟩
      rw [ul_true]
      rw [if_pos (by unfold isClr; rw [h1])]
      exact h3
def FSD (rz : Bool) (φr : FR) (p : Res τ) (ro : τ → SV) (au : τ → List SV) : Prop := match p with
  | .st => True
  | .ok t => φr = .ok (ro t) (au t)
  | .ex x => rz = true ∧ ∃ as, φr = .ex x as
structure FS (rz : Bool) (φr : FR) (p : Res τ) (ro : τ → SV) (au : τ → List SV) : Prop where
  run : FSD rz φr p ro au
def callK (md : List Bool) (φ : Fn) (K : RV → M γ) : List RV → M γ := fun rs e => match load md rs e with
  | some (ss, e1) => (match φ ss with
    | .st => .st
    | .ok r ss' => (match unload md rs ss' e1 with
      | some e2 => K (svR r) e2
      | none => .st)
    | .ex x ss' => (match unload md rs ss' e1 with
      | some e2 => .ex x e2
      | none => .st))
  | none => .st
theorem c_call {md : List Bool} {φ : Fn} {a : M (List RV)} {K : RV → M γ} (k : Sm ((a e).bind (callK md φ K)) P G X) : Sm ((dCall md φ a e).bind K) P G X := by
  have : (dCall md φ a e).bind K = (a e).bind (callK md φ K) := by
    rw [ev_call, rbind_assoc]
    congr 1; funext rs e
    unfold callK
    cases load md rs e with
    | none => rfl
    | some p =>
      simp only
      cases φ p.1 with
      | st => rfl
      | ok r ss' => simp only; cases unload md rs ss' p.2 <;> rfl
      | ex x ss' => simp only; cases unload md rs ss' p.2 <;> rfl
  rw [this]; exact k
theorem f_call {md : List Bool} {φ : Fn} {rs : List RV} {os : List Opd} {ss : List SV} {p : Res τ} {ro : τ → SV} {au : τ → List SV} {oo : τ → Opd} {S2 : τ → List SD} {K : RV → M γ} {k : τ → Res α} (h : Has pn S e) (kr : ROks rs os) (ld : Ld S md os ss S1) (hf : FS false (φ ss) p ro au) (ul : ∀ t, Ul S1 md os (au t) (S2 t)) (ho : ∀ t, ROk (svR (ro t)) (oo t))
    (kk : ∀ t r e', ROk r (oo t) → Has pn (S2 t) e' → Sm (K r e') (k t) G X) : Sm (callK md φ K rs e) (p.bind k) G X := by
  obtain ⟨e1, h1, h2⟩ := ld.load h kr
  unfold callK
  rw [h1]
  cases p with
  | st => first | trivial | exact ⟨trivial⟩
  | ex x => cases hf.run.1
  | ok t =>
    have hf' : φ ss = .ok (ro t) (au t) := hf.run
    obtain ⟨e2, h3, h4⟩ := (ul t).unload h2 kr
    simp only [hf', h3]
    exact kk t _ e2 (ho t) h4
def callBK (n : Nat) (φ : Fn) (K : RV → M γ) : List RV → M γ := fun rs e => match rs.mapM (view e) with
  | some ds => if ds.length = n then (match φ (ds.map .fz) with
    | .ok r _ => (match immS r with
      | some d => K (.fz d) e
      | none => .st)
    | .ex x _ => .ex x e
    | .st => .st) else .st
  | none => .st
theorem c_callB {n : Nat} {φ : Fn} {a : M (List RV)} {K : RV → M γ} (k : Sm ((a e).bind (callBK n φ K)) P G X) : Sm ((dCallB n φ a e).bind K) P G X := by
  have : (dCallB n φ a e).bind K = (a e).bind (callBK n φ K) := by
    rw [ev_callB, rbind_assoc]
    congr 1; funext rs e
    unfold callBK
    cases rs.mapM (view e) with
    | none => rfl
    | some ds =>
      simp only
      split
      · cases φ (ds.map .fz) with
        | st => rfl
        | ok r ss' => simp only; cases immS r <;> rfl
        | ex x ss' => rfl
      · rfl
  rw [this]; exact k
theorem f_callB [Enc τ] {n : Nat} {φ : Fn} {rs : List RV} {os : List Opd} {ds : List D} {p : Res τ} {au : τ → List SV} {K : RV → M γ} {k : τ → Res α} (h : Has pn S e) (kr : ROks rs os) (da : Dts S os ds) (hn : ds.length = n) (hf : FS false (φ (ds.map .fz)) p (fun t => .fz (enc t)) au) (hi : ∀ t : τ, immS (.fz (enc t)) = some (enc t))
    (kk : ∀ t r, ROk r (.f (enc t)) → Sm (K r e) (k t) G X) : Sm (callBK n φ K rs e) (p.bind k) G X := by
  unfold callBK
  rw [da.view h kr]
  simp only
  rw [if_pos hn]
  cases p with
  | st => first | trivial | exact ⟨trivial⟩
  | ex x => cases hf.run.1
  | ok t =>
    have hf' : φ (ds.map .fz) = .ok (.fz (enc t)) (au t) := hf.run
    rw [hf']
    simp only [hi t]
    exact kk t _ rfl
theorem imm_I (t : Int) : immS (.fz (enc t)) = some (enc t) := (rfl)
theorem imm_B (t : Bool) : immS (.fz (enc t)) = some (enc t) := (rfl)
inductive Rs (pn : List Nat) (S : List SD) : Opd → SV → List SD → Prop
  | f {d : D} : Rs pn S (.f d) (.fz d) S
  | w {ds : List D} : Rs pn S (.w ds) (.ol (fzs ds)) S
  | v {i : Nat} {ds : List D} : S[i]? = some (.ol ds) → i ∉ pn → Rs pn S (.v i) (.ol (fzs ds)) (S.set i .clr)
  | x {i : Nat} {s : SV} : S[i]? = some (.x s) → i ∉ pn → Rs pn S (.v i) s (S.set i .clr)
  | o {s : SV} : Rs pn S (.o s) s S
inductive Os : List SD → Nat → List Bool → List SV → List SV → Prop
  | nil {S : List SD} {i : Nat} : Os S i [] [] []
  | f {S : List SD} {i : Nat} {md : List Bool} {s : SV} {ss as : List SV} : Os S (i + 1) md ss as → Os S i (false :: md) (s :: ss) (s :: as)
  | t {S : List SD} {i : Nat} {md : List Bool} {s : SV} {ds : List D} {ss as : List SV} : S[i]? = some (.ol ds) → Os (S.set i .clr) (i + 1) md ss as → Os S i (true :: md) (s :: ss) (.ol (fzs ds) :: as)
  | x {S : List SD} {i : Nat} {md : List Bool} {s s' : SV} {ss as : List SV} : S[i]? = some (.x s') → Os (S.set i .clr) (i + 1) md ss as → Os S i (true :: md) (s :: ss) (s' :: as)
theorem Rs.res {s : SV} (q : Rs pn S o s S') (h : Has pn S e) (kr : ROk r o) : ∃ e', resOf (.rt r) e = some (s, e') ∧ Has pn S' e' := by
  cases q with
  | f => cases kr; exact ⟨e, rfl, h⟩
  | w => cases kr; exact ⟨e, rfl, h⟩
  | v q hi =>
    cases kr
    obtain ⟨o, h1, h2⟩ := h.slot q
    cases h2
    refine ⟨e.clr _, ?_, h.clr _⟩
    unfold resOf
    simp only [h1]
    rw [if_neg (by rw [h.pn]; exact hi)]
  | x q hi =>
    cases kr
    obtain ⟨o, h1, h2⟩ := h.slot q
    cases h2
    refine ⟨e.clr _, ?_, h.clr _⟩
    unfold resOf
    simp only [h1]
    rw [if_neg (by rw [h.pn]; exact hi)]
  | o => cases kr; exact ⟨e, rfl, h⟩
theorem Os.outs {i : Nat} {md : List Bool} {ss as : List SV} (q : Os S i md ss as) : ∀ {e : Env}, Has pn S e → outs i md ss e = some as := by
  induction q with
  | nil => intro e h; rfl
  | f q ih => intro e h; rw [out_false, ih h]
  | t q1 q2 ih =>
    intro e h
    obtain ⟨o, h1, h2⟩ := h.slot q1
    cases h2
    have := ih (h.clr _)
    show (match e.sl[_]? with | some (some s) => (match VF.outs _ _ _ (e.clr _) with | some r => some (s :: r) | none => none) | _ => none) = _
    rw [h1]
    simp only [this]
  | x q1 q2 ih =>
    intro e h
    obtain ⟨o, h1, h2⟩ := h.slot q1
    cases h2
    have := ih (h.clr _)
    show (match e.sl[_]? with | some (some s) => (match VF.outs _ _ _ (e.clr _) with | some r => some (s :: r) | none => none) | _ => none) = _
    rw [h1]
    simp only [this]
def GF (md : List Bool) (ss : List SV) (ro : τ → SV) (au : τ → List SV) : τ → Fl → Env → Prop := fun t f e => ∃ e1, resOf f e = some (ro t, e1) ∧ outs 0 md ss e1 = some (au t)
theorem f_rt {md : List Bool} {ss : List SV} {ro : τ → SV} {au : τ → List SV} {t : τ} (h : Has pn S e) (kr : ROk r o) (q : Rs pn S o (ro t) S1) (os : Os S1 0 md ss (au t)) : Sm (okK (Fl.rt r) e) (.ok t) (GF md ss ro au) X := by
  obtain ⟨e1, h1, h2⟩ := q.res h kr
  exact ⟨.rt r, e, rfl, e1, h1, os.outs h2⟩
theorem fs_mk0 {md : List Bool} {n : Nat} {m : M Fl} {ss : List SV} {p : Res τ} {ro : τ → SV} {au : τ → List SV} (S0 : List SD) (hok : okArgs md ss = true) (h0 : F2 S0 (env0 md n ss).sl) (hb : ∀ e, Has (pinIx 0 md) S0 e → Sm ((m e).bind okK) p (GF md ss ro au) fun _ _ => False) : FS false (mkFn0 md n m ss) p ro au := by
  have hb' := (hb (env0 md n ss) ⟨rfl, h0⟩).top
  cases p with
  | st => first | trivial | exact ⟨trivial⟩
  | ex x => obtain ⟨_, _, h⟩ := hb'; exact h.elim
  | ok t =>
    obtain ⟨f, e, h1, e1, h2, h3⟩ := hb'
    exact ⟨run_fn0 hok h1 h2 h3⟩
end
end VF
set_option maxRecDepth 100000
set_option maxHeartbeats 4000000
namespace VF
set_option autoImplicit false
open PySem L2
open Enc (enc)
theorem rk_f {d : D} : ROk (.fz d) (.f d) := rfl
theorem rks0 : ROks [] [] := trivial
theorem rks {r : RV} {o : Opd} {rs : List RV} {os : List Opd} (h : ROk r o) (hs : ROks rs os) : ROks (r :: rs) (o :: os) := ⟨h, hs⟩
theorem rk_w {ds : List D} : ROk (.own (.ol (fzs ds))) (.w ds) := rfl
section
variable {α β γ δ σ τ ω ψ : Type} {pn : List Nat} {S S' S1 S2 : List SD} {e : Env} {X : Exc → Env → Prop} {P : Res α} {G : α → γ → Env → Prop} {r q : RV} {o oa ob oc : Opd} {d x y z : D}
section
variable [Enc ω] [EqE ω] [DecidableEq ω] {u v : ω} {us : List ω} {K : RV → M γ} (h : Has pn S e) (k1 : ROk r oa) (k2 : ROk q ob)
include h k1 k2
theorem f_eq (k : Sm (K (.fz (.bl (decide (u = v)))) e) P G X) (da : Dt S oa (enc u) := by first | exact .f | exact .v rfl | exact .vz rfl | exact .w | exact .y | exact .u rfl) (db : Dt S ob (enc v) := by first | exact .f | exact .v rfl | exact .vz rfl | exact .w | exact .y | exact .u rfl) (hd : EqE.dep ω ≤ 64 := by decide) : Sm (opK2 fEq r K q e) P G X := f_op h k1 k2 da db (fEq_enc u v hd) k
theorem f_ne (k : Sm (K (.fz (.bl (decide (u ≠ v)))) e) P G X) (da : Dt S oa (enc u) := by first | exact .f | exact .v rfl | exact .vz rfl | exact .w | exact .y | exact .u rfl) (db : Dt S ob (enc v) := by first | exact .f | exact .v rfl | exact .vz rfl | exact .w | exact .y | exact .u rfl) (hd : EqE.dep ω ≤ 64 := by decide) : Sm (opK2 fNe r K q e) P G X := f_op h k1 k2 da db (fNe_enc u v hd) k
end
section
variable {K : RV → M γ} (h : Has pn S e) (k1 : ROk r oa)
include h k1
theorem f_toInt {i : Int} (k : Sm (K (.fz (.int i)) e) P G X) (da : Dt S oa (.int i) := by first | exact .f | exact .u rfl) : Sm (cbK intD K [r] e) P G X :=
  f_cb h (os := [oa]) ⟨k1, trivial⟩ (.cons da .nil) rfl k
end
theorem kb_ll : kitB "list" "list" = some true := by decide +kernel
theorem kb_ii : kitB "int" "int" = some true := by decide +kernel
theorem kb_ib : kitB "int" "bool" = some false := by decide +kernel
section
variable {i j : Int} {K : RV → M γ} (h : Has pn S e) (k1 : ROk r oa) (k2 : ROk q ob) (k : Sm (K (.fz (.int (i * j))) e) P G X) (da : Dt S oa (.int i) := by first | exact .f | exact .u rfl) (db : Dt S ob (.int j) := by first | exact .f | exact .u rfl)
include h k1 k2 k da db
theorem f_mulR (hh : inB j 64 = true := by decide) : Sm (opK2 fMul r K q e) P G X := f_op h k1 k2 da db (if_pos (by rw [hh, Bool.or_true])) k
end
theorem f_truB {c : Bool} {K : Bool → M γ} (h : Has pn S e) (k1 : ROk r o) (k : Sm (K c e) P G X) (da : Dt S o (.bl c) := by first | exact .f | exact .u rfl) : Sm (truK K r e) P G X := f_tru h k1 da rfl k
theorem c_nx {b : M Fl} {K : Fl → M γ} (k : Sm ((b e).bind K) P G X) : Sm (seqK b K .nx e) P G X := k
theorem f_drop {K : Fl → M γ} (k : Sm (K .nx e) P G X) : Sm (dropK K r e) P G X := k
theorem f_ret {K : Fl → M γ} (k : Sm (K (.rt r) e) P G X) : Sm (retK K r e) P G X := k
theorem f_setL {i : Nat} {v : ω} {k : ω → Res α} {K : Fl → M γ} (F : ω → SD) (h : Has pn S e) (ho : ROk r o) (s : St S i o (S1.set i (F v))) (hi : i ∉ pn) (kk : ∀ v e', Has pn (S1.set i (F v)) e' → Sm (K .nx e') (k v) G X) : Sm (setK i K r e) ((Res.ok v).bind k) G X := f_set h ho s hi (kk v)
theorem f_rng1' {rs : List RV} {j : Int} {K : List D → M γ} {k : List Int → Res α} (h : Has pn S e) (kr : ROks rs [o]) (kk : ∀ v : List Int, Sm (K (v.map enc) e) (k v) G X) (da : Dt S o (.int j) := by first | exact .f | exact .u rfl) : Sm (rg1K K rs e) ((rng1R j).bind k) G X := by
  match rs, kr with
  | [r], kr => exact f_rng1 h kr.1 kk da
theorem f_zip' [Enc ω] [Enc ψ] {rs : List RV} {xs : List ω} {ys : List ψ} {K : List D → M γ} (h : Has pn S e) (kr : ROks rs [oa, ob]) (da : Fz S oa (enc xs) S1) (db : Fz S1 ob (enc ys) S') (k : ∀ e', Has pn S' e' → Sm (K ((xs.zip ys).map enc) e') P G X) : Sm (zipK K rs e) P G X := by
  match rs, kr with
  | [r, q], kr => exact f_zip h kr.1 kr.2.1 da db k
end
structure Bx where
  ds : List Int
  at_ : Nat
def boxD (b : Bx) : List D := [enc b.ds, .int b.at_]
def p__law_draw (b : Bx) (many : Int) : Res (Int × Bx) := if 0 < many then .ok (drawV b.ds b.at_ many, ⟨b.ds, b.at_ + 1⟩) else .st
theorem ss__law_draw (b : Bx) (many : Int) : FS false (φ__law_draw [.ol (fzs (boxD b)), .fz (enc many)]) (p__law_draw b many) (fun t => .fz (enc t.1)) (fun t => [.ol (fzs (boxD t.2)), .fz (enc many)]) := by
  unfold p__law_draw
  split
  · rename_i h
    exact ⟨draw_ok b.ds b.at_ many h⟩
  · first | trivial | exact ⟨trivial⟩
noncomputable def digitsOf (ns : List Int) : List Int := Classical.choose (digits_ok ns)
noncomputable def p__law_digits (ns : List Int) (i j : Int) : Res (List Int) := if i = 0 ∧ j = 63 then .ok (digitsOf ns) else .st
theorem ss__law_digits (ns : List Int) (i j : Int) : FS false (φ__law_digits [.fz (.scr ns), .fz (enc i), .fz (enc j)]) (p__law_digits ns i j) (fun t => .ol (fzs (encs t))) (fun _ => [.fz (.scr ns), .fz (enc i), .fz (enc j)]) := by
  unfold p__law_digits
  split
  · rename_i h
    obtain ⟨rfl, rfl⟩ := h
    exact ⟨Classical.choose_spec (digits_ok ns)⟩
  · first | trivial | exact ⟨trivial⟩
theorem law_of {φ : Fn} {ns : List Int} {p : Res Bool} (h : FS false (φ [.fz (.scr ns)]) p (fun t => .fz (enc t)) (fun _ => [.fz (.scr ns)])) (hp : p = .ok true) : ∃ as', φ [.fz (.scr ns)] = .ok (.fz (.bl true)) as' := by
  rw [hp] at h
  exact ⟨_, h.run⟩
end VF
set_option maxRecDepth 100000
set_option maxHeartbeats 4000000
namespace VF
set_option autoImplicit false
open PySem L2
open Enc (enc)
def noX {α : Type} (p : Res α) : Res α := match p with
  | .ex _ => .st
  | .ok a => .ok a
  | .st => .st
@[simp] theorem noX_ok {α : Type} (a : α) : noX (.ok a) = .ok a := (rfl)
def tryR {σ τ : Type} (p : Res (Lp σ τ)) (h : Exc → Option τ) (k : σ → Res τ) : Res τ := match p with
  | .ok (.go s) => k s
  | .ok (.out t) => .ok t
  | .ok (.bk _) => .st
  | .ex x => (match h x with
    | some t => .ok t
    | none => .st)
  | .st => .st
@[simp] theorem tryR_go {σ τ : Type} (s : σ) (h : Exc → Option τ) (k : σ → Res τ) : tryR (.ok (.go s)) h k = k s := (rfl)
@[simp] theorem tryR_out {σ τ : Type} (t : τ) (h : Exc → Option τ) (k : σ → Res τ) : tryR (.ok (.out t)) h k = .ok t := (rfl)
class Dec (α : Type) extends Enc α where
  dec : D → Option α
  de : ∀ (d : D) (a : α), dec d = some a → d = Enc.enc a
  ed : ∀ a : α, dec (Enc.enc a) = some a
instance : Dec Int where
  dec := fun d => match d with | .int i => some i | _ => none
  de := fun d a h => by cases d <;> first | (cases h; rfl) | cases h
  ed := fun _ => rfl
instance : Dec Str where
  dec := fun d => match d with | .str i => some i | _ => none
  de := fun d a h => by cases d <;> first | (cases h; rfl) | cases h
  ed := fun _ => rfl
instance : Dec (Option Int) where
  dec := fun d => match d with | .int i => some (some i) | .non => some none | _ => none
  de := fun d a h => by cases d <;> first | (cases h; rfl) | cases h
  ed := fun a => by cases a <;> rfl
def decs {α : Type} (f : D → Option α) : List D → Option (List α)
  | [] => some []
  | d :: ds => match f d, decs f ds with
    | some a, some as => some (a :: as)
    | _, _ => none
theorem decs_de {α : Type} [Dec α] : ∀ (ds : List D) (as : List α), decs Dec.dec ds = some as → ds = as.map enc
  | [], as, h => by cases h; rfl
  | d :: ds, as, h => by
    unfold decs at h
    cases z1 : Dec.dec (α := α) d with
    | none => rw [z1] at h; cases h
    | some a =>
      cases z2 : decs (Dec.dec (α := α)) ds with
      | none => rw [z1, z2] at h; cases h
      | some as' =>
        rw [z1, z2] at h
        cases h
        rw [List.map_cons, ← decs_de ds as' z2, ← Dec.de d a z1]
theorem decs_ed {α : Type} [Dec α] : ∀ as : List α, decs (Dec.dec (α := α)) (as.map enc) = some as
  | [] => rfl
  | a :: as => by
    show decs _ (enc a :: as.map enc) = _
    unfold decs
    rw [Dec.ed, decs_ed as]
instance {α : Type} [Dec α] : Dec (List α) where
  dec := fun d => match d with | .lst ds => decs Dec.dec ds | _ => none
  de := fun d as h => by cases d <;> first | (show D.lst _ = D.lst _; rw [decs_de _ as h]) | cases h
  ed := fun as => decs_ed as
section
variable {α β τ : Type} [Dec α] [Dec β]
def ex0 (c : Str) (t : Option τ) (x : Exc) : Option τ := if x.c = c ∧ x.ns = [] then (match x.ds with
  | [] => t
  | _ => none) else none
def ex1 (c f : Str) (k : α → Option τ) (x : Exc) : Option τ := if x.c = c ∧ x.ns = [f] then (match x.ds with
  | [d] => (match Dec.dec (α := α) d with
    | some a => k a
    | none => none)
  | _ => none) else none
def ex2 (c f g : Str) (k : α → β → Option τ) (x : Exc) : Option τ := if x.c = c ∧ x.ns = [g, f] then (match x.ds with
  | [d', d] => (match Dec.dec (α := α) d, Dec.dec (α := β) d' with
    | some a, some b => k a b
    | _, _ => none)
  | _ => none) else none
@[simp] theorem ex1_at (c f : Str) (k : α → Option τ) (a : α) : ex1 c f k ⟨c, [f], [enc a]⟩ = k a := by unfold ex1; simp [Dec.ed]
@[simp] theorem ex2_at (c f g : Str) (k : α → β → Option τ) (a : α) (b : β) : ex2 c f g k ⟨c, [g, f], [enc b, enc a]⟩ = k a b := by unfold ex2; simp [Dec.ed]
@[simp] theorem ex0_at (c : Str) (t : Option τ) : ex0 c t ⟨c, [], []⟩ = t := by unfold ex0; simp
end
section
variable {α β γ δ σ τ ω : Type} {pn : List Nat} {S S' S1 : List SD} {e : Env} {X : Exc → Env → Prop} {P : Res α} {G : α → γ → Env → Prop} {r q : RV} {o oa ob : Opd}
instance : Enc VF.D := ⟨id⟩
def unD {τ : Type} [Dec τ] (d : VF.D) : Res τ := match Dec.dec d with
  | some a => .ok a
  | none => .st
@[simp] theorem unD_enc {τ : Type} [Dec τ] (a : τ) : unD (enc a) = .ok a := by unfold unD; rw [Dec.ed]
end
end VF
set_option maxRecDepth 100000
set_option maxHeartbeats 4000000
namespace VF
set_option autoImplicit false
open PySem L2
open Enc (enc)
section
variable {α β γ δ σ τ ω : Type} {pn : List Nat} {S S' S1 : List SD} {e : Env} {X : Exc → Env → Prop} {P : Res α} {G : α → γ → Env → Prop} {r q : RV} {o oa ob : Opd}
end
end VF
set_option maxRecDepth 100000
set_option maxHeartbeats 4000000
namespace VF
set_option autoImplicit false
open PySem L2
open Enc (enc)
section
variable {α β γ δ σ τ : Type} {pn : List Nat} {S : List SD} {e : Env} {G : α → γ → Env → Prop} {X : Exc → Env → Prop}
end
end VF
set_option maxRecDepth 100000
set_option maxHeartbeats 4000000
namespace VF
set_option autoImplicit false
open PySem L2
open Enc (enc)
def at_ (f : Str) : List Str → Option Nat
  | [] => none
  | n :: ns => if n = f then some 0 else (at_ f ns).map (· + 1)
section
variable {α β γ δ σ τ ω : Type} {pn : List Nat} {S S' S1 : List SD} {e : Env} {X : Exc → Env → Prop} {P : Res α} {G : α → γ → Env → Prop} {r q : RV} {o oa ob : Opd}
theorem f_setO {i : Nat} {s : SV} {K : Fl → M γ} (h : Has pn S e) (kr : ROk r (.o s)) (hi : i ∉ pn) (kk : ∀ e', Has pn (S.set i (.x s)) e' → Sm (K .nx e') P G X) : Sm (setK i K r e) P G X := f_set h kr .o hi kk
end
end VF
set_option maxRecDepth 100000
set_option maxHeartbeats 4000000
namespace VF
set_option autoImplicit false
open PySem L2
open Enc (enc)
section
variable {α β γ δ σ τ ω : Type} {pn : List Nat} {S S' S1 : List SD} {e : Env} {X : Exc → Env → Prop} {P : Res α} {G : α → γ → Env → Prop} {r q : RV} {o oa ob : Opd}
end
end VF
set_option maxRecDepth 100000
set_option maxHeartbeats 4000000
namespace VF
set_option autoImplicit false
open PySem L2
open Enc (enc)
section
variable {α β γ δ σ τ ω : Type} {pn : List Nat} {S S' S1 : List SD} {e : Env} {X : Exc → Env → Prop} {P : Res α} {G : α → γ → Env → Prop} {r q : RV} {o oa ob : Opd}
inductive Ux : List SD → List Bool → List Opd → Prop
  | nil {S : List SD} : Ux S [] []
  | f {S : List SD} {md : List Bool} {o : Opd} {os : List Opd} : Ux S md os → Ux S (false :: md) (o :: os)
  | t {S : List SD} {md : List Bool} {i : Nat} {os : List Opd} : S[i]? = some .clr → Ux (S.set i .any) md os → Ux S (true :: md) (.v i :: os)
theorem Ux.unload {md : List Bool} {os : List Opd} (q : Ux S md os) : ∀ {e : Env} {rs : List RV} {ss : List SV}, Has pn S e → ROks rs os → ss.length = md.length → ∃ e', unload md rs ss e = some e' := by
  induction q with
  | nil => intro e rs ss h k hl
           cases rs with
           | nil => cases ss with
             | nil => exact ⟨e, rfl⟩
             | cons _ _ => cases hl
           | cons _ _ => exact k.elim
  | f q ih => intro e rs ss h k hl
              cases rs with
              | nil => exact k.elim
              | cons r rs => cases ss with
                | nil => cases hl
                | cons s ss =>
                  obtain ⟨e', h1⟩ := ih h k.2 (by simpa using hl)
                  exact ⟨e', by rw [ul_false]; exact h1⟩
  | t q1 q2 ih => intro e rs ss h k hl
                  cases rs with
                  | nil => exact k.elim
                  | cons r rs => cases ss with
                    | nil => cases hl
                    | cons s ss =>
                      obtain ⟨k1, k2⟩ := k
                      cases k1
                      obtain ⟨o, h1, h2⟩ := h.slot q1
                      cases h2
                      obtain ⟨e', h3⟩ := ih (h.setS _ (s := .any) (v := s) trivial) k2 (by simpa using hl)
                      refine ⟨e', ?_⟩
                      rw [ul_true]
                      rw [if_pos (by unfold isClr; rw [h1])]
                      exact h3
end
end VF
set_option maxRecDepth 100000
set_option maxHeartbeats 4000000
namespace VF
set_option autoImplicit false
open PySem L2
open Enc (enc)
structure So {α β : Type} (r : R β) (p : Res α) (G : α → β → Env → Prop) : Prop where
  run : ∀ a, p = .ok a → ∃ b e, r = .ok b e ∧ G a b e
section
variable {α β γ δ σ τ ω ψ : Type} {pn : List Nat} {S S' S1 : List SD} {e : Env} {X : Exc → Env → Prop} {P : Res α} {G : α → γ → Env → Prop} {r q : RV} {o oa ob : Opd}
end
end VF
set_option maxRecDepth 100000
set_option maxHeartbeats 4000000
namespace VF
set_option autoImplicit false
open PySem L2
open Enc (enc)
section
variable {α β γ δ σ τ ω ψ : Type} {pn : List Nat} {S S' S1 : List SD} {e : Env} {X : Exc → Env → Prop} {P : Res α} {G : α → γ → Env → Prop} {r q : RV} {o oa ob : Opd}
end
end VF
set_option maxRecDepth 100000
set_option maxHeartbeats 4000000
namespace VF
set_option autoImplicit false
open PySem L2
open Enc (enc)
section
variable {α β γ δ σ τ ω ψ : Type} {pn : List Nat} {S S' S1 : List SD} {e : Env} {X : Exc → Env → Prop} {P : Res α} {G : α → γ → Env → Prop} {r q : RV} {o oa ob : Opd}
def fzEK (K : RV → M γ) : RV → M γ := fun r e => match frzR r e with
  | some (d, e1) => K (.fz d) e1
  | none => .st
theorem c_fzE {a : M RV} {K : RV → M γ} (k : Sm ((a e).bind (fzEK K)) P G X) : Sm ((dFzE a e).bind K) P G X := by
  have : (dFzE a e).bind K = (a e).bind (fzEK K) := by
    unfold dFzE
    rw [mbind, rbind_assoc]
    congr 1; funext r e
    unfold fzEK
    cases frzR r e <;> rfl
  rw [this]; exact k
theorem f_fzE {d : D} {K : RV → M γ} (h : Has pn S e) (kr : ROk r o) (da : Fz S o d S1) (k : ∀ r e', ROk r (.f d) → Has pn S1 e' → Sm (K r e') P G X) : Sm (fzEK K r e) P G X := by
  obtain ⟨e1, h1, h2⟩ := da.frz h kr
  unfold fzEK
  rw [h1]
  exact k _ e1 rfl h2
end
end VF
set_option maxRecDepth 100000
set_option maxHeartbeats 4000000
namespace VF
set_option autoImplicit false
open PySem L2
open Enc (enc)
structure W5 (α β γ δ ε : Type) where
  a : α
  b : β
  c : γ
  d : δ
  e : ε
  deriving DecidableEq, Inhabited
section
variable {α β γ δ ε : Type} [Enc α] [Enc β] [Enc γ] [Enc δ] [Enc ε]
def W5.l (x : W5 α β γ δ ε) : List D := [enc x.a, enc x.b, enc x.c, enc x.d, enc x.e]
instance : Enc (W5 α β γ δ ε) := ⟨fun x => .lst x.l⟩
end
section
variable {pn : List Nat} {S S' S1 : List SD} {d : D}
end
@[reducible] def memD {α : Type} [DecidableEq α] (x : α) (xs : List α) : Bool := decide (x ∈ xs)
@[reducible] def notMemD {α : Type} [DecidableEq α] (x : α) (xs : List α) : Bool := decide (x ∉ xs)
end VF
set_option maxRecDepth 100000
set_option maxHeartbeats 4000000
namespace VF
set_option autoImplicit false
open PySem L2
open Enc (enc)
instance {α β γ δ ε : Type} [Enc α] [EqE α] [Enc β] [EqE β] [Enc γ] [EqE γ] [Enc δ] [EqE δ] [Enc ε] [EqE ε] : EqE (T5 α β γ δ ε) where
  dep := max (max (EqE.dep α) (EqE.dep δ)) (max (EqE.dep β) (max (EqE.dep γ) (EqE.dep ε))) + 1
  lay := fun x => by
    obtain ⟨p, h1, h2, h3⟩ := EqE.lay x.a
    obtain ⟨q, k1, k2, k3⟩ := EqE.lay x.b
    obtain ⟨r, l1, l2, l3⟩ := EqE.lay x.c
    obtain ⟨s, m1, m2, m3⟩ := EqE.lay x.d
    obtain ⟨u, n1, n2, n3⟩ := EqE.lay x.e
    refine ⟨.tuple [p, q, r, s, u], toP_tup2 (by simp [toPs, h1, k1, l1, m1, n1]), by simp [PyData.plain, PyData.plainAll, h2, k2, l2, m2, n2], ?_⟩
    simp only [PyData.depth, PyData.depthAll]; omega
  eqv := fun x y p q h1 h2 => by
    obtain ⟨p1, a1, _⟩ := EqE.lay x.a
    obtain ⟨p2, a2, _⟩ := EqE.lay x.b
    obtain ⟨p3, a3, _⟩ := EqE.lay x.c
    obtain ⟨p4, a4, _⟩ := EqE.lay x.d
    obtain ⟨p5, a5, _⟩ := EqE.lay x.e
    obtain ⟨q1, b1, _⟩ := EqE.lay y.a
    obtain ⟨q2, b2, _⟩ := EqE.lay y.b
    obtain ⟨q3, b3, _⟩ := EqE.lay y.c
    obtain ⟨q4, b4, _⟩ := EqE.lay y.d
    obtain ⟨q5, b5, _⟩ := EqE.lay y.e
    have e1 : toP (enc x) = some (.tuple [p1, p2, p3, p4, p5]) := toP_tup2 (by simp [toPs, a1, a2, a3, a4, a5])
    have e2 : toP (enc y) = some (.tuple [q1, q2, q3, q4, q5]) := toP_tup2 (by simp [toPs, b1, b2, b3, b4, b5])
    rw [e1] at h1; rw [e2] at h2; cases h1; cases h2
    simp only [PyData.eqv, PyData.eqvAll, Bool.and_true, Bool.and_eq_true, EqE.eqv _ _ _ _ a1 b1, EqE.eqv _ _ _ _ a2 b2, EqE.eqv _ _ _ _ a3 b3, EqE.eqv _ _ _ _ a4 b4, EqE.eqv _ _ _ _ a5 b5]
    cases x; cases y; simp
instance {α β γ δ ε : Type} [Enc α] [Enc β] [Enc γ] [Enc δ] [Enc ε] : NoN (T5 α β γ δ ε) := ⟨fun a h => by
  have h' : (toPs [enc a.a, enc a.b, enc a.c, enc a.d, enc a.e]).map PyData.tuple = some .none := h
  cases z : toPs [enc a.a, enc a.b, enc a.c, enc a.d, enc a.e] <;> rw [z] at h' <;> cases h'⟩
section
variable {α β γ δ σ τ ω ψ : Type} {pn : List Nat} {S S' S1 : List SD} {e : Env} {X : Exc → Env → Prop} {P : Res α} {G : α → γ → Env → Prop} {r q : RV} {o oa ob : Opd}
end
end VF
set_option maxRecDepth 100000
set_option maxHeartbeats 4000000
namespace VF
set_option autoImplicit false
open PySem L2
open Enc (enc)
section
variable {α β γ δ σ τ ω ψ : Type} {pn : List Nat} {S S' S1 : List SD} {e : Env} {X : Exc → Env → Prop} {P : Res α} {G : α → γ → Env → Prop} {r q : RV} {o oa ob : Opd}
end
end VF
set_option maxRecDepth 100000
set_option maxHeartbeats 4000000
namespace VF
set_option autoImplicit false
open PySem L2
open Enc (enc)
open PySem.W (alike AllAlike Sortable dataLe dataLt EachIs keyToks alikeAll)
class SrtE (α : Type) [Enc α] where
  al : ∀ (a b : α) p q, toP (enc a) = some p → toP (enc b) = some q → alike p q = true
  kd : Bool
  isT : ∀ (a : α) p, toP (enc a) = some p → cond kd (isTup1 p) (noTup p) = true
instance : SrtE Int where
  al := fun a b p q h1 h2 => by cases h1; cases h2; rfl
  kd := false
  isT := fun a p h => by cases h; rfl
instance : SrtE Str where
  al := fun a b p q h1 h2 => by cases h1; cases h2; rfl
  kd := false
  isT := fun a p h => by cases h; rfl
section
variable {α β γ : Type} [Enc α] [SrtE α] [Enc β] [SrtE β] [Enc γ] [SrtE γ]
theorem al_list : ∀ (xs ys : List α) ps qs, toPs (xs.map enc) = some ps → toPs (ys.map enc) = some qs → alikeAll ps qs = true
  | [], _, ps, qs, h1, h2 => by cases h1; simp [alikeAll]
  | _ :: _, [], ps, qs, h1, h2 => by cases h2; cases ps <;> simp [alikeAll]
  | x :: xs, y :: ys, ps, qs, h1, h2 => by
    have h1' : (match toP (enc x), toPs (xs.map enc) with | some p, some ps => some (p :: ps) | _, _ => none) = some ps := h1
    have h2' : (match toP (enc y), toPs (ys.map enc) with | some p, some ps => some (p :: ps) | _, _ => none) = some qs := h2
    cases z1 : toP (enc x) with
    | none => rw [z1] at h1'; cases h1'
    | some p => cases z2 : toPs (xs.map enc) with
      | none => rw [z1, z2] at h1'; cases h1'
      | some ps' =>
        rw [z1, z2] at h1'; cases h1'
        cases z3 : toP (enc y) with
        | none => rw [z3] at h2'; cases h2'
        | some q => cases z4 : toPs (ys.map enc) with
          | none => rw [z3, z4] at h2'; cases h2'
          | some qs' =>
            rw [z3, z4] at h2'; cases h2'
            rw [alikeAll, SrtE.al x y p q z1 z3, al_list xs ys ps' qs' z2 z4]; rfl
instance : SrtE (List α) where
  al := fun a b p q h1 h2 => by
    have h1' : (toPs (a.map enc)).map PyData.list = some p := h1
    have h2' : (toPs (b.map enc)).map PyData.list = some q := h2
    cases z1 : toPs (a.map enc) with
    | none => rw [z1] at h1'; cases h1'
    | some ps => cases z2 : toPs (b.map enc) with
      | none => rw [z2] at h2'; cases h2'
      | some qs =>
        rw [z1] at h1'; rw [z2] at h2'; cases h1'; cases h2'
        rw [alike]; exact al_list a b ps qs z1 z2
  kd := false
  isT := fun a p h => by
    have h' : (toPs (a.map enc)).map PyData.list = some p := h
    cases z : toPs (a.map enc) with
    | none => rw [z] at h'; cases h'
    | some ps => rw [z] at h'; cases h'; rfl
theorem toPs_two {a b : D} {ps : List PyData} (h : toPs [a, b] = some ps) : ∃ p q, toP a = some p ∧ toP b = some q ∧ ps = [p, q] := by
  cases z1 : toP a with
  | none => simp [toPs, z1] at h
  | some p => cases z2 : toP b with
    | none => simp [toPs, z1, z2] at h
    | some q => simp [toPs, z1, z2] at h; exact ⟨p, q, rfl, rfl, h.symm⟩
theorem toPs_three {a b c : D} {ps : List PyData} (h : toPs [a, b, c] = some ps) : ∃ p q r, toP a = some p ∧ toP b = some q ∧ toP c = some r ∧ ps = [p, q, r] := by
  cases z1 : toP a with
  | none => simp [toPs, z1] at h
  | some p => cases z2 : toP b with
    | none => simp [toPs, z1, z2] at h
    | some q => cases z3 : toP c with
      | none => simp [toPs, z1, z2, z3] at h
      | some r => simp [toPs, z1, z2, z3] at h; exact ⟨p, q, r, rfl, rfl, rfl, h.symm⟩
theorem toP_tupO {ds : List D} {p : PyData} (h : toP (.tup ds) = some p) : ∃ ps, toPs ds = some ps ∧ p = .tuple ps := by
  have h' : (toPs ds).map PyData.tuple = some p := h
  cases z : toPs ds with
  | none => rw [z] at h'; cases h'
  | some ps => rw [z] at h'; cases h'; exact ⟨ps, rfl, rfl⟩
instance : SrtE (α × β) where
  al := fun a b p q h1 h2 => by
    obtain ⟨ps, e1, rfl⟩ := toP_tupO h1
    obtain ⟨qs, e2, rfl⟩ := toP_tupO h2
    obtain ⟨p1, p2, a1, a2, rfl⟩ := toPs_two e1
    obtain ⟨q1, q2, b1, b2, rfl⟩ := toPs_two e2
    simp only [alike, alikeAll, SrtE.al _ _ _ _ a1 b1, SrtE.al _ _ _ _ a2 b2, Bool.and_self]
  kd := true
  isT := fun a p h => by
    obtain ⟨ps, e1, rfl⟩ := toP_tupO h
    obtain ⟨p1, p2, a1, a2, rfl⟩ := toPs_two e1
    rfl
instance : SrtE (T3 α β γ) where
  al := fun a b p q h1 h2 => by
    obtain ⟨ps, e1, rfl⟩ := toP_tupO h1
    obtain ⟨qs, e2, rfl⟩ := toP_tupO h2
    obtain ⟨p1, p2, p3, a1, a2, a3, rfl⟩ := toPs_three e1
    obtain ⟨q1, q2, q3, b1, b2, b3, rfl⟩ := toPs_three e2
    simp only [alike, alikeAll, SrtE.al _ _ _ _ a1 b1, SrtE.al _ _ _ _ a2 b2, SrtE.al _ _ _ _ a3 b3, Bool.and_self]
  kd := true
  isT := fun a p h => by
    obtain ⟨ps, e1, rfl⟩ := toP_tupO h
    obtain ⟨p1, p2, p3, a1, a2, a3, rfl⟩ := toPs_three e1
    rfl
end
section
variable {α : Type} [Enc α]
end
section
variable {pn : List Nat} {S : List SD} {a : M RV} {oa : Opd}
end
section
variable {α : Type} [Enc α] [EqE α] [SrtE α]
omit [SrtE α] in
omit [SrtE α] in
omit [SrtE α] [EqE α] in
omit [SrtE α] in
end
end VF
set_option maxRecDepth 100000
set_option maxHeartbeats 4000000
namespace VF
set_option autoImplicit false
open PySem L2
open Enc (enc)
section
variable {α β γ δ σ τ ω ψ : Type} {pn : List Nat} {S S' S1 S2 : List SD} {e : Env} {X : Exc → Env → Prop} {P : Res α} {G : α → γ → Env → Prop} {r q : RV} {o oa ob oc : Opd} {d : D}
end
end VF
set_option maxRecDepth 100000
set_option maxHeartbeats 4000000
namespace VF
set_option autoImplicit false
open PySem L2
open Enc (enc)
def oll {τ : Type} [Enc τ] (rows : List (List τ)) : SV := .ol (rows.map fun r => .ol (fzs (encs r)))
theorem toD_oll {τ : Type} [Enc τ] (rows : List (List τ)) : (oll rows).toD = enc rows := by
  show D.lst (SV.toDs _) = D.lst (rows.map enc)
  rw [toDs_eq, List.map_map]
  congr 1
  refine List.map_congr_left fun r _ => ?_
  exact toD_ol (ds := encs r)
theorem fz_oll {τ : Type} [Enc τ] {S : List SD} {i : Nat} {rows : List (List τ)} (q : S[i]? = some (.x (oll rows))) : Fz S (.v i) (enc rows) (S.set i (.fz (enc rows))) := by
  rw [← toD_oll]; exact .x q
theorem p_oll {τ : Type} [Enc τ] {pn : List Nat} {S : List SD} {i : Nat} {rows : List (List τ)} (q : S[i]? = some (.x (oll rows))) : PJ pn S (dVar i) (.v i) := fun e h => by
  obtain ⟨o, h1, h2⟩ := h.slot q
  have h2 : o = some (oll rows) := h2
  subst h2
  exact ⟨.var i, by unfold dVar; rw [h1]; rfl, rfl⟩
section
variable {α γ τ ω : Type} {pn : List Nat} {S S1 : List SD} {e : Env} {X : Exc → Env → Prop} {G : α → γ → Env → Prop} {o : Opd}
def compOK (own : List Nat) (g : Tg) (te : M RV) (K : RV → M γ) : List D → M γ := fun ds e0 => if noPn own e0 = true then (match loopO own g dYes te ds [] (wipeE own e0) with
  | .ok acc e1 => (match restE own e0 e1 with
    | some e2 => K (.own (.ol acc)) e2
    | none => .st)
  | _ => .st) else .st
theorem c_compO {P : Res α} {own : List Nat} {it : M (List D)} {g : Tg} {te : M RV} {K : RV → M γ} (k : Sm ((it e).bind (compOK own g te K)) P G X) : Sm ((dCompO own it g dYes te e).bind K) P G X := by
  have : (dCompO own it g dYes te e).bind K = (it e).bind (compOK own g te K) := by
    unfold dCompO
    rw [mbind, rbind_assoc]
    congr 1; funext ds e0
    unfold compOK
    split
    · cases loopO own g dYes te ds [] (wipeE own e0) with
      | st => rfl
      | ok acc e1 => simp only; cases restE own e0 e1 <;> rfl
      | ex x e1 => rfl
    · rfl
  rw [this]; exact k
def GO [Enc τ] (pn : List Nat) (own : List Nat) (I : List SD) : List τ → RV → Env → Prop := fun v r e => ∃ S2, Has pn S2 e ∧ ROk r (.w (encs v)) ∧ W (wipeS own S2) I
theorem f_elO [Enc τ] {own : List Nat} {I : List SD} {v : List τ} {r : RV} (h : Has pn S e) (kr : ROk r (.w (encs v))) (w : W (wipeS own S) I := by first | exact W.refl _ | (repeat (first | exact W.nil | refine W.rf ?_ | refine W.cz ?_ | refine W.cc ?_ | refine W.vz ?_ | refine W.vo ?_ | refine W.an ?_))) : Sm (okK r e) (.ok v) (GO pn own I) X := ⟨r, e, rfl, S, h, kr, w⟩
theorem mapO_go [Enc ω] [Enc τ] {own : List Nat} {g : Tg} {te : M RV} {f : ω → Res (List τ)} {I1 : ω → List SD} {X' : Exc → Env → Prop} {I : List SD} (hp : (own.all fun v => !pn.contains v) = true) (tg : ∀ x, TG pn I g (enc x) (I1 x))
    (step : ∀ x e, Has pn (I1 x) e → Sm ((te e).bind okK) (f x) (GO pn own I) X') : ∀ (xs : List ω) (acc : List (List τ)) (e : Env) ys u, Has pn I e → acc.length + xs.length ≤ sizeLine →
    compGo (fun x (_ : Unit) => ((f x).bind fun y => .ok (some y)).bind fun o => .ok (o, ())) xs () acc = .ok (ys, u) → ∃ e', loopO own g dYes te (xs.map enc) (acc.map fun r => .ol (fzs (encs r))) e = .ok (ys.map fun r => .ol (fzs (encs r))) e' ∧ Has pn I e'
  | [], acc, e, ys, u, h, _, q => by cases q; exact ⟨e, rfl, h⟩
  | x :: xs, acc, e, ys, u, h, hl, q => by
    obtain ⟨e1, h1, h2⟩ := tg x e h
    have st := step x e1 h2
    rw [List.length_cons] at hl
    show ∃ e', loopO own g dYes te (enc x :: xs.map enc) _ e = _ ∧ _
    unfold compGo at q
    unfold loopO
    simp only [h1]
    cases z : f x with
    | st => rw [z] at q; cases q
    | ex x' => rw [z] at q; cases q
    | ok v =>
      rw [z] at q st
      have q : compGo (fun x (_ : Unit) => ((f x).bind fun y => .ok (some y)).bind fun o => .ok (o, ())) xs () (acc ++ [v]) = .ok (ys, u) := q
      obtain ⟨r, e4, h4, S2, k1, k2, k3⟩ := st
      have h5 : te e1 = .ok r e4 := by rwa [bind_okK] at h4
      have h6 : r = .own (.ol (fzs (encs v))) := k2
      subst h6
      simp only [dYes, h5, ownOf]
      rw [if_pos (by rw [noPn_of k1 hp, Bool.and_true]; exact decide_eq_true (by rw [List.length_map]; omega))]
      have := mapO_go hp tg step xs (acc ++ [v]) _ ys u ((wipe_has k1 own).weak k3) (by rw [List.length_append, List.length_singleton]; omega) q
      rwa [List.map_append] at this
theorem f_mapO [Enc ω] [Enc τ] {own : List Nat} {xs : List ω} {g : Tg} {te : M RV} {f : ω → Res (List τ)} {I1 : ω → List SD} {K : RV → M γ} {k : List (List τ) → Res α} (h : Has pn S e) (tg : ∀ x, TG pn (wipeS own S) g (enc x) (I1 x))
    (step : ∀ x e, Has pn (I1 x) e → Sm ((te e).bind okK) (f x) (GO pn own (wipeS own S)) fun _ _ => True) (kk : ∀ ys r e', ROk r (.o (oll ys)) → Has pn S e' → Sm (K r e') (k ys) G X)
    (hp : (own.all fun v => !pn.contains v) = true := by decide) (hr : restB own S (wipeS own S) = true := by rfl) (hw : W (restS own S (wipeS own S)) S := by exact W.refl _) : Sm (compOK own g te K (xs.map enc) e) ((mapC f xs).bind k) G X := by
  unfold mapC filC filS
  rw [Res.bind_assoc, okLe_eq]
  split
  · rename_i hz
    rw [decide_eq_true_iff] at hz
    cases q : compGo (fun x (_ : Unit) => ((f x).bind fun y => .ok (some y)).bind fun o => .ok (o, ())) xs () [] with
    | st => exact ⟨trivial⟩
    | ex x =>
      exfalso
      have : ∀ (xs : List ω) (s : Unit) (acc : List (List τ)) x, compGo (fun x (_ : Unit) => ((f x).bind fun y => .ok (some y)).bind fun o => .ok (o, ())) xs s acc ≠ .ex x := by
        intro xs
        induction xs with
        | nil => intro s acc x h; cases h
        | cons y ys ih =>
          intro s acc x h
          unfold compGo at h
          split at h
          · exact ih _ _ _ h
          · exact ih _ _ _ h
          · cases h
      exact this _ _ _ _ q
    | ok p =>
      obtain ⟨ys, u⟩ := p
      obtain ⟨e1, h1, h2⟩ := mapO_go hp tg step xs [] _ ys u (wipe_has h own) (by simpa using hz) q
      obtain ⟨e2, h3, h4⟩ := rest_has h own hr h2
      unfold compOK
      rw [if_pos (noPn_of h hp)]
      have h1' : loopO own g dYes te (xs.map enc) [] (wipeE own e) = .ok (ys.map fun r => .ol (fzs (encs r))) e1 := h1
      rw [h1']
      simp only [h3]
      exact kk ys _ e2 rfl (h4.weak hw)
  · exact ⟨trivial⟩
def zipR (f : List τ → ω → Res (List τ)) : List (List τ) → List ω → Res (List (List τ))
  | r :: rs, d :: ds => (f r d).bind fun r' => (zipR f rs ds).bind fun rs' => .ok (r' :: rs')
  | rs, _ => .ok rs
def JZ [Enc τ] (pn : List Nat) (a : Nat) (I0 : List SD) : List τ → Fl → Env → Prop := fun r' f e' => f = .nx ∧ Has pn (I0.set a (.ol (encs r'))) e'
theorem f_jz [Enc τ] {a : Nat} {I0 : List SD} {r : List τ} (h : Has pn S e) (w : W S (I0.set a (.ol (encs r))) := by first | exact W.refl _ | (repeat (first | exact W.nil | refine W.rf ?_ | refine W.cz ?_ | refine W.cc ?_ | refine W.vz ?_ | refine W.vo ?_ | refine W.an ?_))) : Sm (okK Fl.nx e) (.ok r) (JZ pn a I0) X := ⟨.nx, e, rfl, rfl, h.weak w⟩
theorem F2.len : ∀ {S : List SD} {l : List (Option SV)}, F2 S l → S.length = l.length
  | [], [], _ => rfl
  | _ :: _, _ :: _, h => congrArg Nat.succ (F2.len h.2)
  | [], _ :: _, h => h.elim
  | _ :: _, [], h => h.elim
theorem forZ_go [Enc ω] [Enc τ] {j a b : Nat} {mb : M Fl} {f : List τ → ω → Res (List τ)} {I0 : List SD} (hab : a ≠ b) (hal : a < I0.length) (ha : a ∉ j :: pn) (hb : b ∉ j :: pn)
    (hI : ∀ s, W ((I0.set a s)) I0) (step : ∀ r d e, Has (a :: j :: pn) ((I0.set a (.ol (encs r))).set b (.fz (enc d))) e → Sm ((mb e).bind okK) (f r d) (JZ (a :: j :: pn) a I0) (fun _ _ => False)) :
    ∀ (ds : List ω) (rest done : List (List τ)) (e : Env) ys, Has (j :: pn) I0 e → zipR f rest ds = .ok ys → ∃ e', loopZ a b mb done.length (ds.map enc) ((done ++ rest).map fun r => .ol (fzs (encs r))) e = .ok ((done ++ ys).map fun r => .ol (fzs (encs r))) e' ∧ Has (j :: pn) I0 e'
  | [], rest, done, e, ys, h, q => by
    have : ys = rest := by
      cases rest <;> (cases q; rfl)
    subst this
    exact ⟨e, rfl, h⟩
  | d :: ds, [], done, e, ys, h, q => by
    have q' : (.ok ([] : List (List τ)) : Res (List (List τ))) = .ok ys := q
    cases q'
    refine ⟨e, ?_, h⟩
    show loopZ a b mb done.length (enc d :: ds.map enc) _ e = _
    unfold loopZ
    have : ((done ++ []).map fun r => SV.ol (fzs (encs r)))[done.length]? = none := List.getElem?_eq_none_iff.mpr (by simp)
    rw [this]
  | d :: ds, r :: rest, done, e, ys, h, q => by
    show ∃ e', loopZ a b mb done.length (enc d :: ds.map enc) _ e = _ ∧ _
    unfold zipR at q
    unfold loopZ
    have gk : ((done ++ r :: rest).map fun r => SV.ol (fzs (encs r)))[done.length]? = some (.ol (fzs (encs r))) := by
      rw [List.getElem?_map, List.getElem?_append_right (Nat.le_refl _), Nat.sub_self]; rfl
    simp only [gk]
    have hl := F2.len h.sl
    have e1h : inZ a b (fzs (encs r)) (enc d) e = some ⟨(e.sl.set a (some (.ol (fzs (encs r))))).set b (some (.fz (enc d))), a :: e.pn⟩ := by
      unfold inZ
      rw [if_pos ⟨hab, by rw [h.pn]; exact ha, by rw [h.pn]; exact hb, by omega⟩]
    simp only [e1h]
    have h1 : Has (a :: j :: pn) ((I0.set a (.ol (encs r))).set b (.fz (enc d))) ⟨(e.sl.set a (some (.ol (fzs (encs r))))).set b (some (.fz (enc d))), a :: e.pn⟩ := ⟨by show a :: e.pn = _; rw [h.pn], F2.set (s := .fz (enc d)) (o := some (.fz (enc d))) b (F2.set (s := .ol (encs r)) (o := some (.ol (fzs (encs r)))) a h.sl rfl) rfl⟩
    have st := step r d _ h1
    cases z : f r d with
    | st => rw [z] at q; cases q
    | ex x => rw [z] at q; cases q
    | ok r' =>
      rw [z] at q st
      obtain ⟨fl, e2, h2, rfl, h3⟩ := st
      have h4 : mb ⟨(e.sl.set a (some (.ol (fzs (encs r))))).set b (some (.fz (enc d))), a :: e.pn⟩ = .ok .nx e2 := by rwa [bind_okK] at h2
      simp only [h4]
      have q : ((zipR f rest ds).bind fun rs' => .ok (r' :: rs')) = .ok ys := q
      obtain ⟨o, k1, k2⟩ := h3.slot (i := a) (s := .ol (encs r')) (by rw [List.getElem?_set_self hal])
      have k2 : o = some (.ol (fzs (encs r'))) := k2
      subst k2
      have e3h : outZ a e.pn e2 = some (fzs (encs r'), ⟨e2.sl.set a (some (.fz .hl)), e.pn⟩) := by
        unfold outZ
        rw [if_pos (by rw [h3.pn, h.pn]), k1]
      simp only [e3h]
      cases z2 : zipR f rest ds with
      | st => rw [z2] at q; cases q
      | ex x => rw [z2] at q; cases q
      | ok ys2 =>
        rw [z2] at q
        cases q
        have h5 : Has (j :: pn) I0 ⟨e2.sl.set a (some (.fz .hl)), e.pn⟩ := ⟨h.pn, by
          have := (h3.sl.set (s := .fz .hl) (o := some (.fz .hl)) a rfl)
          rw [List.set_set] at this
          exact this.weak (hI _)⟩
        obtain ⟨e', k3, k4⟩ := forZ_go hab hal ha hb hI step ds rest (done ++ [r']) _ ys2 h5 z2
        refine ⟨e', ?_, k4⟩
        have e6 : (((done ++ r :: rest).map fun r => SV.ol (fzs (encs r))).set done.length (.ol (fzs (encs r')))) = (((done ++ [r']) ++ rest).map fun r => SV.ol (fzs (encs r))) := by
          rw [List.append_assoc, List.map_append, List.map_append]
          rw [List.set_append_right _ _ (by rw [List.length_map]; omega), List.length_map, Nat.sub_self]
          rfl
        rw [e6]
        have e7 : done.length + 1 = (done ++ [r']).length := by rw [List.length_append, List.length_singleton]
        rw [e7, k3, List.append_assoc]
        rfl
theorem f_forZ [Enc ω] [Enc τ] {j a b : Nat} {me : M RV} {mb : M Fl} {rows : List (List τ)} {ds : List ω} {f : List τ → ω → Res (List τ)} {K : Fl → M γ} {k : List (List τ) → Res α} (I0 : List SD) (h : Has pn S e) (q : S[j]? = some (.x (oll rows))) (he : PJ pn S me o) (fz : Fz S o (enc ds) S) (w : W (S.set j .clr) I0)
    (hj : I0[j]? = some .clr) (hI : ∀ s, W ((I0.set a s)) I0)
    (step : ∀ r d e, Has (a :: j :: pn) ((I0.set a (.ol (encs r))).set b (.fz (enc d))) e → Sm ((mb e).bind okK) (f r d) (JZ (a :: j :: pn) a I0) (fun _ _ => False)) (kk : ∀ rows' e', Has pn (I0.set j (.x (oll rows'))) e' → Sm (K .nx e') (k rows') G X)
    (hab : a ≠ b := by decide) (hal : a < I0.length := by exact of_decide_eq_true rfl) (ha : a ∉ j :: pn := by decide) (hb : b ∉ j :: pn := by decide) (hjp : j ∉ pn := by decide) : Sm ((dForZ j a b me mb e).bind K) ((zipR f rows ds).bind k) G X := by
  obtain ⟨o1, h1, h2⟩ := h.slot q
  have h2 : o1 = some (oll rows) := h2
  subst h2
  obtain ⟨r, h3, k3⟩ := he e h
  obtain ⟨e1, h4, h5⟩ := fz.frz h k3
  obtain ⟨o2, h6, h7⟩ := h5.slot q
  have h7 : o2 = some (oll rows) := h7
  subst h7
  cases z : zipR f rows ds with
  | st => exact ⟨trivial⟩
  | ex x =>
    exfalso
    have : ∀ (rs : List (List τ)) (ds : List ω) x, zipR f rs ds ≠ .ex x → True := fun _ _ _ _ => trivial
    have key : ∀ (rs : List (List τ)) (ds : List ω), zipR f rs ds ≠ .ex x := by
      intro rs
      induction rs with
      | nil => intro ds hh; cases ds <;> cases hh
      | cons r rs ih =>
        intro ds hh
        cases ds with
        | nil => cases hh
        | cons d ds =>
          unfold zipR at hh
          cases z1 : f r d with
          | st => rw [z1] at hh; cases hh
          | ok r' =>
            rw [z1] at hh
            have hh : ((zipR f rs ds).bind fun rs' => .ok (r' :: rs')) = .ex x := hh
            cases z2 : zipR f rs ds with
            | st => rw [z2] at hh; cases hh
            | ok v => rw [z2] at hh; cases hh
            | ex y => exact ih ds (by rw [z2] at hh; cases hh; exact z2)
          | ex y =>
            have hs : ∃ e0 : Env, Has (a :: j :: pn) ((I0.set a (.ol (encs r))).set b (.fz (enc d))) e0 := by
              have h0 : Has (j :: pn) I0 ⟨e.sl.set j none, j :: e.pn⟩ := ⟨by show j :: e.pn = _; rw [h.pn], (F2.set (s := .clr) (o := none) j h.sl rfl).weak w⟩
              exact ⟨⟨(((e.sl.set j none).set a (some (.ol (fzs (encs r))))).set b (some (.fz (enc d)))), a :: j :: pn⟩, rfl, F2.set (s := .fz (enc d)) (o := some (.fz (enc d))) b (F2.set (s := .ol (encs r)) (o := some (.ol (fzs (encs r)))) a h0.sl rfl) rfl⟩
            obtain ⟨e0, he0⟩ := hs
            have st := step r d e0 he0
            rw [z1] at st
            obtain ⟨e2, _, hf⟩ := st
            exact hf
    exact key rows ds z
  | ok ys =>
    have h0 : Has (j :: pn) I0 ⟨e1.sl.set j none, j :: e1.pn⟩ := ⟨by show j :: e1.pn = _; rw [h5.pn], (F2.set (s := .clr) (o := none) j h5.sl rfl).weak w⟩
    obtain ⟨e', k4, k5⟩ := forZ_go hab hal ha hb hI step ds rows [] _ ys h0 z
    have k4 : loopZ a b mb 0 (ds.map enc) (rows.map fun r => .ol (fzs (encs r))) ⟨e1.sl.set j none, j :: e1.pn⟩ = .ok (ys.map fun r => .ol (fzs (encs r))) e' := k4
    have e8 : dForZ j a b me mb e = .ok .nx ⟨e'.sl.set j (some (oll ys)), e1.pn⟩ := by
      unfold dForZ
      rw [h1]
      show (me e).bind _ = _
      rw [h3]
      show (match frzR r e with | some (.lst ds, e1) => _ | _ => _) = _
      rw [h4]
      show (match e1.sl[j]? with | some (some (.ol xs)) => _ | _ => _) = _
      rw [h6]
      show (if j ∈ e1.pn then R.st else endZ j e1.pn (loopZ a b mb 0 (ds.map enc) (rows.map fun r => .ol (fzs (encs r))) ⟨e1.sl.set j none, j :: e1.pn⟩)) = _
      rw [if_neg (by rw [h5.pn]; exact hjp), k4]
      unfold endZ
      obtain ⟨o3, k6, k7⟩ := k5.slot hj
      have k7 : o3 = none := k7
      subst k7
      have : isClr e' j = true := by unfold isClr; rw [k6]
      simp only
      rw [if_pos ⟨this, by rw [k5.pn, h5.pn]⟩]
      rfl
    rw [e8]
    exact kk ys _ ⟨h5.pn, F2.set (s := .x (oll ys)) (o := some (oll ys)) j k5.sl rfl⟩
end
end VF
set_option maxRecDepth 100000
set_option maxHeartbeats 4000000
namespace VF
set_option autoImplicit false
open PySem L2
def Hd {α : Type} (p : Res α) (Q : α → Prop) : Prop := ∃ a, p = .ok a ∧ Q a
section
variable {α β γ σ τ : Type}
theorem Hd.bind {p : Res α} {q : α → Res β} {Q : β → Prop} {R : α → Prop} (h : Hd p R) (k : ∀ a, R a → Hd (q a) Q) : Hd (p.bind q) Q := by
  obtain ⟨a, rfl, h2⟩ := h
  exact k a h2
theorem Hd.ok {a : α} {Q : α → Prop} (h : Q a) : Hd (.ok a) Q := ⟨a, rfl, h⟩
theorem Hd.eq {p : Res α} {a : α} {Q : α → Prop} (h : p = .ok a) (k : Q a) : Hd p Q := ⟨a, h, k⟩
theorem Hd.true {p : Res Bool} (h : Hd p (· = true)) : p = .ok true := by obtain ⟨a, h1, rfl⟩ := h; exact h1
theorem Hd.mono {p : Res α} {Q R : α → Prop} (h : Hd p Q) (k : ∀ a, Q a → R a) : Hd p R := by obtain ⟨a, h1, h2⟩ := h; exact ⟨a, h1, k a h2⟩
@[simp] theorem bind_ok_self (p : Res α) : (p.bind fun a => .ok a) = p := by cases p <;> rfl
@[simp] theorem bind_ok_self' (p : Res α) : p.bind Res.ok = p := by cases p <;> rfl
theorem size_le {n : Nat} (h : n ≤ 1000000) : n ≤ sizeLine := size_ge (by omega)
theorem size_lt {n : Nat} (h : n ≤ 1000000) : n < sizeLine := size_gt (by omega)
theorem s62 {n : Int} (h : -1000000000 ≤ n) (h2 : n ≤ 1000000000) : small62 n = true := by
  rw [small62_def]; exact decide_eq_true (by omega)
theorem modR_ok {x y : Int} (h : 0 < y) : modR x y = .ok (x % y) := if_pos h
theorem appR_ok {xs : List α} {x : α} (h : xs.length ≤ 1000000) : appR xs x = .ok (xs ++ [x]) := by unfold appR; rw [okLt_eq]; exact if_pos (decide_eq_true (size_lt h))
theorem geti_nat {xs : List α} {i : Nat} (h : i < xs.length) : geti xs (i : Int) = .ok xs[i] := by
  unfold geti
  rw [atI_nonneg _ _ (by omega), Int.toNat_natCast, List.getElem?_eq_getElem h]
theorem geti_int {xs : List α} {i : Int} (h0 : 0 ≤ i) (h : i.toNat < xs.length) : geti xs i = .ok xs[i.toNat] := by
  unfold geti
  rw [atI_nonneg _ _ h0, List.getElem?_eq_getElem h]
theorem setR_nat {xs : List α} {i : Nat} {x : α} (h : i < xs.length) : setR xs (i : Int) x = .ok (xs.set i x) := by
  unfold setR
  rw [ixN_ok (by omega) (by omega), Int.toNat_natCast]
theorem irng_len (lo : Int) (n : Nat) : (irng lo n).length = n := by simp [irng]
theorem irng0 (n : Nat) : irng 0 n = (List.range n).map (fun k : Nat => (k : Int)) := by unfold irng; simp
theorem rng1_ok {n : Int} (h : n ≤ 1000000) (h0 : -1000000 ≤ n) : rng1R n = .ok (irng 0 n.toNat) := by unfold rng1R; rw [ok62_eq]; exact if_pos (s62 (by omega) (by omega))
theorem rng1_nat {n : Nat} (h : n ≤ 1000000) : rng1R (n : Int) = .ok ((List.range n).map fun k : Nat => (k : Int)) := by
  rw [rng1_ok (by omega) (by omega), Int.toNat_natCast, irng0]
theorem compGo_ok {f : α → σ → Res (Option β × σ)} {g : α → Option β} {s : σ} : ∀ (xs : List α) (acc : List β), (∀ x ∈ xs, f x s = .ok (g x, s)) → compGo f xs s acc = .ok (acc ++ xs.filterMap g, s)
  | [], acc, _ => by simp [compGo]
  | x :: xs, acc, h => by
    have hx := h x List.mem_cons_self
    have ht := fun y hy => h y (List.mem_cons_of_mem _ hy)
    unfold compGo
    rw [hx]
    cases q : g x with
    | none => simp only; rw [compGo_ok xs acc ht, List.filterMap_cons, q]
    | some y => simp only; rw [compGo_ok xs (acc ++ [y]) ht, List.filterMap_cons, q]; simp
theorem filC_some {f : α → Res (Option β)} {g : α → Option β} {xs : List α} (hl : xs.length ≤ 1000000) (h : ∀ x ∈ xs, f x = .ok (g x)) : filC f xs = .ok (xs.filterMap g) := by
  unfold filC filS
  rw [okLe_eq, if_pos (decide_eq_true (size_le hl)), compGo_ok (g := g) xs [] (fun x hx => by rw [h x hx]; rfl)]
  rfl
theorem mapC_ok {f : α → Res β} {g : α → β} {xs : List α} (hl : xs.length ≤ 1000000) (h : ∀ x ∈ xs, f x = .ok (g x)) : mapC f xs = .ok (xs.map g) := by
  unfold mapC
  rw [filC_some (g := fun x => some (g x)) hl (fun x hx => by rw [h x hx]; rfl)]
  simp
inductive All2 (Q : α → β → Prop) : List α → List β → Prop
  | nil : All2 Q [] []
  | cons {a : α} {b : β} {as : List α} {bs : List β} : Q a b → All2 Q as bs → All2 Q (a :: as) (b :: bs)
theorem All2.len {Q : α → β → Prop} {as : List α} {bs : List β} (h : All2 Q as bs) : bs.length = as.length := by
  induction h with
  | nil => rfl
  | cons _ _ ih => simp [ih]
theorem All2.mem {Q : α → β → Prop} {as : List α} {bs : List β} (h : All2 Q as bs) : ∀ b ∈ bs, ∃ a ∈ as, Q a b := by
  induction h with
  | nil => intro b hb; cases hb
  | cons q _ ih =>
    intro b hb
    rcases List.mem_cons.mp hb with rfl | hb
    · exact ⟨_, List.mem_cons_self, q⟩
    · obtain ⟨a, h1, h2⟩ := ih b hb
      exact ⟨a, List.mem_cons_of_mem _ h1, h2⟩
theorem All2.get {Q : α → β → Prop} {as : List α} {bs : List β} (h : All2 Q as bs) : ∀ (i : Nat) (h1 : i < as.length) (h2 : i < bs.length), Q as[i] bs[i] := by
  induction h with
  | nil => intro i h1; simp at h1
  | cons q _ ih =>
    intro i h1 h2
    cases i with
    | zero => exact q
    | succ i => exact ih i (by simpa using h1) (by simpa using h2)
theorem compGo_hd {f : α → σ → Res (Option β × σ)} {Q : α → β → Prop} : ∀ (xs : List α) (s : σ) (acc : List β), (∀ x ∈ xs, ∀ s, Hd (f x s) fun p => ∃ y, p.1 = some y ∧ Q x y) → Hd (compGo f xs s acc) fun p => ∃ ys, p.1 = acc ++ ys ∧ All2 Q xs ys
  | [], s, acc, _ => ⟨(acc, s), rfl, [], by simp, .nil⟩
  | x :: xs, s, acc, h => by
    obtain ⟨⟨o, s'⟩, h1, y, h2, h3⟩ := h x List.mem_cons_self s
    cases h2
    obtain ⟨p, h4, ys, h5, h6⟩ := compGo_hd xs s' (acc ++ [y]) (fun y hy => h y (List.mem_cons_of_mem _ hy))
    refine ⟨p, ?_, y :: ys, by rw [h5]; simp, .cons h3 h6⟩
    unfold compGo
    rw [h1]
    exact h4
theorem mapS_hd {f : α → σ → Res (β × σ)} {Q : α → β → Prop} {xs : List α} {s : σ} (hl : xs.length ≤ 1000000) (h : ∀ x ∈ xs, ∀ s, Hd (f x s) fun p => Q x p.1) : Hd (mapS f xs s) fun p => All2 Q xs p.1 := by
  unfold mapS filS
  rw [okLe_eq, if_pos (decide_eq_true (size_le hl))]
  refine (compGo_hd (Q := Q) xs s [] fun x hx s => ?_).mono fun p ⟨ys, h1, h2⟩ => by rw [h1]; simpa using h2
  obtain ⟨p, h1, h2⟩ := h x hx s
  exact ⟨(some p.1, p.2), by rw [h1]; rfl, p.1, rfl, h2⟩
theorem foldR_hd {f : α → σ → Res σ} {xs : List α} {s : σ} (I : Nat → σ → Prop) (h0 : I 0 s) (step : ∀ (i : Nat) (h : i < xs.length) s, I i s → Hd (f xs[i] s) (I (i + 1))) : Hd (foldR f xs s) (I xs.length) := by
  induction xs generalizing s I with
  | nil => exact ⟨s, rfl, h0⟩
  | cons x xs ih =>
    obtain ⟨s', h1, h2⟩ := step 0 (by simp) s h0
    unfold foldR
    rw [show f x s = .ok s' from h1]
    exact ih (fun i => I (i + 1)) h2 fun i h s hs => step (i + 1) (by simpa using h) s hs
theorem forR_go {f : α → σ → Res (Lp σ τ)} {k : σ → Res τ} {Q : τ → Prop} : ∀ {xs : List α} {s : σ} (I : Nat → σ → Prop), I 0 s → (∀ (i : Nat) (h : i < xs.length) s, I i s → Hd (f xs[i] s) fun l => ∃ s', l = .go s' ∧ I (i + 1) s') → (∀ s, I xs.length s → Hd (k s) Q) → Hd (forR f xs s k) Q
  | [], s, I, h0, _, hk => hk s h0
  | x :: xs, s, I, h0, step, hk => by
    obtain ⟨l, h1, s', rfl, h2⟩ := step 0 (by simp) s h0
    unfold forR
    rw [show f x s = .ok (.go s') from h1]
    exact forR_go (fun i => I (i + 1)) h2 (fun i h s hs => step (i + 1) (by simpa using h) s hs) hk
theorem drawV_lt' (ds : List Int) (a : Nat) (m : Int) (h : 0 < m) : 0 ≤ drawV ds a m ∧ drawV ds a m < m := by
  unfold drawV
  cases ds[a]? with
  | none => exact ⟨Int.le_refl _, h⟩
  | some d => exact ⟨Int.emod_nonneg _ (by omega), Int.emod_lt_of_pos _ h⟩
theorem hd_draw {b : Bx} {m : Int} {q : Int × Bx → Res β} {Q : β → Prop} (h : 0 < m) (k : ∀ v b, 0 ≤ v → v < m → Hd (q (v, b)) Q) : Hd ((p__law_draw b m).bind q) Q := by
  have := drawV_lt' b.ds b.at_ m h
  unfold p__law_draw
  rw [if_pos h]
  exact k _ _ this.1 this.2
theorem hd_digits {ns : List Int} {q : List Int → Res β} {Q : β → Prop} (k : ∀ ds, Hd (q ds) Q) : Hd ((p__law_digits ns 0 63).bind q) Q := by
  unfold p__law_digits
  rw [if_pos ⟨rfl, rfl⟩]
  exact k _
end
end VF
set_option maxRecDepth 100000
set_option maxHeartbeats 4000000
namespace V
set_option autoImplicit false
open PySem L2 VF
open Enc (enc)
def d_total : M Fl := (dSeq (dSet 2 (dC (.int 0)))
  (dSeq (dFor (dIt (dVar 1)) (gN 3) (dSet 2 (dOp fMod (dOp (fI (· + ·)) (dVar 2) (dVar 3)) (dVar 0))))
  (dRet (dVar 2))))
def φ_total : Fn := mkFn0 [false, false] 4 d_total
def d_split : M Fl := (dSeq (dSet 3 (dComp [4] (dIt (dVar 2)) (gN 4) dYes (dOp fMod (dVar 4) (dVar 0))))
  (dSeq (dDrop (dApp 3 (dOp fMod (dOp (fI (· - ·)) (dVar 1) (dCB sumD (dCons (dVar 3) dNil))) (dVar 0))))
  (dRet (dVar 3))))
def φ_split : Fn := mkFn0 [false, false, false] 5 d_split
def d__law_prime : M Fl := (dRet (dIx (dLst (dCons (dC (.int 2)) (dCons (dC (.int 3)) (dCons (dC (.int 5)) (dCons (dC (.int 7)) (dCons (dC (.int 11)) (dCons (dC (.int 13)) (dCons (dC (.int 17)) (dCons (dC (.int 19)) (dCons (dC (.int 23)) (dCons (dC (.int 97)) (dCons (dC (.int 101)) (dCons (dC (.int 997)) dNil))))))))))))) (dCall [true, false] φ__law_draw (dCons (dVar 0) (dCons (dC (.int 12)) dNil)))))
def φ__law_prime : Fn := mkFn0 [true] 1 d__law_prime
def d__law_numbers : M Fl := (dSeq (dSet 2 (dLst dNil))
  (dSeq (dFor (dRng1 (dCons (dVar 1) dNil)) (gN 3) (dDrop (dApp 2 (dOp (fI (· - ·)) (dOp (fI (· + ·)) (dOp fMul (dCall [true, false] φ__law_draw (dCons (dVar 0) (dCons (dC (.int 1000)) dNil))) (dC (.int 1000))) (dCall [true, false] φ__law_draw (dCons (dVar 0) (dCons (dC (.int 1000)) dNil)))) (dC (.int 300))))))
  (dRet (dVar 2))))
def φ__law_numbers : Fn := mkFn0 [true, false] 4 d__law_numbers
def p_total (prime : Int) (numbers : List Int) : Res Int :=
(Res.ok (0 : Int)).bind fun result =>
(foldR (fun number result =>
(modR ((result + number)) prime).bind fun t19 =>
(Res.ok (t19 : Int)).bind fun result =>
.ok result) numbers result).bind fun result =>
.ok result
theorem ss_total (prime : Int) (numbers : List Int) : FS false (φ_total [.fz (enc prime), .fz (enc numbers)]) (p_total prime numbers) (fun t => .fz (enc t)) (fun t => [.fz (enc prime), .fz (enc numbers)]) := by
  refine fs_mk0 [.fz (enc prime), .fz (enc numbers), .clr, .clr] rfl (by repeat (first | exact trivial | refine ⟨rfl, ?_⟩)) fun e0 h0 => ?_
  unfold p_total
  unfold d_total
  refine c_seq ?_
  refine c_set ?_
  refine c_pure h0 (p_c) fun r1 k2 => ?_
  refine f_setL (v := (0 : Int)) (fun v => .fz (enc v)) h0 k2 .f (by decide) fun result _ h3 => ?_
  try dsimp only [List.set_cons_zero, List.set_cons_succ] at h3
  refine c_nx ?_
  refine c_seq ?_
  refine c_for ?_
  refine c_it ?_
  refine c_pure h3 (p_fz rfl) fun r4 k5 => ?_
  refine f_it (xs := numbers) h3 k5 .f fun _ h6 => ?_
  refine f_fold (fun (s : Int) => [.fz (enc prime), .fz (enc numbers), .fz (enc s), .cf]) (fun _ _ => tg_n) ?_ ?_ h6
  · rintro number result _ h14
    try dsimp only [List.set_cons_zero, List.set_cons_succ] at h14 ⊢
    refine c_set ?_
    refine c_op ?_
    refine c_pure h14 (p_int (p_fz rfl) (p_fz rfl)) fun r15 k16 => ?_
    refine c_op2 ?_
    refine c_pure h14 (p_fz rfl) fun r17 k18 => ?_
    refine f_mod h14 k16 k18 (kk := fun t19 => ?_)
    refine f_setL (v := (t19 : Int)) (fun v => .fz (enc v)) h14 rk_f .f (by decide) fun result _ h20 => ?_
    try dsimp only [List.set_cons_zero, List.set_cons_succ] at h20
    exact f_jc h20
  rintro result _ h22
  try dsimp only [List.set_cons_zero, List.set_cons_succ] at h22 ⊢
  refine c_nx ?_
  refine c_ret ?_
  refine c_pure h22 (p_fz rfl) fun r23 k24 => ?_
  refine f_ret ?_
  exact f_rt h22 k24 .f (.f (.f .nil))
def p_split (prime : Int) (value : Int) (coins : List Int) : Res (List Int) :=
(mapC (fun coin =>
(modR coin prime).bind fun t9 =>
.ok t9) coins).bind fun t10 =>
(Res.ok (t10 : List Int)).bind fun pieces =>
(modR ((value - pieces.sum)) prime).bind fun t19 =>
(appR pieces t19).bind fun pieces =>
.ok pieces
theorem ss_split (prime : Int) (value : Int) (coins : List Int) : FS false (φ_split [.fz (enc prime), .fz (enc value), .fz (enc coins)]) (p_split prime value coins) (fun t => .ol (fzs (encs t))) (fun t => [.fz (enc prime), .fz (enc value), .fz (enc coins)]) := by
  refine fs_mk0 [.fz (enc prime), .fz (enc value), .fz (enc coins), .clr, .clr] rfl (by repeat (first | exact trivial | refine ⟨rfl, ?_⟩)) fun e0 h0 => ?_
  unfold p_split
  unfold d_split
  refine c_seq ?_
  refine c_set ?_
  refine c_comp ?_
  refine c_it ?_
  refine c_pure h0 (p_fz rfl) fun r1 k2 => ?_
  refine f_it (xs := coins) h0 k2 .f fun _ h3 => ?_
  refine f_mapC (ψ := Int) h3 (fun _ => tg_n) ?_ fun t10 r11 _ k12 h13 => ?_
  · rintro coin _ h4
    try dsimp only [List.set_cons_zero, List.set_cons_succ, wipeS] at h4 ⊢
    refine c_op ?_
    refine c_pure h4 (p_fz rfl) fun r5 k6 => ?_
    refine c_op2 ?_
    refine c_pure h4 (p_fz rfl) fun r7 k8 => ?_
    refine f_mod h4 k6 k8 (kk := fun t9 => ?_)
    exact f_el (v := t9) h4 rk_f
  refine f_setL (v := (t10 : List Int)) (fun v => .ol (encs v)) h13 k12 .w (by decide) fun pieces _ h14 => ?_
  try dsimp only [List.set_cons_zero, List.set_cons_succ] at h14
  refine c_nx ?_
  refine c_seq ?_
  refine c_drop ?_
  refine c_app (ds := encs pieces) h14 rfl ?_
  refine c_op ?_
  refine c_pure h14 (p_int (p_fz rfl) (p_sum (p_ol rfl))) fun r15 k16 => ?_
  refine c_op2 ?_
  refine c_pure h14 (p_fz rfl) fun r17 k18 => ?_
  refine f_mod h14 k16 k18 (kk := fun t19 => ?_)
  refine f_app (xs := pieces) (v := t19) h14 rk_f .f rfl fun pieces r20 _ k21 h22 => ?_
  try dsimp only [List.set_cons_zero, List.set_cons_succ] at h22
  refine f_drop ?_
  refine c_nx ?_
  refine c_ret ?_
  refine c_pure h22 (p_ol rfl) fun r23 k24 => ?_
  refine f_ret ?_
  exact f_rt h22 k24 (.v rfl (by decide)) (.f (.f (.f .nil)))
def p__law_prime (box : Bx) : Res (Int × Bx) :=
(p__law_draw box 12).bind fun (t5, box) =>
(geti (([2, 3, 5, 7, 11, 13, 17, 19, 23, 97, 101, 997] : List Int)) t5).bind fun t9 =>
.ok (t9, box)
theorem ss__law_prime (box : Bx) : FS false (φ__law_prime [.ol (fzs (boxD box))]) (p__law_prime box) (fun t => .fz (enc t.1)) (fun t => [.ol (fzs (boxD t.2))]) := by
  refine fs_mk0 [.ol (boxD box)] rfl (by repeat (first | exact trivial | refine ⟨rfl, ?_⟩)) fun e0 h0 => ?_
  unfold p__law_prime
  unfold d__law_prime
  refine c_ret ?_
  refine c_ix ?_
  refine c_pure h0 (p_lst (pa_cons' (p_c) (pa_cons' (p_c) (pa_cons' (p_c) (pa_cons' (p_c) (pa_cons' (p_c) (pa_cons' (p_c) (pa_cons' (p_c) (pa_cons' (p_c) (pa_cons' (p_c) (pa_cons' (p_c) (pa_cons' (p_c) (pa_cons' (p_c) pa_nil')))))))))))) (.cons .f (.cons .f (.cons .f (.cons .f (.cons .f (.cons .f (.cons .f (.cons .f (.cons .f (.cons .f (.cons .f (.cons .f .nil))))))))))))) fun r1 k2 => ?_
  refine c_ix2 ?_
  refine c_call ?_
  refine c_pureA h0 (pa_cons' (p_ol rfl) (pa_cons' (p_c) pa_nil')) fun r3 k4 => ?_
  refine f_call h0 k4 (.t rfl (.f .f .nil)) (ss__law_draw box 12) (fun _ => (.t rfl (.f .nil))) (fun _ => rk_f) ?_
  rintro ⟨t5, box⟩ r6 _ k7 h8
  try dsimp only [List.set_cons_zero, List.set_cons_succ] at h8 ⊢
  refine f_ix (xs := ([2, 3, 5, 7, 11, 13, 17, 19, 23, 97, 101, 997] : List Int)) h8 k2 k7 fun t9 => ?_
  refine f_ret ?_
  exact f_rt h8 rk_f .f (.t rfl .nil)
def p__law_numbers (box : Bx) (many : Int) : Res (List Int × Bx) :=
(Res.ok (([] : List Int) : List Int)).bind fun numbersH =>
(rng1R many).bind fun xs6 =>
(foldR (fun k' (box, numbersH) =>
(p__law_draw box 1000).bind fun (t29, box) =>
(p__law_draw box 1000).bind fun (t37, box) =>
(appR numbersH ((((t29 * 1000) + t37) - 300))).bind fun numbersH =>
.ok (box, numbersH)) xs6 (box, numbersH)).bind fun (box, numbersH) =>
.ok (numbersH, box)
theorem ss__law_numbers (box : Bx) (many : Int) : FS false (φ__law_numbers [.ol (fzs (boxD box)), .fz (enc many)]) (p__law_numbers box many) (fun t => .ol (fzs (encs t.1))) (fun t => [.ol (fzs (boxD t.2)), .fz (enc many)]) := by
  refine fs_mk0 [.ol (boxD box), .fz (enc many), .clr, .clr] rfl (by repeat (first | exact trivial | refine ⟨rfl, ?_⟩)) fun e0 h0 => ?_
  unfold p__law_numbers
  unfold d__law_numbers
  refine c_seq ?_
  refine c_set ?_
  refine c_pure h0 (p_lst pa_nil' .nil) fun r1 k2 => ?_
  refine f_setL (v := (([] : List Int) : List Int)) (fun v => .ol (encs v)) h0 k2 .w (by decide) fun numbersH _ h3 => ?_
  try dsimp only [List.set_cons_zero, List.set_cons_succ] at h3
  refine c_nx ?_
  refine c_seq ?_
  refine c_for ?_
  refine c_rng1 ?_
  refine c_pureA h3 (pa_cons' (p_fz rfl) pa_nil') fun r4 k5 => ?_
  refine f_rng1' h3 k5 fun xs6 => ?_
  refine f_fold (fun (s : Bx × List Int) => [.ol (boxD s.1), .fz (enc many), .ol (encs s.2), .cf]) (fun _ _ => tg_n) ?_ ?_ h3
  · rintro k' ⟨box, numbersH⟩ _ h26
    try dsimp only [List.set_cons_zero, List.set_cons_succ] at h26 ⊢
    refine c_drop ?_
    refine c_app (ds := encs numbersH) h26 rfl ?_
    refine c_op ?_
    refine c_op ?_
    refine c_op ?_
    refine c_call ?_
    refine c_pureA h26 (pa_cons' (p_ol rfl) (pa_cons' (p_c) pa_nil')) fun r27 k28 => ?_
    refine f_call h26 k28 (.t rfl (.f .f .nil)) (ss__law_draw box 1000) (fun _ => (.t rfl (.f .nil))) (fun _ => rk_f) ?_
    rintro ⟨t29, box⟩ r30 _ k31 h32
    try dsimp only [List.set_cons_zero, List.set_cons_succ] at h32 ⊢
    refine c_op2 ?_
    refine c_pure h32 (p_c) fun r33 k34 => ?_
    refine f_mulR h32 k31 k34 ?_
    refine c_op2 ?_
    refine c_call ?_
    refine c_pureA h32 (pa_cons' (p_ol rfl) (pa_cons' (p_c) pa_nil')) fun r35 k36 => ?_
    refine f_call h32 k36 (.t rfl (.f .f .nil)) (ss__law_draw box 1000) (fun _ => (.t rfl (.f .nil))) (fun _ => rk_f) ?_
    rintro ⟨t37, box⟩ r38 _ k39 h40
    try dsimp only [List.set_cons_zero, List.set_cons_succ] at h40 ⊢
    refine f_int h40 rk_f k39 (kk := ?_)
    refine c_op2 ?_
    refine c_pure h40 (p_c) fun r41 k42 => ?_
    refine f_int h40 rk_f k42 (kk := ?_)
    refine f_app (xs := numbersH) (v := (((t29 * 1000) + t37) - 300)) h40 rk_f .f rfl fun numbersH r43 _ k44 h45 => ?_
    try dsimp only [List.set_cons_zero, List.set_cons_succ] at h45
    refine f_drop ?_
    exact f_jc h45
  rintro ⟨box, numbersH⟩ _ h46
  try dsimp only [List.set_cons_zero, List.set_cons_succ] at h46 ⊢
  refine c_nx ?_
  refine c_ret ?_
  refine c_pure h46 (p_ol rfl) fun r47 k48 => ?_
  refine f_ret ?_
  exact f_rt h46 k48 (.v rfl (by decide)) (.t rfl (.f .nil))
end V
set_option maxRecDepth 100000
set_option maxHeartbeats 4000000
namespace V
set_option autoImplicit false
open PySem L2 VF
section
variable {α β γ : Type}
def Sg : Nat → (Nat → Int) → Int
  | 0, _ => 0
  | n + 1, f => Sg n f + f n
theorem getD_lt {xs : List α} {i : Nat} (d : α) (h : i < xs.length) : xs.getD i d = xs[i] := by
  rw [List.getD_eq_getElem?_getD, List.getElem?_eq_getElem h]; rfl
theorem geti_D {xs : List α} {i : Nat} (d : α) (h : i < xs.length) : geti xs (i : Int) = .ok (xs.getD i d) := by rw [geti_nat h, getD_lt d h]
theorem geti_Di {xs : List α} {i : Int} (d : α) (h0 : 0 ≤ i) (h : i.toNat < xs.length) : geti xs i = .ok (xs.getD i.toNat d) := by rw [geti_int h0 h, getD_lt d h]
end
theorem total_ok {p : Int} (hp : 0 < p) (ns : List Int) : p_total p ns = .ok (ns.sum % p) := by
  unfold p_total
  simp only [Res.bind_ok, bind_ok_self]
  have : ∀ (ns : List Int) (a : Int), foldR (fun number result => modR (result + number) p) ns (a % p) = .ok ((a + ns.sum) % p) := by
    intro ns
    induction ns with
    | nil => intro a; simp [foldR]
    | cons n ns ih =>
      intro a
      unfold foldR
      rw [modR_ok hp, Res.bind_ok, Int.emod_add_emod, ih (a + n), List.sum_cons]
      congr 2; omega
  have h := this ns 0
  rwa [Int.zero_emod, Int.zero_add] at h
def splitL (p v : Int) (cs : List Int) : List Int := (cs.map fun c => c % p) ++ [(v - (cs.map fun c => c % p).sum) % p]
theorem splitL_len (p v : Int) (cs : List Int) : (splitL p v cs).length = cs.length + 1 := by simp [splitL]
theorem splitL_sum (p v : Int) (cs : List Int) : (splitL p v cs).sum % p = v % p := by
  unfold splitL
  rw [List.sum_append, List.sum_singleton, Int.add_emod_emod]
  congr 1; omega
theorem splitL_in {p : Int} (hp : 0 < p) (v : Int) (cs : List Int) : ∀ x ∈ splitL p v cs, 0 ≤ x ∧ x < p := by
  intro x hx
  unfold splitL at hx
  rcases List.mem_append.mp hx with h | h
  · obtain ⟨c, _, rfl⟩ := List.mem_map.mp h
    exact ⟨Int.emod_nonneg _ (by omega), Int.emod_lt_of_pos _ hp⟩
  · rw [List.mem_singleton] at h
    subst h
    exact ⟨Int.emod_nonneg _ (by omega), Int.emod_lt_of_pos _ hp⟩
theorem split_ok {p : Int} (hp : 0 < p) (v : Int) {cs : List Int} (hl : cs.length ≤ 100000) : p_split p v cs = .ok (splitL p v cs) := by
  unfold p_split
  rw [mapC_ok (g := fun c => c % p) (by omega) (fun c _ => by rw [modR_ok hp]; rfl)]
  simp only [Res.bind_ok, modR_ok hp, bind_ok_self]
  rw [appR_ok (by simp; omega)]
  rfl
abbrev primes : List Int := [2, 3, 5, 7, 11, 13, 17, 19, 23, 97, 101, 997]
theorem prime_hd (b : Bx) : Hd (p__law_prime b) fun q => q.1 ∈ primes := by
  unfold p__law_prime
  refine hd_draw (by decide) fun v b h0 h1 => ?_
  dsimp only
  rw [geti_Di 2 h0 (by show v.toNat < 12; omega), Res.bind_ok]
  refine Hd.ok ?_
  show primes.getD v.toNat 2 ∈ primes
  rw [getD_lt 2 (by show v.toNat < 12; omega)]
  exact List.getElem_mem _
theorem primes_ge {p : Int} (h : p ∈ primes) : 2 ≤ p ∧ p ≤ 997 := by
  simp only [primes, List.mem_cons, List.not_mem_nil, or_false] at h
  omega
theorem numbers_hd (b : Bx) {n : Int} (h : -1000000 ≤ n) (h2 : n ≤ 1000000) : Hd (p__law_numbers b n) fun q => q.1.length = n.toNat ∧ ∀ x ∈ q.1, -300 ≤ x ∧ x < 1000000 := by
  unfold p__law_numbers
  rw [rng1_ok h2 h]
  simp only [Res.bind_ok]
  have := foldR_hd (f := fun k' (x : Bx × List Int) => match x with
    | (box, numbersH) => (p__law_draw box 1000).bind fun (t29, box) => (p__law_draw box 1000).bind fun (t37, box) => (appR numbersH (t29 * 1000 + t37 - 300)).bind fun numbersH => Res.ok (box, numbersH)) (xs := irng 0 n.toNat) (s := (b, [])) (fun i s => s.2.length = i ∧ ∀ x ∈ s.2, -300 ≤ x ∧ x < 1000000) ⟨rfl, by simp⟩ (by
    rintro i hi ⟨b, L⟩ ⟨h3, h4⟩
    rw [irng_len] at hi
    refine hd_draw (by decide) fun v b a0 a1 => ?_
    refine hd_draw (by decide) fun w b c0 c1 => ?_
    dsimp only
    rw [appR_ok (by simp only at h3; omega), Res.bind_ok]
    refine Hd.ok ⟨by simp only at h3; simp [h3], ?_⟩
    intro x hx
    simp only [List.mem_append, List.mem_singleton] at hx
    rcases hx with hx | hx
    · exact h4 x hx
    · omega)
  rw [irng_len] at this
  refine this.bind fun s hs => ?_
  obtain ⟨b, L⟩ := s
  exact Hd.ok hs
end V
set_option maxRecDepth 100000
set_option maxHeartbeats 4000000
namespace V
set_option autoImplicit false
open PySem L2 VF
section
variable {α β γ : Type}
end
def tb (t : List (List Int)) (k : Nat) (m : Int) : Int := (t.getD k []).getD m.toNat 0
def at3 (ps : List (List (List Int))) (a k h : Nat) : Int := ((ps.getD a []).getD k []).getD h 0
def newL (p : Int) (ps : List (List (List Int))) (m n : Nat) : List (List Int) :=
  (List.range n).map fun k => (List.range m).map fun j => (Sg ps.length fun h => at3 ps h k j) % p
end V
set_option maxRecDepth 100000
set_option maxHeartbeats 4000000
namespace V
set_option autoImplicit false
open PySem L2 VF
section
variable {α β γ σ τ : Type}
end
abbrev nt (L : List Int) (j : Nat) : Int := L.getD j 0
structure LM (L : List Int) (j : Nat) : Prop where
  lt : j < L.length
  le : ∀ i, i < L.length → nt L j ≤ nt L i
  last : ∀ i, i < L.length → j < i → nt L j < nt L i
structure FM (L : List Int) (j : Nat) : Prop where
  lt : j < L.length
  ge : ∀ i, i < L.length → nt L i ≤ nt L j
  first : ∀ i, i < j → nt L i < nt L j
end V
set_option maxHeartbeats 4000000
set_option synthInstance.maxHeartbeats 400000
set_option synthInstance.maxSize 2000
namespace V
section
set_option autoImplicit false
open PySem L2 VF
open Enc (enc)
def d_join : M Fl := (dRet (dCallB 2 φ_total (dCons (dVar 0) (dCons (dVar 1) dNil))))
def φ_join : Fn := mkFn0 [false, false] 2 d_join
def d_fresh_table : M Fl := (dRet (dComp [3, 4] (dZip (dCons (dVar 1) (dCons (dVar 2) dNil))) (gTp 2 (gCo (gN 3) (gCo (gN 4) gNo))) dYes (dCall [false, false, false] φ_split (dCons (dVar 0) (dCons (dVar 3) (dCons (dVar 4) dNil))))))
def φ_fresh_table : Fn := mkFn0 [false, false, false] 5 d_fresh_table
def d_values_of : M Fl := (dRet (dComp [2] (dIt (dVar 1)) (gN 2) dYes (dCallB 2 φ_join (dCons (dVar 0) (dCons (dVar 2) dNil)))))
def φ_values_of : Fn := mkFn0 [false, false] 3 d_values_of
def d_column : M Fl := (dRet (dComp [2] (dIt (dVar 0)) (gN 2) dYes (dIx (dVar 2) (dVar 1))))
def φ_column : Fn := mkFn0 [false, false] 3 d_column
def d_changed_table : M Fl := (dSeq (dSet 4 (dCompO [5] (dIt (dVar 1)) (gN 5) dYes (dNew listD (dCons (dVar 5) dNil))))
  (dSeq (dForZ 4 5 6 (dVar 3) (dSetIx 5 (dVar 2) (dOp fMod (dOp (fI (· + ·)) (dIx (dVar 5) (dVar 2)) (dVar 6)) (dVar 0))))
  (dRet (dFzE (dVar 4)))))
def φ_changed_table : Fn := mkFn0 [false, false, false, false] 7 d_changed_table
def d__law_are_values : M Fl := (dSeq (dIf (dNot (dTru (dCB isiD (dCons (dVar 0) (dCons (dC (.ty "list")) dNil))))) (dRet (dC (.bl false))) dNext)
  (dSeq (dFor (dIt (dVar 0)) (gN 2) (dIf (dOr (dNot (dTru (dCallB 1 φ__law_is_int (dCons (dVar 2) dNil)))) (dNot (dT (dChain (fB fun i j => decide (i ≤ j)) (fB fun i j => decide (i < j)) (dC (.int 0)) (dVar 2) (dVar 1))))) (dRet (dC (.bl false))) dNext))
  (dRet (dC (.bl true)))))
def φ__law_are_values : Fn := mkFn0 [false, false] 3 d__law_are_values
def d__law_right : M Fl := (dSeq (dIf (dOr (dNot (dTru (dCallB 2 φ__law_are_values (dCons (dVar 3) (dCons (dVar 0) dNil))))) (dT (dOp fNe (dCB lenD (dCons (dVar 3) dNil)) (dOp (fI (· + ·)) (dCB lenD (dCons (dVar 2) dNil)) (dC (.int 1)))))) (dRet (dC (.bl false))) dNext)
  (dSeq (dFor (dRng1 (dCons (dCB lenD (dCons (dVar 2) dNil)) dNil)) (gN 4) (dIf (dT (dOp fNe (dIx (dVar 3) (dVar 4)) (dOp fMod (dCB intD (dCons (dIx (dVar 2) (dVar 4)) dNil)) (dVar 0)))) (dRet (dC (.bl false))) dNext))
  (dRet (dOp fEq (dOp fMod (dCB intD (dCons (dOp (fI (· - ·)) (dCB sumD (dCons (dVar 3) dNil)) (dVar 1)) dNil)) (dVar 0)) (dC (.int 0))))))
def φ__law_right : Fn := mkFn0 [false, false, false, false] 5 d__law_right
def d_law_0 : M Fl := (dSet 1 (dLst (dCons (dCall [false, false, false] φ__law_digits (dCons (dVar 0) (dCons (dC (.int 0)) (dCons (dC (.int 63)) dNil)))) (dCons (dC (.int 0)) dNil))))
def d_law_1 : M Fl := (dSet 2 (dCall [true] φ__law_prime (dCons (dVar 1) dNil)))
def d_law_2 : M Fl := (dSet 3 (dCall [true, false] φ__law_draw (dCons (dVar 1) (dCons (dC (.int 6)) dNil))))
def d_law_3 : M Fl := (dSet 4 (dComp [14] (dIt (dCall [true, false] φ__law_numbers (dCons (dVar 1) (dCons (dCall [true, false] φ__law_draw (dCons (dVar 1) (dCons (dC (.int 7)) dNil))) dNil)))) (gN 14) dYes (dOp fMod (dCB intD (dCons (dVar 14) dNil)) (dVar 2))))
def d_law_4 : M Fl := (dSet 5 (dComp [15] (dIt (dVar 4)) (gN 15) dYes (dCall [true, false] φ__law_numbers (dCons (dVar 1) (dCons (dVar 3) dNil)))))
def d_law_5 : M Fl := (dSet 6 (dComp [16] (dIt (dVar 5)) (gN 16) dYes (dComp [17] (dIt (dVar 16)) (gN 17) dYes (dVar 17))))
def d_law_6 : M Fl := (dSet 7 (dCall [false, false, false] φ_fresh_table (dCons (dVar 2) (dCons (dVar 4) (dCons (dVar 5) dNil)))))
def d_law_7 : M Fl := (dIf (dOr (dNot (dTru (dCB isiD (dCons (dVar 7) (dCons (dC (.ty "list")) dNil))))) (dOr (dT (dOp fNe (dCB lenD (dCons (dVar 7) dNil)) (dCB lenD (dCons (dVar 4) dNil)))) (dT (dOp fNe (dVar 5) (dVar 6))))) (dRet (dC (.bl false))) dNext)
def d_law_8 : M Fl := (dFor (dRng1 (dCons (dCB lenD (dCons (dVar 4) dNil)) dNil)) (gN 8) (dSeq (dIf (dOr (dNot (dTru (dCallB 4 φ__law_right (dCons (dVar 2) (dCons (dIx (dVar 4) (dVar 8)) (dCons (dIx (dVar 5) (dVar 8)) (dCons (dIx (dVar 7) (dVar 8)) dNil))))))) (dT (dOp fNe (dIx (dVar 7) (dVar 8)) (dCall [false, false, false] φ_split (dCons (dVar 2) (dCons (dIx (dVar 4) (dVar 8)) (dCons (dIx (dVar 5) (dVar 8)) dNil))))))) (dRet (dC (.bl false))) dNext)
  (dIf (dT (dOp fNe (dCallB 2 φ_join (dCons (dVar 2) (dCons (dIx (dVar 7) (dVar 8)) dNil))) (dIx (dVar 4) (dVar 8)))) (dRet (dC (.bl false))) dNext)))
def d_law_9 : M Fl := (dIf (dT (dOp fNe (dCall [false, false] φ_values_of (dCons (dVar 2) (dCons (dVar 7) dNil))) (dVar 4))) (dRet (dC (.bl false))) dNext)
def d_law_10 : M Fl := (dSet 9 (dCall [true, false] φ__law_draw (dCons (dVar 1) (dCons (dOp (fI (· + ·)) (dVar 3) (dC (.int 1))) dNil))))
def d_law_11 : M Fl := (dIf (dT (dOp fNe (dCall [false, false] φ_column (dCons (dVar 7) (dCons (dVar 9) dNil))) (dComp [16] (dIt (dVar 7)) (gN 16) dYes (dIx (dVar 16) (dVar 9))))) (dRet (dC (.bl false))) dNext)
def d_law_12 : M Fl := (dSet 10 (dCall [true, false] φ__law_numbers (dCons (dVar 1) (dCons (dCB lenD (dCons (dVar 4) dNil)) dNil))))
def d_law_13 : M Fl := (dSet 11 (dComp [16] (dIt (dVar 7)) (gN 16) dYes (dComp [18] (dIt (dVar 16)) (gN 18) dYes (dVar 18))))
def d_law_14 : M Fl := (dSet 12 (dCall [false, false, false, false] φ_changed_table (dCons (dVar 2) (dCons (dVar 7) (dCons (dVar 9) (dCons (dVar 10) dNil))))))
def d_law_15 : M Fl := (dIf (dOr (dT (dOp fNe (dVar 7) (dVar 11))) (dOr (dNot (dTru (dCB isiD (dCons (dVar 12) (dCons (dC (.ty "list")) dNil))))) (dT (dOp fNe (dCB lenD (dCons (dVar 12) dNil)) (dCB lenD (dCons (dVar 4) dNil)))))) (dRet (dC (.bl false))) dNext)
def d_law_16 : M Fl := (dFor (dRng1 (dCons (dCB lenD (dCons (dVar 4) dNil)) dNil)) (gN 8) (dSeq (dSet 13 (dComp [18] (dIt (dIx (dVar 11) (dVar 8))) (gN 18) dYes (dVar 18)))
  (dSeq (dSetIx 13 (dVar 9) (dOp fMod (dCB intD (dCons (dOp (fI (· + ·)) (dIx (dVar 13) (dVar 9)) (dIx (dVar 10) (dVar 8))) dNil)) (dVar 2)))
  (dIf (dOr (dNot (dTru (dCallB 2 φ__law_are_values (dCons (dIx (dVar 12) (dVar 8)) (dCons (dVar 2) dNil))))) (dT (dOp fNe (dIx (dVar 12) (dVar 8)) (dVar 13)))) (dRet (dC (.bl false))) dNext))))
def d_law_17 : M Fl := (dRet (dC (.bl true)))
def d_law : M Fl := (dSeq d_law_0 (dSeq d_law_1 (dSeq d_law_2 (dSeq d_law_3 (dSeq d_law_4 (dSeq d_law_5 (dSeq d_law_6 (dSeq d_law_7 (dSeq d_law_8 (dSeq d_law_9 (dSeq d_law_10 (dSeq d_law_11 (dSeq d_law_12 (dSeq d_law_13 (dSeq d_law_14 (dSeq d_law_15 (dSeq d_law_16 d_law_17)))))))))))))))))
def φ_law : Fn := mkFn0 [false] 19 d_law
def p_join (prime : Int) (pieces : List Int) : Res Int :=
(p_total prime pieces).bind fun t3 =>
Res.ok t3
theorem ss_join (prime : Int) (pieces : List Int) : FS false (φ_join [.fz (enc prime), .fz (enc pieces)]) (p_join prime pieces) (fun t => .fz (enc t)) (fun t => [.fz (enc prime), .fz (enc pieces)]) := by
  refine fs_mk0 [.fz (enc prime), .fz (enc pieces)] rfl (by repeat (first | exact trivial | refine ⟨rfl, ?_⟩)) fun e0 h0 => ?_
  unfold p_join
  unfold d_join
  refine c_ret ?_
  refine c_callB ?_
  refine c_pureA h0 (pa_cons' (p_fz rfl) (pa_cons' (p_fz rfl) pa_nil')) fun r1 k2 => ?_
  refine f_callB h0 k2 (.cons .f (.cons .f .nil)) rfl (ss_total prime pieces) imm_I fun t3 r4 k5 => ?_
  refine f_ret ?_
  exact f_rt h0 k5 .f (.f (.f .nil))
def p_fresh_table (prime : Int) (votes : List Int) (coins : List (List Int)) : Res (List (List Int)) :=
(mapC (fun (vote, row) =>
(p_split prime vote row).bind fun t7 =>
Res.ok t7) (votes.zip coins)).bind fun t11 =>
Res.ok t11
theorem ss_fresh_table (prime : Int) (votes : List Int) (coins : List (List Int)) : FS false (φ_fresh_table [.fz (enc prime), .fz (enc votes), .fz (enc coins)]) (p_fresh_table prime votes coins) (fun t => .ol (fzs (encs t))) (fun t => [.fz (enc prime), .fz (enc votes), .fz (enc coins)]) := by
  refine fs_mk0 [.fz (enc prime), .fz (enc votes), .fz (enc coins), .clr, .clr] rfl (by repeat (first | exact trivial | refine ⟨rfl, ?_⟩)) fun e0 h0 => ?_
  unfold p_fresh_table
  unfold d_fresh_table
  refine c_ret ?_
  refine c_comp ?_
  refine c_zip ?_
  refine c_pureA h0 (pa_cons' (p_fz rfl) (pa_cons' (p_fz rfl) pa_nil')) fun r1 k2 => ?_
  refine f_zip' (xs := votes) (ys := coins) h0 k2 .f .f fun _ h3 => ?_
  refine f_mapC (ψ := List Int) h3 (fun _ => (tg_tup (tgs_co tg_n (tgs_co tg_n tgs_no)))) ?_ fun t11 r12 _ k13 h14 => ?_
  · rintro ⟨vote, row⟩ _ h4
    try dsimp only [List.set_cons_zero, List.set_cons_succ, wipeS] at h4 ⊢
    refine c_call ?_
    refine c_pureA h4 (pa_cons' (p_fz rfl) (pa_cons' (p_fz rfl) (pa_cons' (p_fz rfl) pa_nil'))) fun r5 k6 => ?_
    refine f_call h4 k6 (.f .f (.f .f (.f .f .nil))) (ss_split prime vote row) (fun _ => (.f (.f (.f .nil)))) (fun _ => rk_w) fun t7 r8 _ k9 h10 => ?_
    try dsimp only [List.set_cons_zero, List.set_cons_succ] at h10
    exact f_el (v := t7) h10 k9
  refine f_ret ?_
  exact f_rt h14 k13 .w (.f (.f (.f .nil)))
def p_values_of (prime : Int) (table : List (List Int)) : Res (List Int) :=
(mapC (fun (row : List Int) =>
(p_join prime row).bind fun t7 =>
Res.ok t7) table).bind fun t10 =>
Res.ok t10
theorem ss_values_of (prime : Int) (table : List (List Int)) : FS false (φ_values_of [.fz (enc prime), .fz (enc table)]) (p_values_of prime table) (fun t => .ol (fzs (encs t))) (fun t => [.fz (enc prime), .fz (enc table)]) := by
  refine fs_mk0 [.fz (enc prime), .fz (enc table), .clr] rfl (by repeat (first | exact trivial | refine ⟨rfl, ?_⟩)) fun e0 h0 => ?_
  unfold p_values_of
  unfold d_values_of
  refine c_ret ?_
  refine c_comp ?_
  refine c_it ?_
  refine c_pure h0 (p_fz rfl) fun r1 k2 => ?_
  refine f_it (xs := table) h0 k2 .f fun _ h3 => ?_
  refine f_mapC (ψ := Int) h3 (fun _ => tg_n) ?_ fun t10 r11 _ k12 h13 => ?_
  · rintro row _ h4
    try dsimp only [List.set_cons_zero, List.set_cons_succ, wipeS] at h4 ⊢
    refine c_callB ?_
    refine c_pureA h4 (pa_cons' (p_fz rfl) (pa_cons' (p_fz rfl) pa_nil')) fun r5 k6 => ?_
    refine f_callB h4 k6 (.cons .f (.cons .f .nil)) rfl (ss_join prime row) imm_I fun t7 r8 k9 => ?_
    exact f_el (v := t7) h4 k9
  refine f_ret ?_
  exact f_rt h13 k12 .w (.f (.f .nil))
def p_column {α : Type} (table : List (List α)) (mixer : Int) : Res (List α) :=
(mapC (fun (row : List α) =>
(geti row mixer).bind fun t9 =>
Res.ok t9) table).bind fun t10 =>
Res.ok t10
theorem ss_column {α : Type} [Enc α] (table : List (List α)) (mixer : Int) : FS false (φ_column [.fz (enc table), .fz (enc mixer)]) (p_column table mixer) (fun t => .ol (fzs (encs t))) (fun t => [.fz (enc table), .fz (enc mixer)]) := by
  refine fs_mk0 [.fz (enc table), .fz (enc mixer), .clr] rfl (by repeat (first | exact trivial | refine ⟨rfl, ?_⟩)) fun e0 h0 => ?_
  unfold p_column
  unfold d_column
  refine c_ret ?_
  refine c_comp ?_
  refine c_it ?_
  refine c_pure h0 (p_fz rfl) fun r1 k2 => ?_
  refine f_it (xs := table) h0 k2 .f fun _ h3 => ?_
  refine f_mapC (ψ := α) h3 (fun _ => tg_n) ?_ fun t10 r11 _ k12 h13 => ?_
  · rintro row _ h4
    try dsimp only [List.set_cons_zero, List.set_cons_succ, wipeS] at h4 ⊢
    refine c_ix ?_
    refine c_pure h4 (p_fz rfl) fun r5 k6 => ?_
    refine c_ix2 ?_
    refine c_pure h4 (p_fz rfl) fun r7 k8 => ?_
    refine f_ix (xs := row) h4 k6 k8 fun t9 => ?_
    exact f_el (v := t9) h4 rk_f
  refine f_ret ?_
  exact f_rt h13 k12 .w (.f (.f .nil))
def p_changed_table (prime : Int) (table : List (List Int)) (mixer : Int) (differences : List Int) : Res (List (List Int)) :=
(mapC (fun (row : List Int) =>
Res.ok (row : List Int)) table).bind fun rows =>
(zipR (fun (row : List Int) (difference : Int) =>
(geti row mixer).bind fun t17 =>
(modR ((t17 + difference)) prime).bind fun t22 =>
(setR row mixer t22).bind fun row =>
Res.ok row) rows differences).bind fun rows =>
Res.ok rows
theorem ss_changed_table (prime : Int) (table : List (List Int)) (mixer : Int) (differences : List Int) : FS false (φ_changed_table [.fz (enc prime), .fz (enc table), .fz (enc mixer), .fz (enc differences)]) (p_changed_table prime table mixer differences) (fun t => .fz (enc t)) (fun t => [.fz (enc prime), .fz (enc table), .fz (enc mixer), .fz (enc differences)]) := by
  refine fs_mk0 [.fz (enc prime), .fz (enc table), .fz (enc mixer), .fz (enc differences), .clr, .clr, .clr] rfl (by repeat (first | exact trivial | refine ⟨rfl, ?_⟩)) fun e0 h0 => ?_
  unfold p_changed_table
  unfold d_changed_table
  refine c_seq ?_
  refine c_set ?_
  refine c_compO ?_
  refine c_it ?_
  refine c_pure h0 (p_fz rfl) fun r1 k2 => ?_
  refine f_it (xs := table) h0 k2 .f fun _ h3 => ?_
  refine f_mapO (τ := Int) h3 (fun _ => tg_n) ?_ fun rows r7 _ k8 h9 => ?_
  · rintro row _ h4
    try dsimp only [List.set_cons_zero, List.set_cons_succ, wipeS] at h4 ⊢
    refine c_pure h4 (p_list (p_fz rfl)) fun r5 k6 => ?_
    exact f_elO (v := (row : List Int)) h4 k6
  refine f_setO h9 k8 (by decide) fun _ h10 => ?_
  try dsimp only [List.set_cons_zero, List.set_cons_succ] at h10
  refine c_nx ?_
  refine c_seq ?_
  refine f_forZ (j := 4) (a := 5) (b := 6) (rows := rows) (ds := differences) [.fz (enc prime), .fz (enc table), .fz (enc mixer), .fz (enc differences), .clr, .any, .any] h10 rfl (p_fz rfl) .f (by first | exact W.refl _ | (repeat (first | exact W.nil | refine W.rf ?_ | refine W.cz ?_ | refine W.cc ?_ | refine W.vz ?_ | refine W.vo ?_ | refine W.an ?_))) rfl (fun _ => by repeat (first | exact W.nil | refine W.rf ?_ | refine W.an ?_)) ?_ ?_
  · rintro row difference _ h11
    try dsimp only [List.set_cons_zero, List.set_cons_succ] at h11 ⊢
    refine c_setIx ?_
    refine c_op ?_
    refine c_op ?_
    refine c_ix ?_
    refine c_pure h11 (p_ol rfl) fun r13 k14 => ?_
    refine c_ix2 ?_
    refine c_pure h11 (p_fz rfl) fun r15 k16 => ?_
    refine f_ix (xs := row) h11 k14 k16 fun t17 => ?_
    refine c_op2 ?_
    refine c_pure h11 (p_fz rfl) fun r18 k19 => ?_
    refine f_int h11 rk_f k19 (kk := ?_)
    refine c_op2 ?_
    refine c_pure h11 (p_fz rfl) fun r20 k21 => ?_
    refine f_mod h11 rk_f k21 (kk := fun t22 => ?_)
    refine c_setIx2 (ds := encs row) h11 rfl ?_
    refine c_pure h11 (p_fz rfl) fun r23 k24 => ?_
    refine f_setIx (xs := row) (v := t22) h11 rk_f k24 .f rfl fun row _ h25 => ?_
    try dsimp only [List.set_cons_zero, List.set_cons_succ] at h25
    exact f_jz h25
  rintro rows _ h12
  try dsimp only [List.set_cons_zero, List.set_cons_succ] at h12 ⊢
  refine c_nx ?_
  refine c_ret ?_
  refine c_fzE ?_
  refine c_pure h12 (p_oll rfl) fun r26 k27 => ?_
  refine f_fzE (d := enc rows) h12 k27 (fz_oll rfl) fun r28 _ k29 h30 => ?_
  refine f_ret ?_
  exact f_rt h30 k29 .f (.f (.f (.f (.f .nil))))
def p__law_is_int (x : Int) : Res Bool :=
Res.ok (true && (!false))
theorem ss__law_is_int (x : Int) : FS false (φ__law_is_int [.fz (enc x)]) (p__law_is_int x) (fun t => .fz (enc t)) (fun t => [.fz (enc x)]) := by
  refine fs_mk0 [.fz (enc x)] rfl (by repeat (first | exact trivial | refine ⟨rfl, ?_⟩)) fun e0 h0 => ?_
  unfold p__law_is_int
  unfold d__law_is_int
  refine c_ret ?_
  refine c_pure h0 (p_andV (p_isi (p_fz rfl) (p_c) .f rfl kb_ii) (p_notV (p_isi (p_fz rfl) (p_c) .f rfl kb_ib))) fun r1 k2 => ?_
  refine f_ret ?_
  exact f_rt h0 k2 .f (.f .nil)
def p__law_are_values (xs : List Int) (primeH : Int) : Res Bool :=
if (!true) = true then
Res.ok false
else
forR (fun (x : Int) _ =>
(p__law_is_int x).bind fun t16 =>
if ((!t16) || (!(decide (0 ≤ x) && decide (x < primeH)))) = true then
Res.ok (Lp.out false)
else
Res.ok (Lp.go ())) xs () fun _ =>
Res.ok true
theorem ss__law_are_values (xs : List Int) (primeH : Int) : FS false (φ__law_are_values [.fz (enc xs), .fz (enc primeH)]) (p__law_are_values xs primeH) (fun t => .fz (enc t)) (fun t => [.fz (enc xs), .fz (enc primeH)]) := by
  refine fs_mk0 [.fz (enc xs), .fz (enc primeH), .clr] rfl (by repeat (first | exact trivial | refine ⟨rfl, ?_⟩)) fun e0 h0 => ?_
  unfold p__law_are_values
  unfold d__law_are_values
  refine c_seq ?_
  refine c_if ?_
  refine c_pureB h0 (b_not (b_truB (p_isi (p_fz rfl) (p_c) .f rfl kb_ll))) ?_
  refine f_if (fun _ => ?_) (fun _ => ?_)
  · refine c_ret ?_
    refine c_pure h0 (p_c) fun r1 k2 => ?_
    refine f_ret ?_
    exact f_rt h0 k2 .f (.f (.f .nil))
  · refine c_next ?_
    refine c_nx ?_
    refine c_seq ?_
    refine c_for ?_
    refine c_it ?_
    refine c_pure h0 (p_fz rfl) fun r3 k4 => ?_
    refine f_it (xs := xs) h0 k4 .f fun _ h5 => ?_
    refine f_for (fun (s : Unit) => [.fz (enc xs), .fz (enc primeH), .cf]) (fun _ _ => tg_n) ?_ ?_ h5
    · rintro x _ _ h13
      try dsimp only [List.set_cons_zero, List.set_cons_succ] at h13 ⊢
      refine c_if ?_
      refine c_or ?_
      refine c_not ?_
      refine c_tru ?_
      refine c_callB ?_
      refine c_pureA h13 (pa_cons' (p_fz rfl) pa_nil') fun r14 k15 => ?_
      refine f_callB h13 k15 (.cons .f .nil) rfl (ss__law_is_int x) imm_B fun t16 r17 k18 => ?_
      refine f_truB h13 k18 ?_
      refine f_not ?_
      refine f_orP h13 (b_not (b_t (p_chain (p_c) (p_fz rfl) (p_fz rfl)))) ?_
      refine f_if (fun _ => ?_) (fun _ => ?_)
      · refine c_ret ?_
        refine c_pure h13 (p_c) fun r19 k20 => ?_
        refine f_ret ?_
        refine f_out ?_
        exact f_rt h13 k20 .f (.f (.f .nil))
      · refine c_next ?_
        exact f_go h13
    rintro _ _ h21
    try dsimp only [List.set_cons_zero, List.set_cons_succ] at h21 ⊢
    refine c_nx ?_
    refine c_ret ?_
    refine c_pure h21 (p_c) fun r22 k23 => ?_
    refine f_ret ?_
    exact f_rt h21 k23 .f (.f (.f .nil))
def p__law_right (primeH : Int) (value : Int) (coins : List Int) (pieces : List Int) : Res Bool :=
(p__law_are_values pieces primeH).bind fun t3 =>
if ((!t3) || (decide ((pieces.length : Int) ≠ ((coins.length : Int) + 1)))) = true then
Res.ok false
else
(rng1R ((coins.length : Int))).bind fun xs10 =>
forR (fun k' _ =>
(geti pieces k').bind fun t31 =>
(geti coins k').bind fun t36 =>
(modR t36 primeH).bind fun t39 =>
if (decide (t31 ≠ t39)) = true then
Res.ok (Lp.out false)
else
Res.ok (Lp.go ())) xs10 () fun _ =>
(modR ((pieces.sum - value)) primeH).bind fun t47 =>
Res.ok (decide (t47 = 0))
theorem ss__law_right (primeH : Int) (value : Int) (coins : List Int) (pieces : List Int) : FS false (φ__law_right [.fz (enc primeH), .fz (enc value), .fz (enc coins), .fz (enc pieces)]) (p__law_right primeH value coins pieces) (fun t => .fz (enc t)) (fun t => [.fz (enc primeH), .fz (enc value), .fz (enc coins), .fz (enc pieces)]) := by
  refine fs_mk0 [.fz (enc primeH), .fz (enc value), .fz (enc coins), .fz (enc pieces), .clr] rfl (by repeat (first | exact trivial | refine ⟨rfl, ?_⟩)) fun e0 h0 => ?_
  unfold p__law_right
  unfold d__law_right
  refine c_seq ?_
  refine c_if ?_
  refine c_or ?_
  refine c_not ?_
  refine c_tru ?_
  refine c_callB ?_
  refine c_pureA h0 (pa_cons' (p_fz rfl) (pa_cons' (p_fz rfl) pa_nil')) fun r1 k2 => ?_
  refine f_callB h0 k2 (.cons .f (.cons .f .nil)) rfl (ss__law_are_values pieces primeH) imm_B fun t3 r4 k5 => ?_
  refine f_truB h0 k5 ?_
  refine f_not ?_
  refine f_orP h0 (b_t (p_ne (x := (pieces.length : Int)) (y := ((coins.length : Int) + 1)) (p_len (p_fz rfl)) (p_int (p_len (p_fz rfl)) (p_c)))) ?_
  refine f_if (fun _ => ?_) (fun _ => ?_)
  · refine c_ret ?_
    refine c_pure h0 (p_c) fun r6 k7 => ?_
    refine f_ret ?_
    exact f_rt h0 k7 .f (.f (.f (.f (.f .nil))))
  · refine c_next ?_
    refine c_nx ?_
    refine c_seq ?_
    refine c_for ?_
    refine c_rng1 ?_
    refine c_pureA h0 (pa_cons' (p_len (p_fz rfl)) pa_nil') fun r8 k9 => ?_
    refine f_rng1' h0 k9 fun xs10 => ?_
    refine f_for (fun (s : Unit) => [.fz (enc primeH), .fz (enc value), .fz (enc coins), .fz (enc pieces), .cf]) (fun _ _ => tg_n) ?_ ?_ h0
    · rintro k' _ _ h26
      try dsimp only [List.set_cons_zero, List.set_cons_succ] at h26 ⊢
      refine c_if ?_
      refine c_t ?_
      refine c_op ?_
      refine c_ix ?_
      refine c_pure h26 (p_fz rfl) fun r27 k28 => ?_
      refine c_ix2 ?_
      refine c_pure h26 (p_fz rfl) fun r29 k30 => ?_
      refine f_ix (xs := pieces) h26 k28 k30 fun t31 => ?_
      refine c_op2 ?_
      refine c_op ?_
      refine c_cb ?_
      refine c_cons ?_
      refine c_ix ?_
      refine c_pure h26 (p_fz rfl) fun r32 k33 => ?_
      refine c_ix2 ?_
      refine c_pure h26 (p_fz rfl) fun r34 k35 => ?_
      refine f_ix (xs := coins) h26 k33 k35 fun t36 => ?_
      refine c_cons2 ?_
      refine c_nil ?_
      refine f_cons ?_
      refine f_toInt h26 rk_f ?_
      refine c_op2 ?_
      refine c_pure h26 (p_fz rfl) fun r37 k38 => ?_
      refine f_mod h26 rk_f k38 (kk := fun t39 => ?_)
      refine f_ne (u := t31) (v := t39) h26 rk_f rk_f ?_
      refine f_t h26 rk_f ?_
      refine f_if (fun _ => ?_) (fun _ => ?_)
      · refine c_ret ?_
        refine c_pure h26 (p_c) fun r40 k41 => ?_
        refine f_ret ?_
        refine f_out ?_
        exact f_rt h26 k41 .f (.f (.f (.f (.f .nil))))
      · refine c_next ?_
        exact f_go h26
    rintro _ _ h42
    try dsimp only [List.set_cons_zero, List.set_cons_succ] at h42 ⊢
    refine c_nx ?_
    refine c_ret ?_
    refine c_op ?_
    refine c_op ?_
    refine c_pure h42 (p_toInt (p_int (p_sum (p_fz rfl)) (p_fz rfl))) fun r43 k44 => ?_
    refine c_op2 ?_
    refine c_pure h42 (p_fz rfl) fun r45 k46 => ?_
    refine f_mod h42 k44 k46 (kk := fun t47 => ?_)
    refine c_op2 ?_
    refine c_pure h42 (p_c) fun r48 k49 => ?_
    refine f_eq (u := t47) (v := 0) h42 rk_f k49 ?_
    refine f_ret ?_
    exact f_rt h42 rk_f .f (.f (.f (.f (.f .nil))))
def r_law_17 : M Fl := d_law_17
def p_law_17 (script : List Int) : Res Bool :=
Res.ok true
theorem ss_law_17 (script : List Int) (e0 : VF.Env) (h0 : Has (pinIx 0 [false]) [.fz (.scr script), .any, .cf, .cf, .cf, .cf, .any, .cf, .cf, .cf, .cf, .any, .cf, .any, .cf, .cf, .cf, .cf, .cf] e0) : Sm ((r_law_17 e0).bind okK) (p_law_17 script) (GF [false] [.fz (.scr script)] (fun t => .fz (enc t)) (fun t => [.fz (.scr script)])) (fun _ _ => False) := by
  unfold p_law_17
  unfold r_law_17
  refine c_ret ?_
  refine c_pure h0 (p_c) fun r1 k2 => ?_
  refine f_ret ?_
  exact f_rt h0 k2 .f (.f .nil)
def r_law_13 : M Fl := (dSeq d_law_13 (dSeq d_law_14 (dSeq d_law_15 (dSeq d_law_16 r_law_17))))
def p_law_13 (script : List Int) (primeH : Int) (votes : List Int) (table : List (List Int)) (mixer : Int) (differences : List Int) : Res Bool :=
(mapC (fun (row : List Int) =>
(mapC (fun (share : Int) =>
Res.ok share) row).bind fun t11 =>
Res.ok t11) table).bind fun t15 =>
(Res.ok (t15 : List (List Int))).bind fun before =>
(p_changed_table primeH table mixer differences).bind fun t22 =>
(Res.ok (t22 : List (List Int))).bind fun other =>
if ((decide (table ≠ before)) || ((!true) || (decide ((other.length : Int) ≠ (votes.length : Int))))) = true then
Res.ok false
else
(rng1R ((votes.length : Int))).bind fun xs31 =>
forR (fun k' _ =>
(geti before k').bind fun t155 =>
(mapC (fun (share : Int) =>
Res.ok share) t155).bind fun t160 =>
(Res.ok (t160 : List Int)).bind fun due =>
(geti due mixer).bind fun t169 =>
(geti differences k').bind fun t174 =>
(modR ((t169 + t174)) primeH).bind fun t177 =>
(setR due mixer t177).bind fun due =>
(geti other k').bind fun t185 =>
(p__law_are_values t185 primeH).bind fun t188 =>
(if (!t188) = true then Res.ok true else
(geti other k').bind fun t202 =>
Res.ok (decide (t202 ≠ due))).bind fun t205 =>
if t205 = true then
Res.ok (Lp.out false)
else
Res.ok (Lp.go ())) xs31 () fun _ =>
p_law_17 script
theorem ss_law_13 (script : List Int) (primeH : Int) (votes : List Int) (table : List (List Int)) (mixer : Int) (differences : List Int) (e0 : VF.Env) (h0 : Has (pinIx 0 [false]) [.fz (.scr script), .any, .fz (enc primeH), .cf, .fz (enc votes), .cf, .any, .fz (enc table), .cf, .fz (enc mixer), .ol (encs differences), .cf, .cf, .cf, .cf, .cf, .cf, .cf, .cf] e0) : Sm ((r_law_13 e0).bind okK) (p_law_13 script primeH votes table mixer differences) (GF [false] [.fz (.scr script)] (fun t => .fz (enc t)) (fun t => [.fz (.scr script)])) (fun _ _ => False) := by
  unfold p_law_13
  unfold r_law_13
  refine c_seq ?_
  refine c_set ?_
  refine c_comp ?_
  refine c_it ?_
  refine c_pure h0 (p_fz rfl) fun r1 k2 => ?_
  refine f_it (xs := table) h0 k2 .f fun _ h3 => ?_
  refine f_mapC (ψ := List Int) h3 (fun _ => tg_n) ?_ fun t15 r16 _ k17 h18 => ?_
  · rintro row _ h4
    try dsimp only [List.set_cons_zero, List.set_cons_succ, wipeS] at h4 ⊢
    refine c_comp ?_
    refine c_it ?_
    refine c_pure h4 (p_fz rfl) fun r5 k6 => ?_
    refine f_it (xs := row) h4 k6 .f fun _ h7 => ?_
    refine f_mapC (ψ := Int) h7 (fun _ => tg_n) ?_ fun t11 r12 _ k13 h14 => ?_
    · rintro share _ h8
      try dsimp only [List.set_cons_zero, List.set_cons_succ, wipeS] at h8 ⊢
      refine c_pure h8 (p_fz rfl) fun r9 k10 => ?_
      exact f_el (v := share) h8 k10
    exact f_el (v := t11) h14 k13
  refine f_setL (v := (t15 : List (List Int))) (fun v => .ol (encs v)) h18 k17 .w (by decide) fun before _ h19 => ?_
  try dsimp only [List.set_cons_zero, List.set_cons_succ] at h19
  refine c_nx ?_
  refine c_seq ?_
  refine c_set ?_
  refine c_call ?_
  refine c_pureA h19 (pa_cons' (p_fz rfl) (pa_cons' (p_fz rfl) (pa_cons' (p_fz rfl) (pa_cons' (p_ol rfl) pa_nil')))) fun r20 k21 => ?_
  refine f_call h19 k21 (.f .f (.f .f (.f .f (.f (.v rfl) .nil)))) (ss_changed_table primeH table mixer differences) (fun _ => (.f (.f (.f (.f .nil))))) (fun _ => rk_f) fun t22 r23 _ k24 h25 => ?_
  try dsimp only [List.set_cons_zero, List.set_cons_succ] at h25
  refine f_setL (v := (t22 : List (List Int))) (fun v => .fz (enc v)) h25 k24 .f (by decide) fun other _ h26 => ?_
  try dsimp only [List.set_cons_zero, List.set_cons_succ] at h26
  refine c_nx ?_
  refine c_seq ?_
  refine c_if ?_
  refine c_pureB h26 (b_or (b_t (p_ne (x := table) (y := before) (p_fz rfl) (p_ol rfl))) (b_or (b_not (b_truB (p_isi (p_fz rfl) (p_c) .f rfl kb_ll))) (b_t (p_ne (x := (other.length : Int)) (y := (votes.length : Int)) (p_len (p_fz rfl)) (p_len (p_fz rfl)))))) ?_
  refine f_if (fun _ => ?_) (fun _ => ?_)
  · refine c_ret ?_
    refine c_pure h26 (p_c) fun r27 k28 => ?_
    refine f_ret ?_
    exact f_rt h26 k28 .f (.f .nil)
  · refine c_next ?_
    refine c_nx ?_
    refine c_seq ?_
    refine c_for ?_
    refine c_rng1 ?_
    refine c_pureA h26 (pa_cons' (p_len (p_fz rfl)) pa_nil') fun r29 k30 => ?_
    refine f_rng1' h26 k30 fun xs31 => ?_
    refine f_for (fun (s : Unit) => [.fz (.scr script), .any, .fz (enc primeH), .cf, .fz (enc votes), .cf, .any, .fz (enc table), .cf, .fz (enc mixer), .fz (enc differences), .ol (encs before), .fz (enc other), .any, .cf, .cf, .cf, .cf, .cf]) (fun _ _ => tg_n) ?_ ?_ h26
    · rintro k' _ _ h150
      try dsimp only [List.set_cons_zero, List.set_cons_succ] at h150 ⊢
      refine c_seq ?_
      refine c_set ?_
      refine c_comp ?_
      refine c_it ?_
      refine c_ix ?_
      refine c_pure h150 (p_ol rfl) fun r151 k152 => ?_
      refine c_ix2 ?_
      refine c_pure h150 (p_fz rfl) fun r153 k154 => ?_
      refine f_ix (xs := before) h150 k152 k154 fun t155 => ?_
      refine f_it (xs := t155) h150 rk_f .f fun _ h156 => ?_
      refine f_mapC (ψ := Int) h156 (fun _ => tg_n) ?_ fun t160 r161 _ k162 h163 => ?_
      · rintro share _ h157
        try dsimp only [List.set_cons_zero, List.set_cons_succ, wipeS] at h157 ⊢
        refine c_pure h157 (p_fz rfl) fun r158 k159 => ?_
        exact f_el (v := share) h157 k159
      refine f_setL (v := (t160 : List Int)) (fun v => .ol (encs v)) h163 k162 .w (by decide) fun due _ h164 => ?_
      try dsimp only [List.set_cons_zero, List.set_cons_succ] at h164
      refine c_nx ?_
      refine c_seq ?_
      refine c_setIx ?_
      refine c_op ?_
      refine c_cb ?_
      refine c_cons ?_
      refine c_op ?_
      refine c_ix ?_
      refine c_pure h164 (p_ol rfl) fun r165 k166 => ?_
      refine c_ix2 ?_
      refine c_pure h164 (p_fz rfl) fun r167 k168 => ?_
      refine f_ix (xs := due) h164 k166 k168 fun t169 => ?_
      refine c_op2 ?_
      refine c_ix ?_
      refine c_pure h164 (p_fz rfl) fun r170 k171 => ?_
      refine c_ix2 ?_
      refine c_pure h164 (p_fz rfl) fun r172 k173 => ?_
      refine f_ix (xs := differences) h164 k171 k173 fun t174 => ?_
      refine f_int h164 rk_f rk_f (kk := ?_)
      refine c_cons2 ?_
      refine c_nil ?_
      refine f_cons ?_
      refine f_toInt h164 rk_f ?_
      refine c_op2 ?_
      refine c_pure h164 (p_fz rfl) fun r175 k176 => ?_
      refine f_mod h164 rk_f k176 (kk := fun t177 => ?_)
      refine c_setIx2 (ds := encs due) h164 rfl ?_
      refine c_pure h164 (p_fz rfl) fun r178 k179 => ?_
      refine f_setIx (xs := due) (v := t177) h164 rk_f k179 .f rfl fun due _ h180 => ?_
      try dsimp only [List.set_cons_zero, List.set_cons_succ] at h180
      refine c_nx ?_
      refine c_if ?_
      refine c_or ?_
      refine c_not ?_
      refine c_tru ?_
      refine c_callB ?_
      refine c_cons ?_
      refine c_ix ?_
      refine c_pure h180 (p_fz rfl) fun r181 k182 => ?_
      refine c_ix2 ?_
      refine c_pure h180 (p_fz rfl) fun r183 k184 => ?_
      refine f_ix (xs := other) h180 k182 k184 fun t185 => ?_
      refine c_cons2 ?_
      refine c_cons ?_
      refine c_pure h180 (p_fz rfl) fun r186 k187 => ?_
      refine c_cons2 ?_
      refine c_nil ?_
      refine f_cons ?_
      refine f_cons ?_
      refine f_callB h180 (rks rk_f (rks k187 rks0)) (.cons .f (.cons .f .nil)) rfl (ss__law_are_values t185 primeH) imm_B fun t188 r189 k190 => ?_
      refine f_truB h180 k190 ?_
      refine f_not ?_
      refine f_or h180 (fun _ => ?_) fun t205 _ h206 => ?_
      · refine c_t ?_
        refine c_op ?_
        refine c_ix ?_
        refine c_pure h180 (p_fz rfl) fun r198 k199 => ?_
        refine c_ix2 ?_
        refine c_pure h180 (p_fz rfl) fun r200 k201 => ?_
        refine f_ix (xs := other) h180 k199 k201 fun t202 => ?_
        refine c_op2 ?_
        refine c_pure h180 (p_ol rfl) fun r203 k204 => ?_
        refine f_ne (u := t202) (v := due) h180 rk_f k204 ?_
        refine f_t h180 rk_f ?_
        exact f_tb (h180.weak (by first | exact W.refl _ | (repeat (first | exact W.nil | refine W.rf ?_ | refine W.cz ?_ | refine W.cc ?_ | refine W.vz ?_ | refine W.vo ?_ | refine W.an ?_))))
      refine f_if (fun _ => ?_) (fun _ => ?_)
      · refine c_ret ?_
        refine c_pure h206 (p_c) fun r207 k208 => ?_
        refine f_ret ?_
        refine f_out ?_
        exact f_rt h206 k208 .f (.f .nil)
      · refine c_next ?_
        exact f_go h206
    rintro _ _ h210
    try dsimp only [List.set_cons_zero, List.set_cons_succ] at h210 ⊢
    refine c_nx ?_
    exact ss_law_17 script _ (h210.weak (by first | exact W.refl _ | (repeat (first | exact W.nil | refine W.rf ?_ | refine W.cz ?_ | refine W.cc ?_ | refine W.vz ?_ | refine W.vo ?_ | refine W.an ?_))))
def r_law_9 : M Fl := (dSeq d_law_9 (dSeq d_law_10 (dSeq d_law_11 (dSeq d_law_12 r_law_13))))
def p_law_9 (script : List Int) (box : Bx) (primeH : Int) (wide : Int) (votes : List Int) (table : List (List Int)) : Res Bool :=
(p_values_of primeH table).bind fun t3 =>
if (decide (t3 ≠ votes)) = true then
Res.ok false
else
(p__law_draw box ((wide + 1))).bind fun (t13, box) =>
(Res.ok (t13 : Int)).bind fun mixer =>
(p_column table mixer).bind fun t20 =>
(mapC (fun (row : List Int) =>
(geti row mixer).bind fun t32 =>
Res.ok t32) table).bind fun t33 =>
if (decide (t20 ≠ t33)) = true then
Res.ok false
else
(p__law_numbers box ((votes.length : Int))).bind fun (t41, box) =>
(Res.ok (t41 : List Int)).bind fun differences =>
p_law_13 script primeH votes table mixer differences
theorem ss_law_9 (script : List Int) (box : Bx) (primeH : Int) (wide : Int) (votes : List Int) (table : List (List Int)) (e0 : VF.Env) (h0 : Has (pinIx 0 [false]) [.fz (.scr script), .ol (boxD box), .fz (enc primeH), .fz (enc wide), .fz (enc votes), .cf, .any, .ol (encs table), .cf, .cf, .cf, .cf, .cf, .cf, .cf, .cf, .cf, .cf, .cf] e0) : Sm ((r_law_9 e0).bind okK) (p_law_9 script box primeH wide votes table) (GF [false] [.fz (.scr script)] (fun t => .fz (enc t)) (fun t => [.fz (.scr script)])) (fun _ _ => False) := by
  unfold p_law_9
  unfold r_law_9
  refine c_seq ?_
  refine c_if ?_
  refine c_t ?_
  refine c_op ?_
  refine c_call ?_
  refine c_pureA h0 (pa_cons' (p_fz rfl) (pa_cons' (p_ol rfl) pa_nil')) fun r1 k2 => ?_
  refine f_call h0 k2 (.f .f (.f (.v rfl) .nil)) (ss_values_of primeH table) (fun _ => (.f (.f .nil))) (fun _ => rk_w) fun t3 r4 _ k5 h6 => ?_
  try dsimp only [List.set_cons_zero, List.set_cons_succ] at h6
  refine c_op2 ?_
  refine c_pure h6 (p_fz rfl) fun r7 k8 => ?_
  refine f_ne (u := t3) (v := votes) h6 k5 k8 ?_
  refine f_t h6 rk_f ?_
  refine f_if (fun _ => ?_) (fun _ => ?_)
  · refine c_ret ?_
    refine c_pure h6 (p_c) fun r9 k10 => ?_
    refine f_ret ?_
    exact f_rt h6 k10 .f (.f .nil)
  · refine c_next ?_
    refine c_nx ?_
    refine c_seq ?_
    refine c_set ?_
    refine c_call ?_
    refine c_pureA h6 (pa_cons' (p_ol rfl) (pa_cons' (p_int (p_fz rfl) (p_c)) pa_nil')) fun r11 k12 => ?_
    refine f_call h6 k12 (.t rfl (.f .f .nil)) (ss__law_draw box ((wide + 1))) (fun _ => (.t rfl (.f .nil))) (fun _ => rk_f) ?_
    rintro ⟨t13, box⟩ r14 _ k15 h16
    try dsimp only [List.set_cons_zero, List.set_cons_succ] at h16 ⊢
    refine f_setL (v := (t13 : Int)) (fun v => .fz (enc v)) h16 k15 .f (by decide) fun mixer _ h17 => ?_
    try dsimp only [List.set_cons_zero, List.set_cons_succ] at h17
    refine c_nx ?_
    refine c_seq ?_
    refine c_if ?_
    refine c_t ?_
    refine c_op ?_
    refine c_call ?_
    refine c_pureA h17 (pa_cons' (p_fz rfl) (pa_cons' (p_fz rfl) pa_nil')) fun r18 k19 => ?_
    refine f_call h17 k19 (.f .f (.f .f .nil)) (ss_column table mixer) (fun _ => (.f (.f .nil))) (fun _ => rk_w) fun t20 r21 _ k22 h23 => ?_
    try dsimp only [List.set_cons_zero, List.set_cons_succ] at h23
    refine c_op2 ?_
    refine c_comp ?_
    refine c_it ?_
    refine c_pure h23 (p_fz rfl) fun r24 k25 => ?_
    refine f_it (xs := table) h23 k25 .f fun _ h26 => ?_
    refine f_mapC (ψ := Int) h26 (fun _ => tg_n) ?_ fun t33 r34 _ k35 h36 => ?_
    · rintro row _ h27
      try dsimp only [List.set_cons_zero, List.set_cons_succ, wipeS] at h27 ⊢
      refine c_ix ?_
      refine c_pure h27 (p_fz rfl) fun r28 k29 => ?_
      refine c_ix2 ?_
      refine c_pure h27 (p_fz rfl) fun r30 k31 => ?_
      refine f_ix (xs := row) h27 k29 k31 fun t32 => ?_
      exact f_el (v := t32) h27 rk_f
    refine f_ne (u := t20) (v := t33) h36 k22 k35 ?_
    refine f_t h36 rk_f ?_
    refine f_if (fun _ => ?_) (fun _ => ?_)
    · refine c_ret ?_
      refine c_pure h36 (p_c) fun r37 k38 => ?_
      refine f_ret ?_
      exact f_rt h36 k38 .f (.f .nil)
    · refine c_next ?_
      refine c_nx ?_
      refine c_seq ?_
      refine c_set ?_
      refine c_call ?_
      refine c_pureA h36 (pa_cons' (p_ol rfl) (pa_cons' (p_len (p_fz rfl)) pa_nil')) fun r39 k40 => ?_
      refine f_call h36 k40 (.t rfl (.f .f .nil)) (ss__law_numbers box ((votes.length : Int))) (fun _ => (.t rfl (.f .nil))) (fun _ => rk_w) ?_
      rintro ⟨t41, box⟩ r42 _ k43 h44
      try dsimp only [List.set_cons_zero, List.set_cons_succ] at h44 ⊢
      refine f_setL (v := (t41 : List Int)) (fun v => .ol (encs v)) h44 k43 .w (by decide) fun differences _ h45 => ?_
      try dsimp only [List.set_cons_zero, List.set_cons_succ] at h45
      refine c_nx ?_
      exact ss_law_13 script primeH votes table mixer differences _ (h45.weak (by first | exact W.refl _ | (repeat (first | exact W.nil | refine W.rf ?_ | refine W.cz ?_ | refine W.cc ?_ | refine W.vz ?_ | refine W.vo ?_ | refine W.an ?_))))
def r_law_8 : M Fl := (dSeq d_law_8 r_law_9)
def p_law_8 (script : List Int) (box : Bx) (primeH : Int) (wide : Int) (votes : List Int) (coins : List (List Int)) (table : List (List Int)) : Res Bool :=
(rng1R ((votes.length : Int))).bind fun xs3 =>
forR (fun k' _ =>
(geti votes k').bind fun t94 =>
(geti coins k').bind fun t99 =>
(geti table k').bind fun t104 =>
(p__law_right primeH t94 t99 t104).bind fun t105 =>
(if (!t105) = true then Res.ok true else
(geti table k').bind fun t133 =>
(geti votes k').bind fun t140 =>
(geti coins k').bind fun t145 =>
(p_split primeH t140 t145).bind fun t146 =>
Res.ok (decide (t133 ≠ t146))).bind fun t150 =>
if t150 = true then
Res.ok (Lp.out false)
else
(geti table k').bind fun t160 =>
(p_join primeH t160).bind fun t161 =>
(geti votes k').bind fun t168 =>
if (decide (t161 ≠ t168)) = true then
Res.ok (Lp.out false)
else
Res.ok (Lp.go ())) xs3 () fun _ =>
p_law_9 script box primeH wide votes table
theorem ss_law_8 (script : List Int) (box : Bx) (primeH : Int) (wide : Int) (votes : List Int) (coins : List (List Int)) (table : List (List Int)) (e0 : VF.Env) (h0 : Has (pinIx 0 [false]) [.fz (.scr script), .ol (boxD box), .fz (enc primeH), .fz (enc wide), .fz (enc votes), .fz (enc coins), .any, .ol (encs table), .cf, .cf, .cf, .cf, .cf, .cf, .cf, .cf, .cf, .cf, .cf] e0) : Sm ((r_law_8 e0).bind okK) (p_law_8 script box primeH wide votes coins table) (GF [false] [.fz (.scr script)] (fun t => .fz (enc t)) (fun t => [.fz (.scr script)])) (fun _ _ => False) := by
  unfold p_law_8
  unfold r_law_8
  refine c_seq ?_
  refine c_for ?_
  refine c_rng1 ?_
  refine c_pureA h0 (pa_cons' (p_len (p_fz rfl)) pa_nil') fun r1 k2 => ?_
  refine f_rng1' h0 k2 fun xs3 => ?_
  refine f_for (fun (s : Unit) => [.fz (.scr script), .ol (boxD box), .fz (enc primeH), .fz (enc wide), .fz (enc votes), .fz (enc coins), .any, .ol (encs table), .cf, .cf, .cf, .cf, .cf, .cf, .cf, .cf, .cf, .cf, .cf]) (fun _ _ => tg_n) ?_ ?_ h0
  · rintro k' _ _ h87
    try dsimp only [List.set_cons_zero, List.set_cons_succ] at h87 ⊢
    refine c_seq ?_
    refine c_if ?_
    refine c_or ?_
    refine c_not ?_
    refine c_tru ?_
    refine c_callB ?_
    refine c_cons ?_
    refine c_pure h87 (p_fz rfl) fun r88 k89 => ?_
    refine c_cons2 ?_
    refine c_cons ?_
    refine c_ix ?_
    refine c_pure h87 (p_fz rfl) fun r90 k91 => ?_
    refine c_ix2 ?_
    refine c_pure h87 (p_fz rfl) fun r92 k93 => ?_
    refine f_ix (xs := votes) h87 k91 k93 fun t94 => ?_
    refine c_cons2 ?_
    refine c_cons ?_
    refine c_ix ?_
    refine c_pure h87 (p_fz rfl) fun r95 k96 => ?_
    refine c_ix2 ?_
    refine c_pure h87 (p_fz rfl) fun r97 k98 => ?_
    refine f_ix (xs := coins) h87 k96 k98 fun t99 => ?_
    refine c_cons2 ?_
    refine c_cons ?_
    refine c_ix ?_
    refine c_pure h87 (p_ol rfl) fun r100 k101 => ?_
    refine c_ix2 ?_
    refine c_pure h87 (p_fz rfl) fun r102 k103 => ?_
    refine f_ix (xs := table) h87 k101 k103 fun t104 => ?_
    refine c_cons2 ?_
    refine c_nil ?_
    refine f_cons ?_
    refine f_cons ?_
    refine f_cons ?_
    refine f_cons ?_
    refine f_callB h87 (rks k89 (rks rk_f (rks rk_f (rks rk_f rks0)))) (.cons .f (.cons .f (.cons .f (.cons .f .nil)))) rfl (ss__law_right primeH t94 t99 t104) imm_B fun t105 r106 k107 => ?_
    refine f_truB h87 k107 ?_
    refine f_not ?_
    refine f_or h87 (fun _ => ?_) fun t150 _ h151 => ?_
    · refine c_t ?_
      refine c_op ?_
      refine c_ix ?_
      refine c_pure h87 (p_ol rfl) fun r129 k130 => ?_
      refine c_ix2 ?_
      refine c_pure h87 (p_fz rfl) fun r131 k132 => ?_
      refine f_ix (xs := table) h87 k130 k132 fun t133 => ?_
      refine c_op2 ?_
      refine c_call ?_
      refine c_cons ?_
      refine c_pure h87 (p_fz rfl) fun r134 k135 => ?_
      refine c_cons2 ?_
      refine c_cons ?_
      refine c_ix ?_
      refine c_pure h87 (p_fz rfl) fun r136 k137 => ?_
      refine c_ix2 ?_
      refine c_pure h87 (p_fz rfl) fun r138 k139 => ?_
      refine f_ix (xs := votes) h87 k137 k139 fun t140 => ?_
      refine c_cons2 ?_
      refine c_cons ?_
      refine c_ix ?_
      refine c_pure h87 (p_fz rfl) fun r141 k142 => ?_
      refine c_ix2 ?_
      refine c_pure h87 (p_fz rfl) fun r143 k144 => ?_
      refine f_ix (xs := coins) h87 k142 k144 fun t145 => ?_
      refine c_cons2 ?_
      refine c_nil ?_
      refine f_cons ?_
      refine f_cons ?_
      refine f_cons ?_
      refine f_call h87 (rks k135 (rks rk_f (rks rk_f rks0))) (.f .f (.f .f (.f .f .nil))) (ss_split primeH t140 t145) (fun _ => (.f (.f (.f .nil)))) (fun _ => rk_w) fun t146 r147 _ k148 h149 => ?_
      try dsimp only [List.set_cons_zero, List.set_cons_succ] at h149
      refine f_ne (u := t133) (v := t146) h149 rk_f k148 ?_
      refine f_t h149 rk_f ?_
      exact f_tb (h149.weak (by first | exact W.refl _ | (repeat (first | exact W.nil | refine W.rf ?_ | refine W.cz ?_ | refine W.cc ?_ | refine W.vz ?_ | refine W.vo ?_ | refine W.an ?_))))
    refine f_if (fun _ => ?_) (fun _ => ?_)
    · refine c_ret ?_
      refine c_pure h151 (p_c) fun r152 k153 => ?_
      refine f_ret ?_
      refine f_out ?_
      exact f_rt h151 k153 .f (.f .nil)
    · refine c_next ?_
      refine c_nx ?_
      refine c_if ?_
      refine c_t ?_
      refine c_op ?_
      refine c_callB ?_
      refine c_cons ?_
      refine c_pure h151 (p_fz rfl) fun r154 k155 => ?_
      refine c_cons2 ?_
      refine c_cons ?_
      refine c_ix ?_
      refine c_pure h151 (p_ol rfl) fun r156 k157 => ?_
      refine c_ix2 ?_
      refine c_pure h151 (p_fz rfl) fun r158 k159 => ?_
      refine f_ix (xs := table) h151 k157 k159 fun t160 => ?_
      refine c_cons2 ?_
      refine c_nil ?_
      refine f_cons ?_
      refine f_cons ?_
      refine f_callB h151 (rks k155 (rks rk_f rks0)) (.cons .f (.cons .f .nil)) rfl (ss_join primeH t160) imm_I fun t161 r162 k163 => ?_
      refine c_op2 ?_
      refine c_ix ?_
      refine c_pure h151 (p_fz rfl) fun r164 k165 => ?_
      refine c_ix2 ?_
      refine c_pure h151 (p_fz rfl) fun r166 k167 => ?_
      refine f_ix (xs := votes) h151 k165 k167 fun t168 => ?_
      refine f_ne (u := t161) (v := t168) h151 k163 rk_f ?_
      refine f_t h151 rk_f ?_
      refine f_if (fun _ => ?_) (fun _ => ?_)
      · refine c_ret ?_
        refine c_pure h151 (p_c) fun r169 k170 => ?_
        refine f_ret ?_
        refine f_out ?_
        exact f_rt h151 k170 .f (.f .nil)
      · refine c_next ?_
        exact f_go h151
  rintro _ _ h171
  try dsimp only [List.set_cons_zero, List.set_cons_succ] at h171 ⊢
  refine c_nx ?_
  exact ss_law_9 script box primeH wide votes table _ (h171.weak (by first | exact W.refl _ | (repeat (first | exact W.nil | refine W.rf ?_ | refine W.cz ?_ | refine W.cc ?_ | refine W.vz ?_ | refine W.vo ?_ | refine W.an ?_))))
def r_law_4 : M Fl := (dSeq d_law_4 (dSeq d_law_5 (dSeq d_law_6 (dSeq d_law_7 r_law_8))))
def p_law_4 (script : List Int) (box : Bx) (primeH : Int) (wide : Int) (votes : List Int) : Res Bool :=
(mapS (fun (vote : Int) box =>
(p__law_numbers box wide).bind fun (t7, box) =>
Res.ok (t7, box)) votes box).bind fun (t11, box) =>
(Res.ok (t11 : List (List Int))).bind fun coins =>
(mapC (fun (row : List Int) =>
(mapC (fun (coin : Int) =>
Res.ok coin) row).bind fun t26 =>
Res.ok t26) coins).bind fun t30 =>
(Res.ok (t30 : List (List Int))).bind fun kept =>
(p_fresh_table primeH votes coins).bind fun t37 =>
(Res.ok (t37 : List (List Int))).bind fun table =>
if ((!true) || ((decide ((table.length : Int) ≠ (votes.length : Int))) || (decide (coins ≠ kept)))) = true then
Res.ok false
else
p_law_8 script box primeH wide votes coins table
theorem ss_law_4 (script : List Int) (box : Bx) (primeH : Int) (wide : Int) (votes : List Int) (e0 : VF.Env) (h0 : Has (pinIx 0 [false]) [.fz (.scr script), .ol (boxD box), .fz (enc primeH), .fz (enc wide), .ol (encs votes), .cf, .cf, .cf, .cf, .cf, .cf, .cf, .cf, .cf, .cf, .cf, .cf, .cf, .cf] e0) : Sm ((r_law_4 e0).bind okK) (p_law_4 script box primeH wide votes) (GF [false] [.fz (.scr script)] (fun t => .fz (enc t)) (fun t => [.fz (.scr script)])) (fun _ _ => False) := by
  unfold p_law_4
  unfold r_law_4
  refine c_seq ?_
  refine c_set ?_
  refine c_comp ?_
  refine c_it ?_
  refine c_pure h0 (p_ol rfl) fun r1 k2 => ?_
  refine f_it (xs := votes) h0 k2 (.v rfl) fun _ h3 => ?_
  refine f_mapS (ψ := List Int) (fun (s : Bx) => [.fz (.scr script), .ol (boxD s), .fz (enc primeH), .fz (enc wide), .fz (enc votes), .cf, .cf, .cf, .cf, .cf, .cf, .cf, .cf, .cf, .cf, .clr, .cf, .cf, .cf]) h3 (by first | exact W.refl _ | (repeat (first | exact W.nil | refine W.rf ?_ | refine W.cz ?_ | refine W.cc ?_ | refine W.vz ?_ | refine W.vo ?_ | refine W.an ?_))) (fun _ _ => tg_n) ?_ (fun (s : Bx) => [.fz (.scr script), .ol (boxD s), .fz (enc primeH), .fz (enc wide), .fz (enc votes), .cf, .cf, .cf, .cf, .cf, .cf, .cf, .cf, .cf, .cf, .cf, .cf, .cf, .cf]) ?_
  · rintro vote box _ h4
    try dsimp only [List.set_cons_zero, List.set_cons_succ] at h4 ⊢
    refine c_call ?_
    refine c_pureA h4 (pa_cons' (p_ol rfl) (pa_cons' (p_fz rfl) pa_nil')) fun r5 k6 => ?_
    refine f_call h4 k6 (.t rfl (.f .f .nil)) (ss__law_numbers box wide) (fun _ => (.t rfl (.f .nil))) (fun _ => rk_w) ?_
    rintro ⟨t7, box⟩ r8 _ k9 h10
    try dsimp only [List.set_cons_zero, List.set_cons_succ] at h10 ⊢
    exact f_elS (v := t7) h10 k9
  rintro t11 box r12 _ k13 h14
  try dsimp only [List.set_cons_zero, List.set_cons_succ] at h14 ⊢
  refine f_setL (v := (t11 : List (List Int))) (fun v => .ol (encs v)) h14 k13 .w (by decide) fun coins _ h15 => ?_
  try dsimp only [List.set_cons_zero, List.set_cons_succ] at h15
  refine c_nx ?_
  refine c_seq ?_
  refine c_set ?_
  refine c_comp ?_
  refine c_it ?_
  refine c_pure h15 (p_ol rfl) fun r16 k17 => ?_
  refine f_it (xs := coins) h15 k17 (.v rfl) fun _ h18 => ?_
  refine f_mapC (ψ := List Int) h18 (fun _ => tg_n) ?_ fun t30 r31 _ k32 h33 => ?_
  · rintro row _ h19
    try dsimp only [List.set_cons_zero, List.set_cons_succ, wipeS] at h19 ⊢
    refine c_comp ?_
    refine c_it ?_
    refine c_pure h19 (p_fz rfl) fun r20 k21 => ?_
    refine f_it (xs := row) h19 k21 .f fun _ h22 => ?_
    refine f_mapC (ψ := Int) h22 (fun _ => tg_n) ?_ fun t26 r27 _ k28 h29 => ?_
    · rintro coin _ h23
      try dsimp only [List.set_cons_zero, List.set_cons_succ, wipeS] at h23 ⊢
      refine c_pure h23 (p_fz rfl) fun r24 k25 => ?_
      exact f_el (v := coin) h23 k25
    exact f_el (v := t26) h29 k28
  refine f_setL (v := (t30 : List (List Int))) (fun v => .ol (encs v)) h33 k32 .w (by decide) fun kept _ h34 => ?_
  try dsimp only [List.set_cons_zero, List.set_cons_succ] at h34
  refine c_nx ?_
  refine c_seq ?_
  refine c_set ?_
  refine c_call ?_
  refine c_pureA h34 (pa_cons' (p_fz rfl) (pa_cons' (p_fz rfl) (pa_cons' (p_fz rfl) pa_nil'))) fun r35 k36 => ?_
  refine f_call h34 k36 (.f .f (.f .f (.f .f .nil))) (ss_fresh_table primeH votes coins) (fun _ => (.f (.f (.f .nil)))) (fun _ => rk_w) fun t37 r38 _ k39 h40 => ?_
  try dsimp only [List.set_cons_zero, List.set_cons_succ] at h40
  refine f_setL (v := (t37 : List (List Int))) (fun v => .ol (encs v)) h40 k39 .w (by decide) fun table _ h41 => ?_
  try dsimp only [List.set_cons_zero, List.set_cons_succ] at h41
  refine c_nx ?_
  refine c_seq ?_
  refine c_if ?_
  refine c_pureB h41 (b_or (b_not (b_truB (p_isi (p_ol rfl) (p_c) (.v rfl) rfl kb_ll))) (b_or (b_t (p_ne (x := (table.length : Int)) (y := (votes.length : Int)) (p_len (p_ol rfl)) (p_len (p_fz rfl)))) (b_t (p_ne (x := coins) (y := kept) (p_fz rfl) (p_ol rfl))))) ?_
  refine f_if (fun _ => ?_) (fun _ => ?_)
  · refine c_ret ?_
    refine c_pure h41 (p_c) fun r42 k43 => ?_
    refine f_ret ?_
    exact f_rt h41 k43 .f (.f .nil)
  · refine c_next ?_
    refine c_nx ?_
    exact ss_law_8 script box primeH wide votes coins table _ (h41.weak (by first | exact W.refl _ | (repeat (first | exact W.nil | refine W.rf ?_ | refine W.cz ?_ | refine W.cc ?_ | refine W.vz ?_ | refine W.vo ?_ | refine W.an ?_))))
noncomputable def p_law (script : List Int) : Res Bool :=
(p__law_digits script 0 63).bind fun t3 =>
(Res.ok ((Bx.mk t3 0) : Bx)).bind fun box =>
(p__law_prime box).bind fun (t15, box) =>
(Res.ok (t15 : Int)).bind fun primeH =>
(p__law_draw box 6).bind fun (t22, box) =>
(Res.ok (t22 : Int)).bind fun wide =>
(p__law_draw box 7).bind fun (t31, box) =>
(p__law_numbers box t31).bind fun (t35, box) =>
(mapC (fun (number : Int) =>
(modR number primeH).bind fun t45 =>
Res.ok t45) t35).bind fun t46 =>
(Res.ok (t46 : List Int)).bind fun votes =>
p_law_4 script box primeH wide votes
theorem ss_law (script : List Int) : FS false (φ_law [.fz (.scr script)]) (p_law script) (fun t => .fz (enc t)) (fun t => [.fz (.scr script)]) := by
  refine fs_mk0 [.fz (.scr script), .clr, .clr, .clr, .clr, .clr, .clr, .clr, .clr, .clr, .clr, .clr, .clr, .clr, .clr, .clr, .clr, .clr, .clr] rfl (by repeat (first | exact trivial | refine ⟨rfl, ?_⟩)) fun e0 h0 => ?_
  unfold p_law
  unfold d_law
  refine c_seq ?_
  refine c_set ?_
  refine c_lst ?_
  refine c_cons ?_
  refine c_call ?_
  refine c_pureA h0 (pa_cons' (p_fz rfl) (pa_cons' (p_c) (pa_cons' (p_c) pa_nil'))) fun r1 k2 => ?_
  refine f_call h0 k2 (.f .f (.f .f (.f .f .nil))) (ss__law_digits script 0 63) (fun _ => (.f (.f (.f .nil)))) (fun _ => rk_w) fun t3 r4 _ k5 h6 => ?_
  try dsimp only [List.set_cons_zero, List.set_cons_succ] at h6
  refine c_cons2 ?_
  refine c_cons ?_
  refine c_pure h6 (p_c) fun r7 k8 => ?_
  refine c_cons2 ?_
  refine c_nil ?_
  refine f_cons ?_
  refine f_cons ?_
  refine f_lst h6 (rks k5 (rks k8 rks0)) (.cons .w (.cons .f .nil)) (Nat.le_of_ble_eq_true rfl) fun r9 _ k10 h11 => ?_
  refine f_setL (v := ((Bx.mk t3 0) : Bx)) (fun v => .ol (boxD v)) h11 k10 .w (by decide) fun box _ h12 => ?_
  try dsimp only [List.set_cons_zero, List.set_cons_succ] at h12
  refine c_nx ?_
  refine c_seq ?_
  refine c_set ?_
  refine c_call ?_
  refine c_pureA h12 (pa_cons' (p_ol rfl) pa_nil') fun r13 k14 => ?_
  refine f_call h12 k14 (.t rfl .nil) (ss__law_prime box) (fun _ => (.t rfl .nil)) (fun _ => rk_f) ?_
  rintro ⟨t15, box⟩ r16 _ k17 h18
  try dsimp only [List.set_cons_zero, List.set_cons_succ] at h18 ⊢
  refine f_setL (v := (t15 : Int)) (fun v => .fz (enc v)) h18 k17 .f (by decide) fun primeH _ h19 => ?_
  try dsimp only [List.set_cons_zero, List.set_cons_succ] at h19
  refine c_nx ?_
  refine c_seq ?_
  refine c_set ?_
  refine c_call ?_
  refine c_pureA h19 (pa_cons' (p_ol rfl) (pa_cons' (p_c) pa_nil')) fun r20 k21 => ?_
  refine f_call h19 k21 (.t rfl (.f .f .nil)) (ss__law_draw box 6) (fun _ => (.t rfl (.f .nil))) (fun _ => rk_f) ?_
  rintro ⟨t22, box⟩ r23 _ k24 h25
  try dsimp only [List.set_cons_zero, List.set_cons_succ] at h25 ⊢
  refine f_setL (v := (t22 : Int)) (fun v => .fz (enc v)) h25 k24 .f (by decide) fun wide _ h26 => ?_
  try dsimp only [List.set_cons_zero, List.set_cons_succ] at h26
  refine c_nx ?_
  refine c_seq ?_
  refine c_set ?_
  refine c_comp ?_
  refine c_it ?_
  refine c_call ?_
  refine c_cons ?_
  refine c_pure h26 (p_ol rfl) fun r27 k28 => ?_
  refine c_cons2 ?_
  refine c_cons ?_
  refine c_call ?_
  refine c_pureA h26 (pa_cons' (p_ol rfl) (pa_cons' (p_c) pa_nil')) fun r29 k30 => ?_
  refine f_call h26 k30 (.t rfl (.f .f .nil)) (ss__law_draw box 7) (fun _ => (.t rfl (.f .nil))) (fun _ => rk_f) ?_
  rintro ⟨t31, box⟩ r32 _ k33 h34
  try dsimp only [List.set_cons_zero, List.set_cons_succ] at h34 ⊢
  refine c_cons2 ?_
  refine c_nil ?_
  refine f_cons ?_
  refine f_cons ?_
  refine f_call h34 (rks k28 (rks k33 rks0)) (.t rfl (.f .f .nil)) (ss__law_numbers box t31) (fun _ => (.t rfl (.f .nil))) (fun _ => rk_w) ?_
  rintro ⟨t35, box⟩ r36 _ k37 h38
  try dsimp only [List.set_cons_zero, List.set_cons_succ] at h38 ⊢
  refine f_it (xs := t35) h38 k37 .w fun _ h39 => ?_
  refine f_mapC (ψ := Int) h39 (fun _ => tg_n) ?_ fun t46 r47 _ k48 h49 => ?_
  · rintro number _ h40
    try dsimp only [List.set_cons_zero, List.set_cons_succ, wipeS] at h40 ⊢
    refine c_op ?_
    refine c_pure h40 (p_toInt (p_fz rfl)) fun r41 k42 => ?_
    refine c_op2 ?_
    refine c_pure h40 (p_fz rfl) fun r43 k44 => ?_
    refine f_mod h40 k42 k44 (kk := fun t45 => ?_)
    exact f_el (v := t45) h40 rk_f
  refine f_setL (v := (t46 : List Int)) (fun v => .ol (encs v)) h49 k48 .w (by decide) fun votes _ h50 => ?_
  try dsimp only [List.set_cons_zero, List.set_cons_succ] at h50
  refine c_nx ?_
  exact ss_law_4 script box primeH wide votes _ (h50.weak (by first | exact W.refl _ | (repeat (first | exact W.nil | refine W.rf ?_ | refine W.cz ?_ | refine W.cc ?_ | refine W.vz ?_ | refine W.vo ?_ | refine W.an ?_))))
theorem join_ok {p : Int} (hp : 0 < p) (ns : List Int) : p_join p ns = .ok (ns.sum % p) := by
  unfold p_join
  rw [total_ok hp, Res.bind_ok]
theorem values_ok {p : Int} (hp : 0 < p) {t : List (List Int)} (hl : t.length ≤ 100000) : p_values_of p t = .ok (t.map fun r => r.sum % p) := by
  unfold p_values_of
  rw [mapC_ok (g := fun r => r.sum % p) (by omega) fun r _ => by rw [join_ok hp, Res.bind_ok], Res.bind_ok]
theorem are_ok {p : Int} {xs : List Int} (h : ∀ x ∈ xs, 0 ≤ x ∧ x < p) : p__law_are_values xs p = .ok true := by
  refine Hd.true ?_
  unfold p__law_are_values
  rw [if_neg (by simp)]
  refine forR_go (fun _ _ => True) trivial (fun i hi s _ => ?_) (fun s _ => Hd.ok rfl)
  have := h xs[i] (List.getElem_mem hi)
  unfold p__law_is_int
  rw [Res.bind_ok, if_neg (by simp [this.1, this.2])]
  exact Hd.ok ⟨(), rfl, trivial⟩
theorem split_at (p v : Int) (cs : List Int) {k : Nat} (h : k < cs.length) : (splitL p v cs).getD k 0 = cs.getD k 0 % p := by
  unfold splitL
  rw [List.getD_eq_getElem?_getD, List.getElem?_append_left (by rw [List.length_map]; exact h), List.getElem?_map, List.getD_eq_getElem?_getD, List.getElem?_eq_getElem h]
  rfl
theorem right_ok {p : Int} (hp : 0 < p) (v : Int) {cs : List Int} (hl : cs.length ≤ 100000) : p__law_right p v cs (splitL p v cs) = .ok true := by
  refine Hd.true ?_
  unfold p__law_right
  rw [are_ok (splitL_in hp v cs), Res.bind_ok, if_neg (by rw [splitL_len]; simp), rng1_nat (by omega), Res.bind_ok]
  refine forR_go (fun _ _ => True) trivial (fun i hi s _ => ?_) (fun s _ => ?_)
  · rw [List.length_map, List.length_range] at hi
    rw [List.getElem_map, List.getElem_range, geti_D 0 (by rw [splitL_len]; omega), Res.bind_ok, geti_D 0 hi, Res.bind_ok, modR_ok hp, Res.bind_ok, if_neg (by rw [split_at p v cs hi]; simp)]
    exact Hd.ok ⟨(), rfl, trivial⟩
  · rw [modR_ok hp, Res.bind_ok]
    refine Hd.ok ?_
    have := splitL_sum p v cs
    rw [decide_eq_true_iff, Int.sub_emod, this, Int.emod_emod_of_dvd _ (Int.dvd_refl p) |>.symm]
    simp
def tabF (p : Int) (vs : List Int) (cs : List (List Int)) : List (List Int) := (vs.zip cs).map fun x => splitL p x.1 x.2
theorem tabF_len {p : Int} {vs : List Int} {cs : List (List Int)} (h : vs.length = cs.length) : (tabF p vs cs).length = vs.length := by
  unfold tabF; simp [h]
theorem tabF_at {p : Int} {vs : List Int} {cs : List (List Int)} (h : vs.length = cs.length) {k : Nat} (hk : k < vs.length) : (tabF p vs cs).getD k [] = splitL p (vs.getD k 0) (cs.getD k []) := by
  have hk2 : k < cs.length := by omega
  unfold tabF
  rw [getD_lt [] (by simp; omega), List.getElem_map, List.getElem_zip, getD_lt 0 hk, getD_lt [] hk2]
theorem fresh_ok {p : Int} (hp : 0 < p) {vs : List Int} {cs : List (List Int)} (hl : vs.length ≤ 100000) (hc : ∀ r ∈ cs, r.length ≤ 100000) : p_fresh_table p vs cs = .ok (tabF p vs cs) := by
  unfold p_fresh_table
  rw [mapC_ok (g := fun x => splitL p x.1 x.2) (by simp; omega) fun x hx => ?_, Res.bind_ok]
  · rfl
  · obtain ⟨v, r⟩ := x
    dsimp only
    rw [split_ok hp v (hc r (List.of_mem_zip hx).2), Res.bind_ok]
theorem zipR_ok {α β : Type} {f : List α → β → Res (List α)} {g : List α → β → List α} : ∀ {rs : List (List α)} {ds : List β}, rs.length = ds.length → (∀ r d, r ∈ rs → f r d = .ok (g r d)) → zipR f rs ds = .ok (List.zipWith g rs ds)
  | [], [], _, _ => rfl
  | r :: rs, d :: ds, h, k => by
    unfold zipR
    rw [k r d List.mem_cons_self, Res.bind_ok, zipR_ok (by simpa using h) fun r d hr => k r d (List.mem_cons_of_mem _ hr), Res.bind_ok]
    rfl
  | [], _ :: _, h, _ => by simp at h
  | _ :: _, [], h, _ => by simp at h
def chg (p : Int) (m : Nat) (r : List Int) (d : Int) : List Int := r.set m ((r.getD m 0 + d) % p)
theorem changed_ok {p : Int} (hp : 0 < p) {t : List (List Int)} {m : Nat} {ds : List Int} (hl : t.length ≤ 100000) (hd : t.length = ds.length) (hm : ∀ r ∈ t, m < r.length) : p_changed_table p t (m : Int) ds = .ok (List.zipWith (chg p m) t ds) := by
  unfold p_changed_table
  rw [mapC_ok (g := fun r => r) (by omega) fun r _ => rfl, Res.bind_ok, List.map_id', zipR_ok (g := chg p m) hd fun r d hr => ?_, Res.bind_ok]
  rw [geti_D 0 (hm r hr), Res.bind_ok, modR_ok hp, Res.bind_ok, setR_nat (hm r hr), Res.bind_ok]
  rfl
theorem column_ok {t : List (List Int)} {m : Nat} (hl : t.length ≤ 100000) (hm : ∀ r ∈ t, m < r.length) : p_column t (m : Int) = .ok (t.map fun r => r.getD m 0) := by
  unfold p_column
  rw [mapC_ok (g := fun r => r.getD m 0) (by omega) fun r hr => by rw [geti_D 0 (hm r hr), Res.bind_ok], Res.bind_ok]
theorem copy_ok {xs : List Int} (h : xs.length ≤ 100000) : (mapC (fun (x : Int) => Res.ok x) xs) = .ok xs := by
  rw [mapC_ok (g := fun x => x) (by omega) fun _ _ => rfl, List.map_id']
theorem t13 {p : Int} (hp : 0 < p) {script vs : List Int} {t : List (List Int)} {m : Nat} {ds : List Int} (hv : t.length = vs.length) (hl : t.length ≤ 100000) (hd : t.length = ds.length) (hm : ∀ r ∈ t, m < r.length) (hr : ∀ r ∈ t, r.length ≤ 100000) (hi : ∀ r ∈ t, ∀ x ∈ r, 0 ≤ x ∧ x < p) :
    Hd (p_law_13 script p vs t (m : Int) ds) (· = true) := by
  unfold p_law_13
  rw [mapC_ok (g := fun r => r) (by omega) fun r h => by rw [copy_ok (hr r h), Res.bind_ok], List.map_id', Res.bind_ok, Res.bind_ok, changed_ok hp hl hd hm, Res.bind_ok, Res.bind_ok]
  have zl : (List.zipWith (chg p m) t ds).length = vs.length := by rw [List.length_zipWith]; omega
  rw [if_neg (by simp [zl]), rng1_nat (by omega), Res.bind_ok]
  refine forR_go (fun _ _ => True) trivial (fun i hi' s _ => ?_) (fun s _ => Hd.ok rfl)
  rw [List.length_map, List.length_range] at hi'
  have it : i < t.length := by omega
  have id : i < ds.length := by omega
  have mt : t.getD i [] ∈ t := by rw [getD_lt [] it]; exact List.getElem_mem it
  have ez : (List.zipWith (chg p m) t ds).getD i [] = chg p m (t.getD i []) (ds.getD i 0) := by
    rw [getD_lt [] (by omega), List.getElem_zipWith, getD_lt [] it, getD_lt 0 id]
  have hval : ∀ x ∈ chg p m (t.getD i []) (ds.getD i 0), 0 ≤ x ∧ x < p := fun x hx => by
    rcases List.mem_or_eq_of_mem_set hx with h | h
    · exact hi _ mt x h
    · subst h; exact ⟨Int.emod_nonneg _ (by omega), Int.emod_lt_of_pos _ hp⟩
  rw [List.getElem_map, List.getElem_range, geti_D [] it, Res.bind_ok, copy_ok (hr _ mt), Res.bind_ok, Res.bind_ok, geti_D 0 (hm _ mt), Res.bind_ok, geti_D 0 id, Res.bind_ok, modR_ok hp, Res.bind_ok, setR_nat (hm _ mt), Res.bind_ok, geti_D [] (by omega), Res.bind_ok, ez, are_ok hval, Res.bind_ok,
    if_neg (by simp), Res.bind_ok, Res.bind_ok, if_neg (by unfold chg; simp)]
  exact Hd.ok ⟨(), rfl, trivial⟩
theorem t9 {p : Int} (hp : 0 < p) {script vs : List Int} {b : Bx} {w : Nat} {cs : List (List Int)} (hv : vs.length ≤ 1000) (hw : w ≤ 1000) (hl : vs.length = cs.length) (hc : ∀ r ∈ cs, r.length = w) (hvs : ∀ v ∈ vs, 0 ≤ v ∧ v < p) : Hd (p_law_9 script b p (w : Int) vs (tabF p vs cs)) (· = true) := by
  have tl := tabF_len (p := p) hl
  have tr : ∀ r ∈ tabF p vs cs, r.length = w + 1 ∧ ∀ x ∈ r, 0 ≤ x ∧ x < p := fun r hr => by
    obtain ⟨x, hx, rfl⟩ := List.mem_map.mp hr
    exact ⟨by rw [splitL_len, hc _ (List.of_mem_zip hx).2], splitL_in hp _ _⟩
  unfold p_law_9
  rw [values_ok hp (by omega), Res.bind_ok]
  have ev : ((tabF p vs cs).map fun r => r.sum % p) = vs := by
    refine List.ext_getElem (by rw [List.length_map, tl]) fun k h1 h2 => ?_
    rw [List.getElem_map, ← getD_lt [] (by omega), tabF_at hl h2, splitL_sum, getD_lt 0 h2]
    have := hvs _ (List.getElem_mem h2)
    exact Int.emod_eq_of_lt this.1 this.2
  rw [if_neg (by rw [ev]; simp)]
  refine hd_draw (by omega) fun m b h0 h1 => ?_
  dsimp only
  obtain ⟨n, rfl⟩ := Int.eq_ofNat_of_zero_le h0
  have hm : ∀ r ∈ tabF p vs cs, n < r.length := fun r hr => by rw [(tr r hr).1]; omega
  rw [Res.bind_ok, column_ok (by omega) hm, Res.bind_ok, mapC_ok (g := fun r => r.getD n 0) (by omega) fun r hr => by rw [geti_D 0 (hm r hr), Res.bind_ok], Res.bind_ok, if_neg (by simp)]
  refine (numbers_hd b (by omega) (by omega)).bind fun q hq => ?_
  obtain ⟨ds, b⟩ := q
  dsimp only at hq ⊢
  rw [Res.bind_ok]
  exact t13 hp tl (by omega) (by rw [tl, hq.1]; omega) hm (fun r hr => by rw [(tr r hr).1]; omega) fun r hr => (tr r hr).2
theorem t8 {p : Int} (hp : 0 < p) {script vs : List Int} {b : Bx} {w : Nat} {cs : List (List Int)} (hv : vs.length ≤ 1000) (hw : w ≤ 1000) (hl : vs.length = cs.length) (hc : ∀ r ∈ cs, r.length = w) (hvs : ∀ v ∈ vs, 0 ≤ v ∧ v < p) : Hd (p_law_8 script b p (w : Int) vs cs (tabF p vs cs)) (· = true) := by
  have tl := tabF_len (p := p) hl
  unfold p_law_8
  rw [rng1_nat (by omega), Res.bind_ok]
  refine forR_go (fun _ _ => True) trivial (fun i hi s _ => ?_) (fun s _ => t9 hp hv hw hl hc hvs)
  rw [List.length_map, List.length_range] at hi
  have ic : i < cs.length := by omega
  have lc : (cs.getD i []).length ≤ 100000 := by rw [getD_lt [] ic, hc _ (List.getElem_mem ic)]; omega
  have hvi : 0 ≤ vs.getD i 0 ∧ vs.getD i 0 < p := by rw [getD_lt 0 hi]; exact hvs _ (List.getElem_mem hi)
  rw [List.getElem_map, List.getElem_range, geti_D 0 hi, Res.bind_ok, geti_D [] ic, Res.bind_ok, geti_D [] (by omega), Res.bind_ok, tabF_at hl hi, right_ok hp _ lc, Res.bind_ok, if_neg (by simp), Res.bind_ok, Res.bind_ok, Res.bind_ok, split_ok hp _ lc, Res.bind_ok, Res.bind_ok,
    if_neg (by simp), Res.bind_ok, join_ok hp, splitL_sum, Res.bind_ok, Res.bind_ok, if_neg (by rw [Int.emod_eq_of_lt hvi.1 hvi.2]; simp)]
  exact Hd.ok ⟨(), rfl, trivial⟩
theorem law_plain (ns : List Int) : p_law ns = .ok true := by
  refine Hd.true ?_
  unfold p_law
  refine hd_digits fun ds => ?_
  rw [Res.bind_ok]
  refine (prime_hd _).bind fun q hq => ?_
  obtain ⟨p, b⟩ := q
  have hp := primes_ge hq
  dsimp only at hp ⊢
  have hp0 : 0 < p := by omega
  rw [Res.bind_ok]
  refine hd_draw (by decide) fun w b w0 w1 => ?_
  dsimp only
  obtain ⟨w, rfl⟩ := Int.eq_ofNat_of_zero_le w0
  rw [Res.bind_ok]
  refine hd_draw (by decide) fun n b n0 n1 => ?_
  dsimp only
  refine (numbers_hd b (by omega) (by omega)).bind fun q hq => ?_
  obtain ⟨vs0, b⟩ := q
  dsimp only at hq ⊢
  rw [mapC_ok (g := fun x => x % p) (by omega) fun x _ => by rw [modR_ok hp0, Res.bind_ok], Res.bind_ok, Res.bind_ok]
  unfold p_law_4
  have lv : (vs0.map fun x => x % p).length ≤ 10 := by rw [List.length_map]; omega
  refine (mapS_hd (Q := fun _ ys => ys.length = w) (by omega) fun x hx b => ?_).bind fun q hq2 => ?_
  · refine (numbers_hd b (by omega) (by omega)).bind fun q hq => Hd.ok ?_
    rw [hq.1]; omega
  obtain ⟨cs, b⟩ := q
  dsimp only at hq2 ⊢
  have hl := hq2.len
  have hc : ∀ r ∈ cs, r.length = w := fun r hr => by
    obtain ⟨i, hi, rfl⟩ := List.mem_iff_getElem.mp hr
    exact hq2.get i (by omega) hi
  have hvs : ∀ v ∈ vs0.map fun x => x % p, 0 ≤ v ∧ v < p := fun v hv => by
    obtain ⟨x, _, rfl⟩ := List.mem_map.mp hv
    exact ⟨Int.emod_nonneg _ (by omega), Int.emod_lt_of_pos _ hp0⟩
  rw [Res.bind_ok, mapC_ok (g := fun r => r) (by omega) fun r h => by rw [copy_ok (by rw [hc r h]; omega), Res.bind_ok], List.map_id', Res.bind_ok, Res.bind_ok, fresh_ok hp0 (by omega) fun r h => by rw [hc r h]; omega, Res.bind_ok, Res.bind_ok]
  rw [if_neg (by rw [tabF_len (by omega)]; simp)]
  exact t8 hp0 (by omega) (by omega) (by omega) hc hvs
theorem law_pure (ns : List Int) : ∃ as', φ_law [.fz (.scr ns)] = .ok (.fz (.bl true)) as' := law_of (ss_law ns) (law_plain ns)
end
end V
set_option maxHeartbeats 0
namespace V
open PySem PySem.Spec PyProof.Rows L2 VF
abbrev N_total : List Str := ["prime", "numbers", "result", "number"]
theorem sc_total : FnScope N_total ["prime", "numbers"] (defScope s_total) := ⟨rfl, rfl, rfl, by decide +kernel, rfl, by decide +kernel, by decide +kernel⟩
abbrev N_split : List Str := ["prime", "value", "coins", "pieces", "coin"]
theorem sc_split : FnScope N_split ["prime", "value", "coins"] (defScope s_split) := ⟨rfl, rfl, rfl, by decide +kernel, rfl, by decide +kernel, by decide +kernel⟩
abbrev N_join : List Str := ["prime", "pieces"]
theorem sc_join : FnScope N_join ["prime", "pieces"] (defScope s_join) := ⟨rfl, rfl, rfl, by decide +kernel, rfl, by decide +kernel, by decide +kernel⟩
abbrev N_fresh_table : List Str := ["prime", "votes", "coins", "vote", "row"]
theorem sc_fresh_table : FnScope N_fresh_table ["prime", "votes", "coins"] (defScope s_fresh_table) := ⟨rfl, rfl, rfl, by decide +kernel, rfl, by decide +kernel, by decide +kernel⟩
abbrev N_values_of : List Str := ["prime", "table", "row"]
theorem sc_values_of : FnScope N_values_of ["prime", "table"] (defScope s_values_of) := ⟨rfl, rfl, rfl, by decide +kernel, rfl, by decide +kernel, by decide +kernel⟩
abbrev N_column : List Str := ["table", "mixer", "row"]
theorem sc_column : FnScope N_column ["table", "mixer"] (defScope s_column) := ⟨rfl, rfl, rfl, by decide +kernel, rfl, by decide +kernel, by decide +kernel⟩
abbrev N_changed_table : List Str := ["prime", "table", "mixer", "differences", "rows", "row", "difference"]
theorem sc_changed_table : FnScope N_changed_table ["prime", "table", "mixer", "differences"] (defScope s_changed_table) := ⟨rfl, rfl, rfl, by decide +kernel, rfl, by decide +kernel, by decide +kernel⟩
abbrev N__law_cell : List Str := ["_law_script", "_law_k"]
theorem sc__law_cell : FnScope N__law_cell ["_law_script", "_law_k"] (defScope s__law_cell) := ⟨rfl, rfl, rfl, by decide +kernel, rfl, by decide +kernel, by decide +kernel⟩
abbrev N__law_digits : List Str := ["_law_script", "_law_first", "_law_last", "_law_digits_here", "_law_k", "_law_cell_here", "_law_turn", "_law_seed"]
theorem sc__law_digits : FnScope N__law_digits ["_law_script", "_law_first", "_law_last"] (defScope s__law_digits) := ⟨rfl, rfl, rfl, by decide +kernel, rfl, by decide +kernel, by decide +kernel⟩
abbrev N__law_draw : List Str := ["_law_box", "_law_many", "_law_at"]
theorem sc__law_draw : FnScope N__law_draw ["_law_box", "_law_many"] (defScope s__law_draw) := ⟨rfl, rfl, rfl, by decide +kernel, rfl, by decide +kernel, by decide +kernel⟩
abbrev N__law_prime : List Str := ["_law_box"]
theorem sc__law_prime : FnScope N__law_prime ["_law_box"] (defScope s__law_prime) := ⟨rfl, rfl, rfl, by decide +kernel, rfl, by decide +kernel, by decide +kernel⟩
abbrev N__law_numbers : List Str := ["_law_box", "_law_many", "_law_numbers_here", "_law_k"]
theorem sc__law_numbers : FnScope N__law_numbers ["_law_box", "_law_many"] (defScope s__law_numbers) := ⟨rfl, rfl, rfl, by decide +kernel, rfl, by decide +kernel, by decide +kernel⟩
abbrev N__law_is_int : List Str := ["_law_x"]
theorem sc__law_is_int : FnScope N__law_is_int ["_law_x"] (defScope s__law_is_int) := ⟨rfl, rfl, rfl, by decide +kernel, rfl, by decide +kernel, by decide +kernel⟩
abbrev N__law_are_values : List Str := ["_law_xs", "_law_prime_here", "_law_x"]
theorem sc__law_are_values : FnScope N__law_are_values ["_law_xs", "_law_prime_here"] (defScope s__law_are_values) := ⟨rfl, rfl, rfl, by decide +kernel, rfl, by decide +kernel, by decide +kernel⟩
abbrev N__law_right : List Str := ["_law_prime_here", "_law_value", "_law_coins", "_law_pieces", "_law_k"]
theorem sc__law_right : FnScope N__law_right ["_law_prime_here", "_law_value", "_law_coins", "_law_pieces"] (defScope s__law_right) := ⟨rfl, rfl, rfl, by decide +kernel, rfl, by decide +kernel, by decide +kernel⟩
abbrev N_law : List Str := ["_law_script", "_law_box", "_law_prime_here", "_law_wide", "_law_votes", "_law_coins", "_law_kept", "_law_table", "_law_k", "_law_mixer", "_law_differences", "_law_before", "_law_other", "_law_due", "_law_number", "_law_vote", "_law_row", "_law_coin", "_law_share"]
theorem sc_law : FnScope N_law ["_law_script"] (defScope s_law) := ⟨rfl, rfl, rfl, by decide +kernel, rfl, by decide +kernel, by decide +kernel⟩
abbrev FnP (K : PySem.W.Frag) (x : Str) (st : Stmt) (f : Addr) (fd : FuncData) : Prop := FunD K x x (defArgs st) (defBody st) (defScope st) [] [] f fd
structure Tx (P : Program) (K : PySem.W.Frag) (mg : Str → Option Value) where
  b_bool : mg "bool" = none
  b_int : mg "int" = none
  b_isinstance : mg "isinstance" = none
  b_len : mg "len" = none
  b_list : mg "list" = none
  b_range : mg "range" = none
  b_sum : mg "sum" = none
  b_zip : mg "zip" = none
  a_total : Addr
  fd_total : FuncData
  F_total : FnP K "total" s_total a_total fd_total
  g_total : mg "total" = some (.ref a_total)
  a_split : Addr
  fd_split : FuncData
  F_split : FnP K "split" s_split a_split fd_split
  g_split : mg "split" = some (.ref a_split)
  a_join : Addr
  fd_join : FuncData
  F_join : FnP K "join" s_join a_join fd_join
  g_join : mg "join" = some (.ref a_join)
  a_fresh_table : Addr
  fd_fresh_table : FuncData
  F_fresh_table : FnP K "fresh_table" s_fresh_table a_fresh_table fd_fresh_table
  g_fresh_table : mg "fresh_table" = some (.ref a_fresh_table)
  a_values_of : Addr
  fd_values_of : FuncData
  F_values_of : FnP K "values_of" s_values_of a_values_of fd_values_of
  g_values_of : mg "values_of" = some (.ref a_values_of)
  a_column : Addr
  fd_column : FuncData
  F_column : FnP K "column" s_column a_column fd_column
  g_column : mg "column" = some (.ref a_column)
  a_changed_table : Addr
  fd_changed_table : FuncData
  F_changed_table : FnP K "changed_table" s_changed_table a_changed_table fd_changed_table
  g_changed_table : mg "changed_table" = some (.ref a_changed_table)
  a__law_cell : Addr
  fd__law_cell : FuncData
  F__law_cell : FnP K "_law_cell" s__law_cell a__law_cell fd__law_cell
  g__law_cell : mg "_law_cell" = some (.ref a__law_cell)
  a__law_digits : Addr
  fd__law_digits : FuncData
  F__law_digits : FnP K "_law_digits" s__law_digits a__law_digits fd__law_digits
  g__law_digits : mg "_law_digits" = some (.ref a__law_digits)
  a__law_draw : Addr
  fd__law_draw : FuncData
  F__law_draw : FnP K "_law_draw" s__law_draw a__law_draw fd__law_draw
  g__law_draw : mg "_law_draw" = some (.ref a__law_draw)
  a__law_prime : Addr
  fd__law_prime : FuncData
  F__law_prime : FnP K "_law_prime" s__law_prime a__law_prime fd__law_prime
  g__law_prime : mg "_law_prime" = some (.ref a__law_prime)
  a__law_numbers : Addr
  fd__law_numbers : FuncData
  F__law_numbers : FnP K "_law_numbers" s__law_numbers a__law_numbers fd__law_numbers
  g__law_numbers : mg "_law_numbers" = some (.ref a__law_numbers)
  a__law_order : Addr
  fd__law_order : FuncData
  F__law_order : FnP K "_law_order" s__law_order a__law_order fd__law_order
  g__law_order : mg "_law_order" = some (.ref a__law_order)
  a__law_is_int : Addr
  fd__law_is_int : FuncData
  F__law_is_int : FnP K "_law_is_int" s__law_is_int a__law_is_int fd__law_is_int
  g__law_is_int : mg "_law_is_int" = some (.ref a__law_is_int)
  a__law_are_values : Addr
  fd__law_are_values : FuncData
  F__law_are_values : FnP K "_law_are_values" s__law_are_values a__law_are_values fd__law_are_values
  g__law_are_values : mg "_law_are_values" = some (.ref a__law_are_values)
  a__law_right : Addr
  fd__law_right : FuncData
  F__law_right : FnP K "_law_right" s__law_right a__law_right fd__law_right
  g__law_right : mg "_law_right" = some (.ref a__law_right)
  a_law : Addr
  fd_law : FuncData
  F_law : FnP K "law" s_law a_law fd_law
  g_law : mg "law" = some (.ref a_law)
section
variable {P : Program} {w : World} {K : PySem.W.Frag} {mg : Str → Option Value} {base : Heap}
theorem Tx.bd_total (T : Tx P K mg) : Binds K T.fd_total ["prime", "numbers"] [] := T.F_total.bindsN fun _ _ _ _ _ _ us hl => match us, hl with | [_, _], _ => rfl
theorem Tx.ok_total (T : Tx P K mg) : FnOk P w K mg base CX0 1 T.a_total T.fd_total ["prime", "numbers"] (spF K mg 2 φ_total) :=
  fn_ok (k := 0) T.F_total sc_total [false, false] rfl (m := d_total) (n := 4) rfl fun cdv A outer s H E hr => ((b_cons (s_set (i := 2) sc_total.nd rfl (by first | exact .inl rfl | exact .inr rfl) v_int)
      (b_cons (s_for PassesOwn.never rfl (i_any (v_var (i := 1) rfl (by first | exact .inl rfl | exact .inr (.inl rfl) | exact .inr (.inr rfl)))) (g_name (i := 3) sc_total.nd rfl (by first | exact .inl rfl | exact .inr rfl)) (b_one (s_set (i := 2) sc_total.nd rfl (by first | exact .inl rfl | exact .inr rfl) (v_mod (v_addI (v_var (i := 2) rfl (by first | exact .inl rfl | exact .inr (.inl rfl) | exact .inr (.inr rfl))) (v_var (i := 3) rfl (by first | exact .inl rfl | exact .inr (.inl rfl) | exact .inr (.inr rfl)))) (v_var (i := 0) rfl (by first | exact .inl rfl | exact .inr (.inl rfl) | exact .inr (.inr rfl)))))))
      (b_one (s_ret (v_var (i := 2) rfl (by first | exact .inl rfl | exact .inr (.inl rfl) | exact .inr (.inr rfl))))))))
theorem Tx.bd_split (T : Tx P K mg) : Binds K T.fd_split ["prime", "value", "coins"] [] := T.F_split.bindsN fun _ _ _ _ _ _ us hl => match us, hl with | [_, _, _], _ => rfl
theorem Tx.ok_split (T : Tx P K mg) : FnOk P w K mg base CX0 1 T.a_split T.fd_split ["prime", "value", "coins"] (spF K mg 3 φ_split) :=
  fn_ok (k := 0) T.F_split sc_split [false, false, false] rfl (m := d_split) (n := 5) rfl fun cdv A outer s H E hr => ((b_cons (s_setComp (i := 3) (sc := defScope s_split) (own := [("coin", 4)]) rfl sc_split.nd rfl rfl (sw_true rfl rfl rfl (by decide +kernel)) (by rfl) (blkOk_by (N := N_split) (sc := defScope s_split) (own := [("coin", 4)]) (by decide +kernel)) (by decide) (i_any (v_var (i := 2) rfl (by first | exact .inl rfl | exact .inr (.inl rfl) | exact .inr (.inr rfl)))) (fun _ _ _ _ _ => (g_name (i := 4) sc_split.nd rfl (by first | exact .inl rfl | exact .inr rfl))) (fun _ _ _ _ _ => ts_nil) (fun _ _ _ _ _ => (v_mod (v_var (i := 4) rfl (by first | exact .inl rfl | exact .inr (.inl rfl) | exact .inr (.inr rfl))) (v_var (i := 0) rfl (by first | exact .inl rfl | exact .inr (.inl rfl) | exact .inr (.inr rfl))))))
      (b_cons (s_expr (v_app (i := 3) rfl (by first | exact .inl rfl | exact .inr (.inl rfl) | exact .inr (.inr rfl)) (v_mod (v_sub (v_var (i := 1) rfl (by first | exact .inl rfl | exact .inr (.inl rfl) | exact .inr (.inr rfl))) (v_sum rfl rfl T.b_sum (a_cons (v_var (i := 3) rfl (by first | exact .inl rfl | exact .inr (.inl rfl) | exact .inr (.inr rfl))) a_nil))) (v_var (i := 0) rfl (by first | exact .inl rfl | exact .inr (.inl rfl) | exact .inr (.inr rfl)))) rfl (by decide) (by decide) (fun ho ha => pe_bm PySem.F.plainAttrs_list PySem.F.slot_list_append PySem.F.type_list_append mt_append ho ha)))
      (b_one (s_ret (v_var (i := 3) rfl (by first | exact .inl rfl | exact .inr (.inl rfl) | exact .inr (.inr rfl))))))))
theorem Tx.bd_join (T : Tx P K mg) : Binds K T.fd_join ["prime", "pieces"] [] := T.F_join.bindsN fun _ _ _ _ _ _ us hl => match us, hl with | [_, _], _ => rfl
theorem Tx.ok_join (T : Tx P K mg) : FnOk P w K mg base CX0 2 T.a_join T.fd_join ["prime", "pieces"] (spF K mg 2 φ_join) :=
  fn_ok (k := 1) T.F_join sc_join [false, false] rfl (m := d_join) (n := 2) rfl fun cdv A outer s H E hr => ((b_one (s_ret (v_callB T.ok_total (hr.mono (by decide)) rfl T.g_total T.F_total.kp T.bd_total passN (a_cons (v_var (i := 0) rfl (by first | exact .inl rfl | exact .inr (.inl rfl) | exact .inr (.inr rfl))) (a_cons (v_var (i := 1) rfl (by first | exact .inl rfl | exact .inr (.inl rfl) | exact .inr (.inr rfl))) a_nil))))))
theorem Tx.bd_fresh_table (T : Tx P K mg) : Binds K T.fd_fresh_table ["prime", "votes", "coins"] [] := T.F_fresh_table.bindsN fun _ _ _ _ _ _ us hl => match us, hl with | [_, _, _], _ => rfl
theorem Tx.ok_fresh_table (T : Tx P K mg) : FnOk P w K mg base CX0 2 T.a_fresh_table T.fd_fresh_table ["prime", "votes", "coins"] (spF K mg 3 φ_fresh_table) :=
  fn_ok (k := 1) T.F_fresh_table sc_fresh_table [false, false, false] rfl (m := d_fresh_table) (n := 5) rfl fun cdv A outer s H E hr => ((b_one (s_ret (v_comp (sc := defScope s_fresh_table) (own := [("vote", 3), ("row", 4)]) rfl sc_fresh_table.nd (by rfl) (blkOk_by (N := N_fresh_table) (sc := defScope s_fresh_table) (own := [("vote", 3), ("row", 4)]) (by decide +kernel)) (by decide) (i_zip rfl T.b_zip (a_cons (v_var (i := 1) rfl (by first | exact .inl rfl | exact .inr (.inl rfl) | exact .inr (.inr rfl))) (a_cons (v_var (i := 2) rfl (by first | exact .inl rfl | exact .inr (.inl rfl) | exact .inr (.inr rfl))) a_nil)) (fun ha => pi_zip rfl T.b_zip ha)) (fun _ _ _ _ _ => (g_tup rfl (gs_cons (g_name (i := 3) sc_fresh_table.nd rfl (by first | exact .inl rfl | exact .inr rfl)) (gs_cons (g_name (i := 4) sc_fresh_table.nd rfl (by first | exact .inl rfl | exact .inr rfl)) gs_nil)))) (fun _ _ _ _ _ => ts_nil) (fun _ _ _ _ _ => (v_call (md := [false, false, false]) T.ok_split (hr.mono (by decide)) rfl T.g_split T.F_split.kp T.bd_split passN (a_cons (v_var (i := 0) rfl (by first | exact .inl rfl | exact .inr (.inl rfl) | exact .inr (.inr rfl))) (a_cons (v_var (i := 3) rfl (by first | exact .inl rfl | exact .inr (.inl rfl) | exact .inr (.inr rfl))) (a_cons (v_var (i := 4) rfl (by first | exact .inl rfl | exact .inr (.inl rfl) | exact .inr (.inr rfl))) a_nil)))))))))
theorem Tx.bd_values_of (T : Tx P K mg) : Binds K T.fd_values_of ["prime", "table"] [] := T.F_values_of.bindsN fun _ _ _ _ _ _ us hl => match us, hl with | [_, _], _ => rfl
theorem Tx.ok_values_of (T : Tx P K mg) : FnOk P w K mg base CX0 3 T.a_values_of T.fd_values_of ["prime", "table"] (spF K mg 2 φ_values_of) :=
  fn_ok (k := 2) T.F_values_of sc_values_of [false, false] rfl (m := d_values_of) (n := 3) rfl fun cdv A outer s H E hr => ((b_one (s_ret (v_comp (sc := defScope s_values_of) (own := [("row", 2)]) rfl sc_values_of.nd (by rfl) (blkOk_by (N := N_values_of) (sc := defScope s_values_of) (own := [("row", 2)]) (by decide +kernel)) (by decide) (i_any (v_var (i := 1) rfl (by first | exact .inl rfl | exact .inr (.inl rfl) | exact .inr (.inr rfl)))) (fun _ _ _ _ _ => (g_name (i := 2) sc_values_of.nd rfl (by first | exact .inl rfl | exact .inr rfl))) (fun _ _ _ _ _ => ts_nil) (fun _ _ _ _ _ => (v_callB T.ok_join (hr.mono (by decide)) rfl T.g_join T.F_join.kp T.bd_join passN (a_cons (v_var (i := 0) rfl (by first | exact .inl rfl | exact .inr (.inl rfl) | exact .inr (.inr rfl))) (a_cons (v_var (i := 2) rfl (by first | exact .inl rfl | exact .inr (.inl rfl) | exact .inr (.inr rfl))) a_nil))))))))
theorem Tx.bd_column (T : Tx P K mg) : Binds K T.fd_column ["table", "mixer"] [] := T.F_column.bindsN fun _ _ _ _ _ _ us hl => match us, hl with | [_, _], _ => rfl
theorem Tx.ok_column (T : Tx P K mg) : FnOk P w K mg base CX0 1 T.a_column T.fd_column ["table", "mixer"] (spF K mg 2 φ_column) :=
  fn_ok (k := 0) T.F_column sc_column [false, false] rfl (m := d_column) (n := 3) rfl fun cdv A outer s H E hr => ((b_one (s_ret (v_comp (sc := defScope s_column) (own := [("row", 2)]) rfl sc_column.nd (by rfl) (blkOk_by (N := N_column) (sc := defScope s_column) (own := [("row", 2)]) (by decide +kernel)) (by decide) (i_any (v_var (i := 0) rfl (by first | exact .inl rfl | exact .inr (.inl rfl) | exact .inr (.inr rfl)))) (fun _ _ _ _ _ => (g_name (i := 2) sc_column.nd rfl (by first | exact .inl rfl | exact .inr rfl))) (fun _ _ _ _ _ => ts_nil) (fun _ _ _ _ _ => (v_ix (v_var (i := 2) rfl (by first | exact .inl rfl | exact .inr (.inl rfl) | exact .inr (.inr rfl))) (v_var (i := 1) rfl (by first | exact .inl rfl | exact .inr (.inl rfl) | exact .inr (.inr rfl))) (fun _ _ => rfl)))))))
theorem Tx.bd_changed_table (T : Tx P K mg) : Binds K T.fd_changed_table ["prime", "table", "mixer", "differences"] [] := T.F_changed_table.bindsN fun _ _ _ _ _ _ us hl => match us, hl with | [_, _, _, _], _ => rfl
theorem Tx.ok_changed_table (T : Tx P K mg) : FnOk P w K mg base CX0 1 T.a_changed_table T.fd_changed_table ["prime", "table", "mixer", "differences"] (spF K mg 4 φ_changed_table) :=
  fn_ok (k := 0) T.F_changed_table sc_changed_table [false, false, false, false] rfl (m := d_changed_table) (n := 7) rfl fun cdv A outer s H E hr => ((b_cons (s_setCompO (i := 4) (sc := defScope s_changed_table) (own := [("row", 5)]) rfl sc_changed_table.nd rfl rfl (sw_true rfl rfl rfl (by decide +kernel)) (by rfl) (blkOk_by (N := N_changed_table) (sc := defScope s_changed_table) (own := [("row", 5)]) (by decide +kernel)) (by decide) (i_any (v_var (i := 1) rfl (by first | exact .inl rfl | exact .inr (.inl rfl) | exact .inr (.inr rfl)))) (fun _ _ _ _ _ => (g_name (i := 5) sc_changed_table.nd rfl (by first | exact .inl rfl | exact .inr rfl))) (fun _ _ _ _ _ => ts_nil) (fun _ _ _ _ _ => (v_list rfl T.b_list (a_cons (v_var (i := 5) rfl (by first | exact .inl rfl | exact .inr (.inl rfl) | exact .inr (.inr rfl))) a_nil))))
      (b_cons (s_forZ (j := 4) (a := 5) (b := 6) PassesOwn.never rfl rfl T.b_zip rfl (by first | exact .inl rfl | exact .inr (.inl rfl) | exact .inr (.inr rfl)) (v_var (i := 3) rfl (by first | exact .inl rfl | exact .inr (.inl rfl) | exact .inr (.inr rfl))) sc_changed_table.nd rfl (by first | exact .inl rfl | exact .inr rfl) rfl (by first | exact .inl rfl | exact .inr rfl) (b_one (s_setIx (j := 5) rfl (by first | exact .inl rfl | exact .inr (.inl rfl) | exact .inr (.inr rfl)) (v_var (i := 2) rfl (by first | exact .inl rfl | exact .inr (.inl rfl) | exact .inr (.inr rfl))) (v_mod (v_addI (v_ix (v_var (i := 5) rfl (by first | exact .inl rfl | exact .inr (.inl rfl) | exact .inr (.inr rfl))) (v_var (i := 2) rfl (by first | exact .inl rfl | exact .inr (.inl rfl) | exact .inr (.inr rfl))) (fun _ _ => rfl)) (v_var (i := 6) rfl (by first | exact .inl rfl | exact .inr (.inl rfl) | exact .inr (.inr rfl)))) (v_var (i := 0) rfl (by first | exact .inl rfl | exact .inr (.inl rfl) | exact .inr (.inr rfl)))) (fun ho hi => pg_sub ho hi set_list))) (fun ha => pi_zip rfl T.b_zip ha))
      (b_one (s_ret (v_fzE (v_var (i := 4) rfl (by first | exact .inl rfl | exact .inr (.inl rfl) | exact .inr (.inr rfl)))))))))
theorem Tx.bd__law_cell (T : Tx P K mg) : Binds K T.fd__law_cell ["_law_script", "_law_k"] [] := T.F__law_cell.bindsN fun _ _ _ _ _ _ us hl => match us, hl with | [_, _], _ => rfl
theorem Tx.ok__law_cell (T : Tx P K mg) : FnOk P w K mg base CX0 1 T.a__law_cell T.fd__law_cell ["_law_script", "_law_k"] (spF K mg 2 φ__law_cell) :=
  fn_ok (k := 0) T.F__law_cell sc__law_cell [false, false] rfl (m := d__law_cell) (n := 2) rfl fun cdv A outer s H E hr => ((b_cons (s_if (t_lt (v_var (i := 1) rfl (by first | exact .inl rfl | exact .inr (.inl rfl) | exact .inr (.inr rfl))) (v_len rfl T.b_len (a_cons (v_var (i := 0) rfl (by first | exact .inl rfl | exact .inr (.inl rfl) | exact .inr (.inr rfl))) a_nil))) (b_one (s_ret (v_ix (v_var (i := 0) rfl (by first | exact .inl rfl | exact .inr (.inl rfl) | exact .inr (.inr rfl))) (v_var (i := 1) rfl (by first | exact .inl rfl | exact .inr (.inl rfl) | exact .inr (.inr rfl))) (fun _ _ => rfl)))) b_nil)
      (b_one (s_ret v_int))))
theorem Tx.bd__law_digits (T : Tx P K mg) : Binds K T.fd__law_digits ["_law_script", "_law_first", "_law_last"] [] := T.F__law_digits.bindsN fun _ _ _ _ _ _ us hl => match us, hl with | [_, _, _], _ => rfl
theorem Tx.ok__law_digits (T : Tx P K mg) : FnOk P w K mg base CX0 2 T.a__law_digits T.fd__law_digits ["_law_script", "_law_first", "_law_last"] (spF K mg 3 φ__law_digits) :=
  fn_ok (k := 1) T.F__law_digits sc__law_digits [false, false, false] rfl (m := d__law_digits) (n := 8) rfl fun cdv A outer s H E hr => ((b_cons (s_set (i := 3) sc__law_digits.nd rfl (by first | exact .inl rfl | exact .inr rfl) (v_lst a_nil))
      (b_cons (s_for PassesOwn.never rfl (i_rng2 rfl T.b_range (a_cons (v_var (i := 1) rfl (by first | exact .inl rfl | exact .inr (.inl rfl) | exact .inr (.inr rfl))) (a_cons (v_var (i := 2) rfl (by first | exact .inl rfl | exact .inr (.inl rfl) | exact .inr (.inr rfl))) a_nil))) (g_name (i := 4) sc__law_digits.nd rfl (by first | exact .inl rfl | exact .inr rfl)) (b_cons (s_set (i := 5) sc__law_digits.nd rfl (by first | exact .inl rfl | exact .inr rfl) (v_call (md := [false, false]) T.ok__law_cell (hr.mono (by decide)) rfl T.g__law_cell T.F__law_cell.kp T.bd__law_cell passN (a_cons (v_var (i := 0) rfl (by first | exact .inl rfl | exact .inr (.inl rfl) | exact .inr (.inr rfl))) (a_cons (v_var (i := 4) rfl (by first | exact .inl rfl | exact .inr (.inl rfl) | exact .inr (.inr rfl))) a_nil))))
      (b_cons (s_if (t_lt (v_var (i := 5) rfl (by first | exact .inl rfl | exact .inr (.inl rfl) | exact .inr (.inr rfl))) v_int) (b_one (s_set (i := 5) sc__law_digits.nd rfl (by first | exact .inl rfl | exact .inr rfl) (v_sub v_int (v_mul v_int (v_var (i := 5) rfl (by first | exact .inl rfl | exact .inr (.inl rfl) | exact .inr (.inr rfl))))))) b_nil)
      (b_one (s_if (t_ge (v_var (i := 5) rfl (by first | exact .inl rfl | exact .inr (.inl rfl) | exact .inr (.inr rfl))) (v_pow v_int v_int)) (b_one (s_for PassesOwn.never rfl (i_rng1 rfl T.b_range (a_cons v_int a_nil)) (g_name (i := 6) sc__law_digits.nd rfl (by first | exact .inl rfl | exact .inr rfl)) (b_one (s_if (t_gt (v_var (i := 5) rfl (by first | exact .inl rfl | exact .inr (.inl rfl) | exact .inr (.inr rfl))) v_int) (b_cons (s_expr (v_app (i := 3) rfl (by first | exact .inl rfl | exact .inr (.inl rfl) | exact .inr (.inr rfl)) (v_mod (v_callInt rfl T.b_int (a_cons (v_var (i := 5) rfl (by first | exact .inl rfl | exact .inr (.inl rfl) | exact .inr (.inr rfl))) a_nil)) v_int) rfl (by decide) (by decide) (fun ho ha => pe_bm PySem.F.plainAttrs_list PySem.F.slot_list_append PySem.F.type_list_append mt_append ho ha)))
      (b_one (s_set (i := 5) sc__law_digits.nd rfl (by first | exact .inl rfl | exact .inr rfl) (v_div (v_var (i := 5) rfl (by first | exact .inl rfl | exact .inr (.inl rfl) | exact .inr (.inr rfl))) v_int)))) b_nil)))) (b_cons (s_set (i := 7) sc__law_digits.nd rfl (by first | exact .inl rfl | exact .inr rfl) (v_mod (v_callInt rfl T.b_int (a_cons (v_addI (v_addI (v_mul (v_var (i := 5) rfl (by first | exact .inl rfl | exact .inr (.inl rfl) | exact .inr (.inr rfl))) v_int) (v_mul (v_var (i := 4) rfl (by first | exact .inl rfl | exact .inr (.inl rfl) | exact .inr (.inr rfl))) v_int)) v_int) a_nil)) v_int))
      (b_one (s_for PassesOwn.never rfl (i_rng1 rfl T.b_range (a_cons v_int a_nil)) (g_name (i := 6) sc__law_digits.nd rfl (by first | exact .inl rfl | exact .inr rfl)) (b_cons (s_set (i := 7) sc__law_digits.nd rfl (by first | exact .inl rfl | exact .inr rfl) (v_mod (v_callInt rfl T.b_int (a_cons (v_addI (v_addI (v_mul (v_var (i := 7) rfl (by first | exact .inl rfl | exact .inr (.inl rfl) | exact .inr (.inr rfl))) v_int) (v_mul v_int (v_var (i := 6) rfl (by first | exact .inl rfl | exact .inr (.inl rfl) | exact .inr (.inr rfl))))) v_int) a_nil)) v_int))
      (b_one (s_expr (v_app (i := 3) rfl (by first | exact .inl rfl | exact .inr (.inl rfl) | exact .inr (.inr rfl)) (v_mod (v_callInt rfl T.b_int (a_cons (v_div (v_var (i := 7) rfl (by first | exact .inl rfl | exact .inr (.inl rfl) | exact .inr (.inr rfl))) v_int) a_nil)) v_int) rfl (by decide) (by decide) (fun ho ha => pe_bm PySem.F.plainAttrs_list PySem.F.slot_list_append PySem.F.type_list_append mt_append ho ha)))))))))))))
      (b_one (s_ret (v_var (i := 3) rfl (by first | exact .inl rfl | exact .inr (.inl rfl) | exact .inr (.inr rfl))))))))
theorem Tx.bd__law_draw (T : Tx P K mg) : Binds K T.fd__law_draw ["_law_box", "_law_many"] [] := T.F__law_draw.bindsN fun _ _ _ _ _ _ us hl => match us, hl with | [_, _], _ => rfl
theorem Tx.ok__law_draw (T : Tx P K mg) : FnOk P w K mg base CX0 1 T.a__law_draw T.fd__law_draw ["_law_box", "_law_many"] (spF K mg 2 φ__law_draw) :=
  fn_ok (k := 0) T.F__law_draw sc__law_draw [true, false] rfl (m := d__law_draw) (n := 3) rfl fun cdv A outer s H E hr => ((b_cons (s_set (i := 2) sc__law_draw.nd rfl (by first | exact .inl rfl | exact .inr rfl) (v_ix (v_var (i := 0) rfl (by first | exact .inl rfl | exact .inr (.inl rfl) | exact .inr (.inr rfl))) v_int (fun _ _ => rfl)))
      (b_cons (s_setIx (j := 0) rfl (by first | exact .inl rfl | exact .inr (.inl rfl) | exact .inr (.inr rfl)) v_int (v_addI (v_var (i := 2) rfl (by first | exact .inl rfl | exact .inr (.inl rfl) | exact .inr (.inr rfl))) v_int) (fun ho hi => pg_sub ho hi set_list))
      (b_cons (s_if (t_lt (v_var (i := 2) rfl (by first | exact .inl rfl | exact .inr (.inl rfl) | exact .inr (.inr rfl))) (v_len rfl T.b_len (a_cons (v_ix (v_var (i := 0) rfl (by first | exact .inl rfl | exact .inr (.inl rfl) | exact .inr (.inr rfl))) v_int (fun _ _ => rfl)) a_nil))) (b_one (s_ret (v_mod (v_callInt rfl T.b_int (a_cons (v_ix (v_ix (v_var (i := 0) rfl (by first | exact .inl rfl | exact .inr (.inl rfl) | exact .inr (.inr rfl))) v_int (fun _ _ => rfl)) (v_var (i := 2) rfl (by first | exact .inl rfl | exact .inr (.inl rfl) | exact .inr (.inr rfl))) (fun _ _ => rfl)) a_nil)) (v_var (i := 1) rfl (by first | exact .inl rfl | exact .inr (.inl rfl) | exact .inr (.inr rfl)))))) b_nil)
      (b_one (s_ret v_int))))))
theorem Tx.bd__law_prime (T : Tx P K mg) : Binds K T.fd__law_prime ["_law_box"] [] := T.F__law_prime.bindsN fun _ _ _ _ _ _ us hl => match us, hl with | [_], _ => rfl
theorem Tx.ok__law_prime (T : Tx P K mg) : FnOk P w K mg base CX0 2 T.a__law_prime T.fd__law_prime ["_law_box"] (spF K mg 1 φ__law_prime) :=
  fn_ok (k := 1) T.F__law_prime sc__law_prime [true] rfl (m := d__law_prime) (n := 1) rfl fun cdv A outer s H E hr => ((b_one (s_ret (v_ix (v_lst (a_cons v_int (a_cons v_int (a_cons v_int (a_cons v_int (a_cons v_int (a_cons v_int (a_cons v_int (a_cons v_int (a_cons v_int (a_cons v_int (a_cons v_int (a_cons v_int a_nil))))))))))))) (v_call (md := [true, false]) T.ok__law_draw (hr.mono (by decide)) rfl T.g__law_draw T.F__law_draw.kp T.bd__law_draw passN (a_cons (v_var (i := 0) rfl (by first | exact .inl rfl | exact .inr (.inl rfl) | exact .inr (.inr rfl))) (a_cons v_int a_nil))) (fun _ _ => rfl)))))
theorem Tx.bd__law_numbers (T : Tx P K mg) : Binds K T.fd__law_numbers ["_law_box", "_law_many"] [] := T.F__law_numbers.bindsN fun _ _ _ _ _ _ us hl => match us, hl with | [_, _], _ => rfl
theorem Tx.ok__law_numbers (T : Tx P K mg) : FnOk P w K mg base CX0 2 T.a__law_numbers T.fd__law_numbers ["_law_box", "_law_many"] (spF K mg 2 φ__law_numbers) :=
  fn_ok (k := 1) T.F__law_numbers sc__law_numbers [true, false] rfl (m := d__law_numbers) (n := 4) rfl fun cdv A outer s H E hr => ((b_cons (s_set (i := 2) sc__law_numbers.nd rfl (by first | exact .inl rfl | exact .inr rfl) (v_lst a_nil))
      (b_cons (s_for PassesOwn.never rfl (i_rng1 rfl T.b_range (a_cons (v_var (i := 1) rfl (by first | exact .inl rfl | exact .inr (.inl rfl) | exact .inr (.inr rfl))) a_nil)) (g_name (i := 3) sc__law_numbers.nd rfl (by first | exact .inl rfl | exact .inr rfl)) (b_one (s_expr (v_app (i := 2) rfl (by first | exact .inl rfl | exact .inr (.inl rfl) | exact .inr (.inr rfl)) (v_sub (v_addI (v_mul (v_call (md := [true, false]) T.ok__law_draw (hr.mono (by decide)) rfl T.g__law_draw T.F__law_draw.kp T.bd__law_draw passN (a_cons (v_var (i := 0) rfl (by first | exact .inl rfl | exact .inr (.inl rfl) | exact .inr (.inr rfl))) (a_cons v_int a_nil))) v_int) (v_call (md := [true, false]) T.ok__law_draw (hr.mono (by decide)) rfl T.g__law_draw T.F__law_draw.kp T.bd__law_draw passN (a_cons (v_var (i := 0) rfl (by first | exact .inl rfl | exact .inr (.inl rfl) | exact .inr (.inr rfl))) (a_cons v_int a_nil)))) v_int) rfl (by decide) (by decide) (fun ho ha => pe_bm PySem.F.plainAttrs_list PySem.F.slot_list_append PySem.F.type_list_append mt_append ho ha)))))
      (b_one (s_ret (v_var (i := 2) rfl (by first | exact .inl rfl | exact .inr (.inl rfl) | exact .inr (.inr rfl))))))))
theorem Tx.bd__law_is_int (T : Tx P K mg) : Binds K T.fd__law_is_int ["_law_x"] [] := T.F__law_is_int.bindsN fun _ _ _ _ _ _ us hl => match us, hl with | [_], _ => rfl
theorem Tx.ok__law_is_int (T : Tx P K mg) : FnOk P w K mg base CX0 1 T.a__law_is_int T.fd__law_is_int ["_law_x"] (spF K mg 1 φ__law_is_int) :=
  fn_ok (k := 0) T.F__law_is_int sc__law_is_int [false] rfl (m := d__law_is_int) (n := 1) rfl fun cdv A outer s H E hr => ((b_one (s_ret (v_and (v_isi rfl T.b_isinstance (a_cons (v_var (i := 0) rfl (by first | exact .inl rfl | exact .inr (.inl rfl) | exact .inr (.inr rfl))) (a_cons (v_ty rfl T.b_int (by decide +kernel)) a_nil))) (v_one (v_not (v_isi rfl T.b_isinstance (a_cons (v_var (i := 0) rfl (by first | exact .inl rfl | exact .inr (.inl rfl) | exact .inr (.inr rfl))) (a_cons (v_ty rfl T.b_bool (by decide +kernel)) a_nil)))))))))
theorem Tx.bd__law_are_values (T : Tx P K mg) : Binds K T.fd__law_are_values ["_law_xs", "_law_prime_here"] [] := T.F__law_are_values.bindsN fun _ _ _ _ _ _ us hl => match us, hl with | [_, _], _ => rfl
theorem Tx.ok__law_are_values (T : Tx P K mg) : FnOk P w K mg base CX0 2 T.a__law_are_values T.fd__law_are_values ["_law_xs", "_law_prime_here"] (spF K mg 2 φ__law_are_values) :=
  fn_ok (k := 1) T.F__law_are_values sc__law_are_values [false, false] rfl (m := d__law_are_values) (n := 3) rfl fun cdv A outer s H E hr => ((b_cons (s_if (t_not (t_tru (v_isi rfl T.b_isinstance (a_cons (v_var (i := 0) rfl (by first | exact .inl rfl | exact .inr (.inl rfl) | exact .inr (.inr rfl))) (a_cons (v_ty rfl T.b_list (by decide +kernel)) a_nil))))) (b_one (s_ret v_bl)) b_nil)
      (b_cons (s_for PassesOwn.never rfl (i_any (v_var (i := 0) rfl (by first | exact .inl rfl | exact .inr (.inl rfl) | exact .inr (.inr rfl)))) (g_name (i := 2) sc__law_are_values.nd rfl (by first | exact .inl rfl | exact .inr rfl)) (b_one (s_if (VW.t (w_or (t_not (t_tru (v_callB T.ok__law_is_int (hr.mono (by decide)) rfl T.g__law_is_int T.F__law_is_int.kp T.bd__law_is_int passN (a_cons (v_var (i := 2) rfl (by first | exact .inl rfl | exact .inr (.inl rfl) | exact .inr (.inr rfl))) a_nil)))) (w_or1 (t_not (t_leLt v_int (v_var (i := 2) rfl (by first | exact .inl rfl | exact .inr (.inl rfl) | exact .inr (.inr rfl))) (v_var (i := 1) rfl (by first | exact .inl rfl | exact .inr (.inl rfl) | exact .inr (.inr rfl)))))))) (b_one (s_ret v_bl)) b_nil)))
      (b_one (s_ret v_bl)))))
theorem Tx.bd__law_right (T : Tx P K mg) : Binds K T.fd__law_right ["_law_prime_here", "_law_value", "_law_coins", "_law_pieces"] [] := T.F__law_right.bindsN fun _ _ _ _ _ _ us hl => match us, hl with | [_, _, _, _], _ => rfl
theorem Tx.ok__law_right (T : Tx P K mg) : FnOk P w K mg base CX0 3 T.a__law_right T.fd__law_right ["_law_prime_here", "_law_value", "_law_coins", "_law_pieces"] (spF K mg 4 φ__law_right) :=
  fn_ok (k := 2) T.F__law_right sc__law_right [false, false, false, false] rfl (m := d__law_right) (n := 5) rfl fun cdv A outer s H E hr => ((b_cons (s_if (VW.t (w_or (t_not (t_tru (v_callB T.ok__law_are_values (hr.mono (by decide)) rfl T.g__law_are_values T.F__law_are_values.kp T.bd__law_are_values passN (a_cons (v_var (i := 3) rfl (by first | exact .inl rfl | exact .inr (.inl rfl) | exact .inr (.inr rfl))) (a_cons (v_var (i := 0) rfl (by first | exact .inl rfl | exact .inr (.inl rfl) | exact .inr (.inr rfl))) a_nil))))) (w_or1 (t_ne (u64 hr) (v_len rfl T.b_len (a_cons (v_var (i := 3) rfl (by first | exact .inl rfl | exact .inr (.inl rfl) | exact .inr (.inr rfl))) a_nil)) (v_addI (v_len rfl T.b_len (a_cons (v_var (i := 2) rfl (by first | exact .inl rfl | exact .inr (.inl rfl) | exact .inr (.inr rfl))) a_nil)) v_int))))) (b_one (s_ret v_bl)) b_nil)
      (b_cons (s_for PassesOwn.never rfl (i_rng1 rfl T.b_range (a_cons (v_len rfl T.b_len (a_cons (v_var (i := 2) rfl (by first | exact .inl rfl | exact .inr (.inl rfl) | exact .inr (.inr rfl))) a_nil)) a_nil)) (g_name (i := 4) sc__law_right.nd rfl (by first | exact .inl rfl | exact .inr rfl)) (b_one (s_if (t_ne (u64 hr) (v_ix (v_var (i := 3) rfl (by first | exact .inl rfl | exact .inr (.inl rfl) | exact .inr (.inr rfl))) (v_var (i := 4) rfl (by first | exact .inl rfl | exact .inr (.inl rfl) | exact .inr (.inr rfl))) (fun _ _ => rfl)) (v_mod (v_callInt rfl T.b_int (a_cons (v_ix (v_var (i := 2) rfl (by first | exact .inl rfl | exact .inr (.inl rfl) | exact .inr (.inr rfl))) (v_var (i := 4) rfl (by first | exact .inl rfl | exact .inr (.inl rfl) | exact .inr (.inr rfl))) (fun _ _ => rfl)) a_nil)) (v_var (i := 0) rfl (by first | exact .inl rfl | exact .inr (.inl rfl) | exact .inr (.inr rfl))))) (b_one (s_ret v_bl)) b_nil)))
      (b_one (s_ret (v_eq (u64 hr) (v_mod (v_callInt rfl T.b_int (a_cons (v_sub (v_sum rfl rfl T.b_sum (a_cons (v_var (i := 3) rfl (by first | exact .inl rfl | exact .inr (.inl rfl) | exact .inr (.inr rfl))) a_nil)) (v_var (i := 1) rfl (by first | exact .inl rfl | exact .inr (.inl rfl) | exact .inr (.inr rfl)))) a_nil)) (v_var (i := 0) rfl (by first | exact .inl rfl | exact .inr (.inl rfl) | exact .inr (.inr rfl)))) v_int))))))
theorem Tx.ok_law (T : Tx P K mg) : FnOk P w K mg base CX0 4 T.a_law T.fd_law ["_law_script"] (spF K mg 1 φ_law) :=
  fn_ok (k := 3) T.F_law sc_law [false] rfl (m := d_law) (n := 19) rfl fun cdv A outer s H E hr => ((b_cons (s_set (i := 1) sc_law.nd rfl (by first | exact .inl rfl | exact .inr rfl) (v_lst (a_cons (v_call (md := [false, false, false]) T.ok__law_digits (hr.mono (by decide)) rfl T.g__law_digits T.F__law_digits.kp T.bd__law_digits passN (a_cons (v_var (i := 0) rfl (by first | exact .inl rfl | exact .inr (.inl rfl) | exact .inr (.inr rfl))) (a_cons v_int (a_cons v_int a_nil)))) (a_cons v_int a_nil))))
      (b_cons (s_set (i := 2) sc_law.nd rfl (by first | exact .inl rfl | exact .inr rfl) (v_call (md := [true]) T.ok__law_prime (hr.mono (by decide)) rfl T.g__law_prime T.F__law_prime.kp T.bd__law_prime passN (a_cons (v_var (i := 1) rfl (by first | exact .inl rfl | exact .inr (.inl rfl) | exact .inr (.inr rfl))) a_nil)))
      (b_cons (s_set (i := 3) sc_law.nd rfl (by first | exact .inl rfl | exact .inr rfl) (v_call (md := [true, false]) T.ok__law_draw (hr.mono (by decide)) rfl T.g__law_draw T.F__law_draw.kp T.bd__law_draw passN (a_cons (v_var (i := 1) rfl (by first | exact .inl rfl | exact .inr (.inl rfl) | exact .inr (.inr rfl))) (a_cons v_int a_nil))))
      (b_cons (s_setComp (i := 4) (sc := defScope s_law) (own := [("_law_number", 14)]) rfl sc_law.nd rfl rfl (sw_true rfl rfl rfl (by decide +kernel)) (by rfl) (blkOk_by (N := N_law) (sc := defScope s_law) (own := [("_law_number", 14)]) (by decide +kernel)) (by decide) (i_any (v_call (md := [true, false]) T.ok__law_numbers (hr.mono (by decide)) rfl T.g__law_numbers T.F__law_numbers.kp T.bd__law_numbers passN (a_cons (v_var (i := 1) rfl (by first | exact .inl rfl | exact .inr (.inl rfl) | exact .inr (.inr rfl))) (a_cons (v_call (md := [true, false]) T.ok__law_draw (hr.mono (by decide)) rfl T.g__law_draw T.F__law_draw.kp T.bd__law_draw passN (a_cons (v_var (i := 1) rfl (by first | exact .inl rfl | exact .inr (.inl rfl) | exact .inr (.inr rfl))) (a_cons v_int a_nil))) a_nil)))) (fun _ _ _ _ _ => (g_name (i := 14) sc_law.nd rfl (by first | exact .inl rfl | exact .inr rfl))) (fun _ _ _ _ _ => ts_nil) (fun _ _ _ _ _ => (v_mod (v_callInt rfl T.b_int (a_cons (v_var (i := 14) rfl (by first | exact .inl rfl | exact .inr (.inl rfl) | exact .inr (.inr rfl))) a_nil)) (v_var (i := 2) rfl (by first | exact .inl rfl | exact .inr (.inl rfl) | exact .inr (.inr rfl))))))
      (b_cons (s_setComp (i := 5) (sc := defScope s_law) (own := [("_law_vote", 15)]) rfl sc_law.nd rfl rfl (sw_true rfl rfl rfl (by decide +kernel)) (by rfl) (blkOk_by (N := N_law) (sc := defScope s_law) (own := [("_law_vote", 15)]) (by decide +kernel)) (by decide) (i_any (v_var (i := 4) rfl (by first | exact .inl rfl | exact .inr (.inl rfl) | exact .inr (.inr rfl)))) (fun _ _ _ _ _ => (g_name (i := 15) sc_law.nd rfl (by first | exact .inl rfl | exact .inr rfl))) (fun _ _ _ _ _ => ts_nil) (fun _ _ _ _ _ => (v_call (md := [true, false]) T.ok__law_numbers (hr.mono (by decide)) rfl T.g__law_numbers T.F__law_numbers.kp T.bd__law_numbers passN (a_cons (v_var (i := 1) rfl (by first | exact .inl rfl | exact .inr (.inl rfl) | exact .inr (.inr rfl))) (a_cons (v_var (i := 3) rfl (by first | exact .inl rfl | exact .inr (.inl rfl) | exact .inr (.inr rfl))) a_nil)))))
      (b_cons (s_setComp (i := 6) (sc := defScope s_law) (own := [("_law_row", 16)]) rfl sc_law.nd rfl rfl (sw_true rfl rfl rfl (by decide +kernel)) (by rfl) (blkOk_by (N := N_law) (sc := defScope s_law) (own := [("_law_row", 16)]) (by decide +kernel)) (by decide) (i_any (v_var (i := 5) rfl (by first | exact .inl rfl | exact .inr (.inl rfl) | exact .inr (.inr rfl)))) (fun _ _ _ _ _ => (g_name (i := 16) sc_law.nd rfl (by first | exact .inl rfl | exact .inr rfl))) (fun _ _ _ _ _ => ts_nil) (fun _ _ _ _ _ => (v_comp (sc := relS _ (defScope s_law)) (own := [("_law_coin", 17)]) rfl sc_law.nd (by rfl) (blkOk_by (N := N_law) (sc := relS _ (defScope s_law)) (own := [("_law_coin", 17)]) (by decide +kernel)) (by decide) (i_any (v_var (i := 16) rfl (by first | exact .inl rfl | exact .inr (.inl rfl) | exact .inr (.inr rfl)))) (fun _ _ _ _ _ => (g_name (i := 17) sc_law.nd rfl (by first | exact .inl rfl | exact .inr rfl))) (fun _ _ _ _ _ => ts_nil) (fun _ _ _ _ _ => (v_var (i := 17) rfl (by first | exact .inl rfl | exact .inr (.inl rfl) | exact .inr (.inr rfl)))))))
      (b_cons (s_set (i := 7) sc_law.nd rfl (by first | exact .inl rfl | exact .inr rfl) (v_call (md := [false, false, false]) T.ok_fresh_table (hr.mono (by decide)) rfl T.g_fresh_table T.F_fresh_table.kp T.bd_fresh_table passN (a_cons (v_var (i := 2) rfl (by first | exact .inl rfl | exact .inr (.inl rfl) | exact .inr (.inr rfl))) (a_cons (v_var (i := 4) rfl (by first | exact .inl rfl | exact .inr (.inl rfl) | exact .inr (.inr rfl))) (a_cons (v_var (i := 5) rfl (by first | exact .inl rfl | exact .inr (.inl rfl) | exact .inr (.inr rfl))) a_nil)))))
      (b_cons (s_if (VW.t (w_or (t_not (t_tru (v_isi rfl T.b_isinstance (a_cons (v_var (i := 7) rfl (by first | exact .inl rfl | exact .inr (.inl rfl) | exact .inr (.inr rfl))) (a_cons (v_ty rfl T.b_list (by decide +kernel)) a_nil))))) (w_or (t_ne (u64 hr) (v_len rfl T.b_len (a_cons (v_var (i := 7) rfl (by first | exact .inl rfl | exact .inr (.inl rfl) | exact .inr (.inr rfl))) a_nil)) (v_len rfl T.b_len (a_cons (v_var (i := 4) rfl (by first | exact .inl rfl | exact .inr (.inl rfl) | exact .inr (.inr rfl))) a_nil))) (w_or1 (t_ne (u64 hr) (v_var (i := 5) rfl (by first | exact .inl rfl | exact .inr (.inl rfl) | exact .inr (.inr rfl))) (v_var (i := 6) rfl (by first | exact .inl rfl | exact .inr (.inl rfl) | exact .inr (.inr rfl)))))))) (b_one (s_ret v_bl)) b_nil)
      (b_cons (s_for PassesOwn.never rfl (i_rng1 rfl T.b_range (a_cons (v_len rfl T.b_len (a_cons (v_var (i := 4) rfl (by first | exact .inl rfl | exact .inr (.inl rfl) | exact .inr (.inr rfl))) a_nil)) a_nil)) (g_name (i := 8) sc_law.nd rfl (by first | exact .inl rfl | exact .inr rfl)) (b_cons (s_if (VW.t (w_or (t_not (t_tru (v_callB T.ok__law_right (hr.mono (by decide)) rfl T.g__law_right T.F__law_right.kp T.bd__law_right passN (a_cons (v_var (i := 2) rfl (by first | exact .inl rfl | exact .inr (.inl rfl) | exact .inr (.inr rfl))) (a_cons (v_ix (v_var (i := 4) rfl (by first | exact .inl rfl | exact .inr (.inl rfl) | exact .inr (.inr rfl))) (v_var (i := 8) rfl (by first | exact .inl rfl | exact .inr (.inl rfl) | exact .inr (.inr rfl))) (fun _ _ => rfl)) (a_cons (v_ix (v_var (i := 5) rfl (by first | exact .inl rfl | exact .inr (.inl rfl) | exact .inr (.inr rfl))) (v_var (i := 8) rfl (by first | exact .inl rfl | exact .inr (.inl rfl) | exact .inr (.inr rfl))) (fun _ _ => rfl)) (a_cons (v_ix (v_var (i := 7) rfl (by first | exact .inl rfl | exact .inr (.inl rfl) | exact .inr (.inr rfl))) (v_var (i := 8) rfl (by first | exact .inl rfl | exact .inr (.inl rfl) | exact .inr (.inr rfl))) (fun _ _ => rfl)) a_nil))))))) (w_or1 (t_ne (u64 hr) (v_ix (v_var (i := 7) rfl (by first | exact .inl rfl | exact .inr (.inl rfl) | exact .inr (.inr rfl))) (v_var (i := 8) rfl (by first | exact .inl rfl | exact .inr (.inl rfl) | exact .inr (.inr rfl))) (fun _ _ => rfl)) (v_call (md := [false, false, false]) T.ok_split (hr.mono (by decide)) rfl T.g_split T.F_split.kp T.bd_split passN (a_cons (v_var (i := 2) rfl (by first | exact .inl rfl | exact .inr (.inl rfl) | exact .inr (.inr rfl))) (a_cons (v_ix (v_var (i := 4) rfl (by first | exact .inl rfl | exact .inr (.inl rfl) | exact .inr (.inr rfl))) (v_var (i := 8) rfl (by first | exact .inl rfl | exact .inr (.inl rfl) | exact .inr (.inr rfl))) (fun _ _ => rfl)) (a_cons (v_ix (v_var (i := 5) rfl (by first | exact .inl rfl | exact .inr (.inl rfl) | exact .inr (.inr rfl))) (v_var (i := 8) rfl (by first | exact .inl rfl | exact .inr (.inl rfl) | exact .inr (.inr rfl))) (fun _ _ => rfl)) a_nil)))))))) (b_one (s_ret v_bl)) b_nil)
      (b_one (s_if (t_ne (u64 hr) (v_callB T.ok_join (hr.mono (by decide)) rfl T.g_join T.F_join.kp T.bd_join passN (a_cons (v_var (i := 2) rfl (by first | exact .inl rfl | exact .inr (.inl rfl) | exact .inr (.inr rfl))) (a_cons (v_ix (v_var (i := 7) rfl (by first | exact .inl rfl | exact .inr (.inl rfl) | exact .inr (.inr rfl))) (v_var (i := 8) rfl (by first | exact .inl rfl | exact .inr (.inl rfl) | exact .inr (.inr rfl))) (fun _ _ => rfl)) a_nil))) (v_ix (v_var (i := 4) rfl (by first | exact .inl rfl | exact .inr (.inl rfl) | exact .inr (.inr rfl))) (v_var (i := 8) rfl (by first | exact .inl rfl | exact .inr (.inl rfl) | exact .inr (.inr rfl))) (fun _ _ => rfl))) (b_one (s_ret v_bl)) b_nil))))
      (b_cons (s_if (t_ne (u64 hr) (v_call (md := [false, false]) T.ok_values_of (hr.mono (by decide)) rfl T.g_values_of T.F_values_of.kp T.bd_values_of passN (a_cons (v_var (i := 2) rfl (by first | exact .inl rfl | exact .inr (.inl rfl) | exact .inr (.inr rfl))) (a_cons (v_var (i := 7) rfl (by first | exact .inl rfl | exact .inr (.inl rfl) | exact .inr (.inr rfl))) a_nil))) (v_var (i := 4) rfl (by first | exact .inl rfl | exact .inr (.inl rfl) | exact .inr (.inr rfl)))) (b_one (s_ret v_bl)) b_nil)
      (b_cons (s_set (i := 9) sc_law.nd rfl (by first | exact .inl rfl | exact .inr rfl) (v_call (md := [true, false]) T.ok__law_draw (hr.mono (by decide)) rfl T.g__law_draw T.F__law_draw.kp T.bd__law_draw passN (a_cons (v_var (i := 1) rfl (by first | exact .inl rfl | exact .inr (.inl rfl) | exact .inr (.inr rfl))) (a_cons (v_addI (v_var (i := 3) rfl (by first | exact .inl rfl | exact .inr (.inl rfl) | exact .inr (.inr rfl))) v_int) a_nil))))
      (b_cons (s_if (t_ne (u64 hr) (v_call (md := [false, false]) T.ok_column (hr.mono (by decide)) rfl T.g_column T.F_column.kp T.bd_column passN (a_cons (v_var (i := 7) rfl (by first | exact .inl rfl | exact .inr (.inl rfl) | exact .inr (.inr rfl))) (a_cons (v_var (i := 9) rfl (by first | exact .inl rfl | exact .inr (.inl rfl) | exact .inr (.inr rfl))) a_nil))) (v_comp (sc := defScope s_law) (own := [("_law_row", 16)]) rfl sc_law.nd (by rfl) (blkOk_by (N := N_law) (sc := defScope s_law) (own := [("_law_row", 16)]) (by decide +kernel)) (by decide) (i_any (v_var (i := 7) rfl (by first | exact .inl rfl | exact .inr (.inl rfl) | exact .inr (.inr rfl)))) (fun _ _ _ _ _ => (g_name (i := 16) sc_law.nd rfl (by first | exact .inl rfl | exact .inr rfl))) (fun _ _ _ _ _ => ts_nil) (fun _ _ _ _ _ => (v_ix (v_var (i := 16) rfl (by first | exact .inl rfl | exact .inr (.inl rfl) | exact .inr (.inr rfl))) (v_var (i := 9) rfl (by first | exact .inl rfl | exact .inr (.inl rfl) | exact .inr (.inr rfl))) (fun _ _ => rfl))))) (b_one (s_ret v_bl)) b_nil)
      (b_cons (s_set (i := 10) sc_law.nd rfl (by first | exact .inl rfl | exact .inr rfl) (v_call (md := [true, false]) T.ok__law_numbers (hr.mono (by decide)) rfl T.g__law_numbers T.F__law_numbers.kp T.bd__law_numbers passN (a_cons (v_var (i := 1) rfl (by first | exact .inl rfl | exact .inr (.inl rfl) | exact .inr (.inr rfl))) (a_cons (v_len rfl T.b_len (a_cons (v_var (i := 4) rfl (by first | exact .inl rfl | exact .inr (.inl rfl) | exact .inr (.inr rfl))) a_nil)) a_nil))))
      (b_cons (s_setComp (i := 11) (sc := defScope s_law) (own := [("_law_row", 16)]) rfl sc_law.nd rfl rfl (sw_true rfl rfl rfl (by decide +kernel)) (by rfl) (blkOk_by (N := N_law) (sc := defScope s_law) (own := [("_law_row", 16)]) (by decide +kernel)) (by decide) (i_any (v_var (i := 7) rfl (by first | exact .inl rfl | exact .inr (.inl rfl) | exact .inr (.inr rfl)))) (fun _ _ _ _ _ => (g_name (i := 16) sc_law.nd rfl (by first | exact .inl rfl | exact .inr rfl))) (fun _ _ _ _ _ => ts_nil) (fun _ _ _ _ _ => (v_comp (sc := relS _ (defScope s_law)) (own := [("_law_share", 18)]) rfl sc_law.nd (by rfl) (blkOk_by (N := N_law) (sc := relS _ (defScope s_law)) (own := [("_law_share", 18)]) (by decide +kernel)) (by decide) (i_any (v_var (i := 16) rfl (by first | exact .inl rfl | exact .inr (.inl rfl) | exact .inr (.inr rfl)))) (fun _ _ _ _ _ => (g_name (i := 18) sc_law.nd rfl (by first | exact .inl rfl | exact .inr rfl))) (fun _ _ _ _ _ => ts_nil) (fun _ _ _ _ _ => (v_var (i := 18) rfl (by first | exact .inl rfl | exact .inr (.inl rfl) | exact .inr (.inr rfl)))))))
      (b_cons (s_set (i := 12) sc_law.nd rfl (by first | exact .inl rfl | exact .inr rfl) (v_call (md := [false, false, false, false]) T.ok_changed_table (hr.mono (by decide)) rfl T.g_changed_table T.F_changed_table.kp T.bd_changed_table passN (a_cons (v_var (i := 2) rfl (by first | exact .inl rfl | exact .inr (.inl rfl) | exact .inr (.inr rfl))) (a_cons (v_var (i := 7) rfl (by first | exact .inl rfl | exact .inr (.inl rfl) | exact .inr (.inr rfl))) (a_cons (v_var (i := 9) rfl (by first | exact .inl rfl | exact .inr (.inl rfl) | exact .inr (.inr rfl))) (a_cons (v_var (i := 10) rfl (by first | exact .inl rfl | exact .inr (.inl rfl) | exact .inr (.inr rfl))) a_nil))))))
      (b_cons (s_if (VW.t (w_or (t_ne (u64 hr) (v_var (i := 7) rfl (by first | exact .inl rfl | exact .inr (.inl rfl) | exact .inr (.inr rfl))) (v_var (i := 11) rfl (by first | exact .inl rfl | exact .inr (.inl rfl) | exact .inr (.inr rfl)))) (w_or (t_not (t_tru (v_isi rfl T.b_isinstance (a_cons (v_var (i := 12) rfl (by first | exact .inl rfl | exact .inr (.inl rfl) | exact .inr (.inr rfl))) (a_cons (v_ty rfl T.b_list (by decide +kernel)) a_nil))))) (w_or1 (t_ne (u64 hr) (v_len rfl T.b_len (a_cons (v_var (i := 12) rfl (by first | exact .inl rfl | exact .inr (.inl rfl) | exact .inr (.inr rfl))) a_nil)) (v_len rfl T.b_len (a_cons (v_var (i := 4) rfl (by first | exact .inl rfl | exact .inr (.inl rfl) | exact .inr (.inr rfl))) a_nil))))))) (b_one (s_ret v_bl)) b_nil)
      (b_cons (s_for PassesOwn.never rfl (i_rng1 rfl T.b_range (a_cons (v_len rfl T.b_len (a_cons (v_var (i := 4) rfl (by first | exact .inl rfl | exact .inr (.inl rfl) | exact .inr (.inr rfl))) a_nil)) a_nil)) (g_name (i := 8) sc_law.nd rfl (by first | exact .inl rfl | exact .inr rfl)) (b_cons (s_setComp (i := 13) (sc := defScope s_law) (own := [("_law_share", 18)]) rfl sc_law.nd rfl rfl (sw_true rfl rfl rfl (by decide +kernel)) (by rfl) (blkOk_by (N := N_law) (sc := defScope s_law) (own := [("_law_share", 18)]) (by decide +kernel)) (by decide) (i_any (v_ix (v_var (i := 11) rfl (by first | exact .inl rfl | exact .inr (.inl rfl) | exact .inr (.inr rfl))) (v_var (i := 8) rfl (by first | exact .inl rfl | exact .inr (.inl rfl) | exact .inr (.inr rfl))) (fun _ _ => rfl))) (fun _ _ _ _ _ => (g_name (i := 18) sc_law.nd rfl (by first | exact .inl rfl | exact .inr rfl))) (fun _ _ _ _ _ => ts_nil) (fun _ _ _ _ _ => (v_var (i := 18) rfl (by first | exact .inl rfl | exact .inr (.inl rfl) | exact .inr (.inr rfl)))))
      (b_cons (s_setIx (j := 13) rfl (by first | exact .inl rfl | exact .inr (.inl rfl) | exact .inr (.inr rfl)) (v_var (i := 9) rfl (by first | exact .inl rfl | exact .inr (.inl rfl) | exact .inr (.inr rfl))) (v_mod (v_callInt rfl T.b_int (a_cons (v_addI (v_ix (v_var (i := 13) rfl (by first | exact .inl rfl | exact .inr (.inl rfl) | exact .inr (.inr rfl))) (v_var (i := 9) rfl (by first | exact .inl rfl | exact .inr (.inl rfl) | exact .inr (.inr rfl))) (fun _ _ => rfl)) (v_ix (v_var (i := 10) rfl (by first | exact .inl rfl | exact .inr (.inl rfl) | exact .inr (.inr rfl))) (v_var (i := 8) rfl (by first | exact .inl rfl | exact .inr (.inl rfl) | exact .inr (.inr rfl))) (fun _ _ => rfl))) a_nil)) (v_var (i := 2) rfl (by first | exact .inl rfl | exact .inr (.inl rfl) | exact .inr (.inr rfl)))) (fun ho hi => pg_sub ho hi set_list))
      (b_one (s_if (VW.t (w_or (t_not (t_tru (v_callB T.ok__law_are_values (hr.mono (by decide)) rfl T.g__law_are_values T.F__law_are_values.kp T.bd__law_are_values passN (a_cons (v_ix (v_var (i := 12) rfl (by first | exact .inl rfl | exact .inr (.inl rfl) | exact .inr (.inr rfl))) (v_var (i := 8) rfl (by first | exact .inl rfl | exact .inr (.inl rfl) | exact .inr (.inr rfl))) (fun _ _ => rfl)) (a_cons (v_var (i := 2) rfl (by first | exact .inl rfl | exact .inr (.inl rfl) | exact .inr (.inr rfl))) a_nil))))) (w_or1 (t_ne (u64 hr) (v_ix (v_var (i := 12) rfl (by first | exact .inl rfl | exact .inr (.inl rfl) | exact .inr (.inr rfl))) (v_var (i := 8) rfl (by first | exact .inl rfl | exact .inr (.inl rfl) | exact .inr (.inr rfl))) (fun _ _ => rfl)) (v_var (i := 13) rfl (by first | exact .inl rfl | exact .inr (.inl rfl) | exact .inr (.inr rfl))))))) (b_one (s_ret v_bl)) b_nil)))))
      (b_one (s_ret v_bl))))))))))))))))))))
end
abbrev PR : Program := PySem.W.OpenLaw.prog PySem.Challenge.rw_veilcount_k02_splits_are_joined_back
theorem ob_eq (s : PySem.W.SharedT) : ob s = hk.obs s.abs := He.obsDG_eq (HandSHeadRun.getT_eq s)
theorem facts {K : PySem.W.Frag} {h : Heap} {mg : Str → Option Value} (X : K.In h) (G : h.Ns mainGlobals mg) (c : He.SaysD fa fn K) : Nonempty (Tx PR K mg) := by
  obtain ⟨fd_total, F_total⟩ := c.def_ 0 (d := D_total) rfl
  obtain ⟨fd_split, F_split⟩ := c.def_ 1 (d := D_split) rfl
  obtain ⟨fd_join, F_join⟩ := c.def_ 2 (d := D_join) rfl
  obtain ⟨fd_fresh_table, F_fresh_table⟩ := c.def_ 3 (d := D_fresh_table) rfl
  obtain ⟨fd_values_of, F_values_of⟩ := c.def_ 4 (d := D_values_of) rfl
  obtain ⟨fd_column, F_column⟩ := c.def_ 5 (d := D_column) rfl
  obtain ⟨fd_changed_table, F_changed_table⟩ := c.def_ 6 (d := D_changed_table) rfl
  obtain ⟨fd__law_cell, F__law_cell⟩ := c.def_ 7 (d := D__law_cell) rfl
  obtain ⟨fd__law_digits, F__law_digits⟩ := c.def_ 8 (d := D__law_digits) rfl
  obtain ⟨fd__law_draw, F__law_draw⟩ := c.def_ 9 (d := D__law_draw) rfl
  obtain ⟨fd__law_prime, F__law_prime⟩ := c.def_ 10 (d := D__law_prime) rfl
  obtain ⟨fd__law_numbers, F__law_numbers⟩ := c.def_ 11 (d := D__law_numbers) rfl
  obtain ⟨fd__law_order, F__law_order⟩ := c.def_ 12 (d := D__law_order) rfl
  obtain ⟨fd__law_is_int, F__law_is_int⟩ := c.def_ 13 (d := D__law_is_int) rfl
  obtain ⟨fd__law_are_values, F__law_are_values⟩ := c.def_ 14 (d := D__law_are_values) rfl
  obtain ⟨fd__law_right, F__law_right⟩ := c.def_ 15 (d := D__law_right) rfl
  obtain ⟨fd_law, F_law⟩ := c.def_ 16 (d := D_law) rfl
  exact ⟨{ b_bool := He.free_ok X G (c.fact 17 (f := .free "bool") rfl), b_int := He.free_ok X G (c.fact 18 (f := .free "int") rfl), b_isinstance := He.free_ok X G (c.fact 19 (f := .free "isinstance") rfl), b_len := He.free_ok X G (c.fact 20 (f := .free "len") rfl), b_list := He.free_ok X G (c.fact 21 (f := .free "list") rfl), b_range := He.free_ok X G (c.fact 22 (f := .free "range") rfl), b_sum := He.free_ok X G (c.fact 23 (f := .free "sum") rfl), b_zip := He.free_ok X G (c.fact 24 (f := .free "zip") rfl), a_total := _, fd_total := fd_total, F_total := F_total, g_total := He.glo_ok X G (c.fact 0 (f := .glo "total") rfl), a_split := _, fd_split := fd_split, F_split := F_split, g_split := He.glo_ok X G (c.fact 1 (f := .glo "split") rfl), a_join := _, fd_join := fd_join, F_join := F_join, g_join := He.glo_ok X G (c.fact 2 (f := .glo "join") rfl), a_fresh_table := _, fd_fresh_table := fd_fresh_table, F_fresh_table := F_fresh_table, g_fresh_table := He.glo_ok X G (c.fact 3 (f := .glo "fresh_table") rfl), a_values_of := _, fd_values_of := fd_values_of, F_values_of := F_values_of, g_values_of := He.glo_ok X G (c.fact 4 (f := .glo "values_of") rfl), a_column := _, fd_column := fd_column, F_column := F_column, g_column := He.glo_ok X G (c.fact 5 (f := .glo "column") rfl), a_changed_table := _, fd_changed_table := fd_changed_table, F_changed_table := F_changed_table, g_changed_table := He.glo_ok X G (c.fact 6 (f := .glo "changed_table") rfl), a__law_cell := _, fd__law_cell := fd__law_cell, F__law_cell := F__law_cell, g__law_cell := He.glo_ok X G (c.fact 7 (f := .glo "_law_cell") rfl), a__law_digits := _, fd__law_digits := fd__law_digits, F__law_digits := F__law_digits, g__law_digits := He.glo_ok X G (c.fact 8 (f := .glo "_law_digits") rfl), a__law_draw := _, fd__law_draw := fd__law_draw, F__law_draw := F__law_draw, g__law_draw := He.glo_ok X G (c.fact 9 (f := .glo "_law_draw") rfl), a__law_prime := _, fd__law_prime := fd__law_prime, F__law_prime := F__law_prime, g__law_prime := He.glo_ok X G (c.fact 10 (f := .glo "_law_prime") rfl), a__law_numbers := _, fd__law_numbers := fd__law_numbers, F__law_numbers := F__law_numbers, g__law_numbers := He.glo_ok X G (c.fact 11 (f := .glo "_law_numbers") rfl), a__law_order := _, fd__law_order := fd__law_order, F__law_order := F__law_order, g__law_order := He.glo_ok X G (c.fact 12 (f := .glo "_law_order") rfl), a__law_is_int := _, fd__law_is_int := fd__law_is_int, F__law_is_int := F__law_is_int, g__law_is_int := He.glo_ok X G (c.fact 13 (f := .glo "_law_is_int") rfl), a__law_are_values := _, fd__law_are_values := fd__law_are_values, F__law_are_values := F__law_are_values, g__law_are_values := He.glo_ok X G (c.fact 14 (f := .glo "_law_are_values") rfl), a__law_right := _, fd__law_right := fd__law_right, F__law_right := F__law_right, g__law_right := He.glo_ok X G (c.fact 15 (f := .glo "_law_right") rfl), a_law := _, fd_law := fd_law, F_law := F_law, g_law := He.glo_ok X G (c.fact 16 (f := .glo "law") rfl) }⟩
end V
open PySem PySem.W PySem.Calls PyProof.Rows
theorem PySem.Challenge.cw_veilcount_k02_splits_are_joined_back_holds : PySem.Challenge.rw_veilcount_k02_splits_are_joined_back.Holds := by
  w_on; o_law
  refine HandSHeadRun.head_any (r := OpenLaw.row PySem.Challenge.rw_veilcount_k02_splits_are_joined_back) (q := view (OpenLaw.row PySem.Challenge.rw_veilcount_k02_splits_are_joined_back).prog [19]) (H := V.hk) (ob := V.ob) (M := 2000) (loose := V.loose) (d := HandSHeadRun.topDef (OpenLaw.row PySem.Challenge.rw_veilcount_k02_splits_are_joined_back).prog 19) (kwd := []) V.ob_eq
    (by kernel_rfl) (fun s => by kernel_rfl) V.run (by kernel_rfl) (by kernel_rfl) (by kernel_rfl) (by rfl) (by first | assumption | decide +kernel) (by decide +kernel) ⟨rfl, rfl, rfl, rfl, rfl, by decide +kernel⟩ ?hw ?hc
  case hw => w_witness2
  case hc =>
    refine L2.walk_ofE (l := PySem.Challenge.rw_veilcount_k02_splits_are_joined_back) (n := 63) (k := 4) (x := "_law_script") (CX := L2.CX0) rfl (by decide) (by kernel_rfl) ⟨rfl, by decide, by decide⟩ ?F (fun _ _ _ _ z => z)
    intro w mg fa h Y G hmg0
    obtain ⟨K, KX, c⟩ := Y
    have hmg : mg ("law" : PySem.Str) = some (.ref fa) := by
      have e : (HandSHeadRun.topDef (OpenLaw.row PySem.Challenge.rw_veilcount_k02_splits_are_joined_back).prog 19).name = ("law" : PySem.Str) := by kernel_rfl
      rw [← e]
      exact hmg0
    obtain ⟨T⟩ := V.facts KX G c
    have e := hmg.symm.trans T.g_law
    cases e
    have b := L2.FunD.bindsA (ps := ["_law_script"]) T.F_law fun _ _ _ _ _ _ us hl => match us, hl with | [_], _ => rfl
    exact ⟨K, T.fd_law, _, KX, fun s v => b s [v] rfl, fun H a ns hl _ hS => VF.law_sp (V.law_pure ns) hS, fun base _ _ => T.ok_law⟩
