import PyProof.Rows.All
import Wide.All
import OpenK.AllK
import Wide.FinOn
import HandS.HeadHook2
import HandS.HeadHook4
import HandS.ExcOwn
import HandS.ExcInit
import HandS.Head2
import HandS.ExcIs
import KE.KExcIs
import HandS.ForMost
import HandS.IsInst
import HandS.Defaults
import HandS.Deep
import HandS.SortInts
import HandS.Conv
import HandS.Style
import KE.DataEq
import HandS.ExcField
import HandS.Nested
import HandS.FStr
import KE.KExcSuper
import HandS.Zip
import KE.LtSeq
import HandS.CallSlots
import KE.SortData
import KE.DataFind
import HandS.SetFor
import HandS.Strs
import HandS.Text
import PyProof.StrBlock2
import HandS.Flow
import HandS.ReSub
import HandS.MakeKwOnly
import KE.KEqDict
import HandS.TupSets
import HandS.SetKeys
import HandS.NoneIn
import KE.KStateDown
import HandS.More
import HandS.WordsExc
import HandS.Head0
import HandS.Head1
import HandS.HeadEnd
import HandS.HeadHook1
import PySem.Challenge.RW_veilcount_k57_whole_audits_that_pass
set_option Elab.async false
set_option linter.all false
set_option maxRecDepth 100000
set_option maxRecDepth 100000
set_option maxHeartbeats 4000000
namespace VF
set_option autoImplicit false
open PySem PySem.Spec PyProof.Rows L2
abbrev FnZ : Type := Option (Str × Str × Arguments × FuncBody × Scope × Addr × List Str × Addr)
def iniAt (K : PySem.W.Frag) (x : Str) : Addr := match PySem.W.findIn K (.ref (He.ga K x)) "__init__" with
  | some (some (.ref f)) => f
  | _ => 0
def fnZ (K : PySem.W.Frag) (a : Addr) : FnZ := match K.lookup a with
  | some ⟨_, _, .func fd, _⟩ => some (fd.name, fd.qualname, fd.params, fd.body, fd.scope, fd.globals, fd.closure.map (·.1), fd.builtins)
  | _ => none
structure IniD where
  cls : Str
  qual : Str
  params : Arguments
  body : List Stmt
  scope : Scope
def IniD.val (d : IniD) : FnZ := some ("__init__", d.qual, d.params, .stmts d.body, d.scope, mainGlobals, ["__class__"], builtinsNs)
structure SaysZ (fa : List He.Fa) (fn : List He.DefD) (ex : PySem.W.Frag → Bool) (ini : List IniD) (K : PySem.W.Frag) : Prop where
  d : He.SaysD fa fn K
  more : ex K = true
  ini : (ini.map fun d => fnZ K (iniAt K d.cls)) = ini.map IniD.val
theorem SaysZ.at {fa : List He.Fa} {fn : List He.DefD} {ex : PySem.W.Frag → Bool} {ini : List IniD} {K : PySem.W.Frag} (c : SaysZ fa fn ex ini K) (i : Nat) {d : IniD} (h : ini[i]? = some d := by rfl) : fnZ K (iniAt K d.cls) = d.val := by
  have e2 : (ini.map fun d => fnZ K (iniAt K d.cls))[i]? = (ini.map IniD.val)[i]? := by rw [c.ini]
  rw [List.getElem?_map, List.getElem?_map, h] at e2
  exact Option.some.inj e2
theorem runEq_of {r : PySem.W.OpenRow} {q : Program} {H : PySem.W.Hook} {ob : PySem.W.SharedT → H.α} {M : Nat} {loose : List Str} {w : World}
    (h1 : ∀ os : OsState, (HandSHeadRun.endF (HandSHeadRun.stepQ (HandSHeadRun.denQ HandSHeadRun.tabQ) r.prog w) M r.prog w os).map (fun s => HandSHeadRun.looksF r.prog (PySem.W.boot_heap w.params) s.abs) = some true)
    (h2 : ∀ os : OsState, (HandSHeadRun.endF (HandSHeadRun.stepQ (HandSHeadRun.denQ HandSHeadRun.tabQ) r.prog w) M r.prog w os).map (fun s => HandSHeadRun.seenQ q loose (importedModules r.prog.main.body) (fun s => PySem.W.xlAt q [] s && PySem.W.recOk r.toRowW.records s) s.abs) = some (PySem.W.openGood q loose))
    (h3 : ∀ os : OsState, (HandSHeadRun.endF (HandSHeadRun.stepQ (HandSHeadRun.denQ HandSHeadRun.tabQ) r.prog w) M r.prog w os).map ob = some (H.val w)) : HandSHeadRun.RunEq r q H ob M loose w := by
  intro os
  have a1 := h1 os
  have a2 := h2 os
  have a3 := h3 os
  cases z : HandSHeadRun.endF (HandSHeadRun.stepQ (HandSHeadRun.denQ HandSHeadRun.tabQ) r.prog w) M r.prog w os with
  | none => rw [z] at a1; cases a1
  | some s =>
    rw [z] at a1 a2 a3
    rw [Option.map_some] at a1 a2 a3
    rw [Option.map_some, Option.some.inj a1, Option.some.inj a2, Option.some.inj a3]
end VF
set_option maxHeartbeats 0
namespace V
open PySem PySem.Spec PyProof.Rows L2 VF
def top (i : Nat) : Stmt := PySem.Challenge.pw_veilcount_k57_whole_audits_that_pass.main.body.getD i (.Pass ⟨0, 0, 0, 0⟩)
abbrev s_opened_claims : Stmt := top 3
abbrev s_caught : Stmt := top 4
abbrev s_coins_of_number : Stmt := top 5
abbrev s_passing_plainly : Stmt := top 6
abbrev s_links_of : Stmt := top 7
abbrev s_joined_parts : Stmt := top 8
abbrev s_parts_of : Stmt := top 9
abbrev s_passing_in : Stmt := top 10
abbrev s_passing : Stmt := top 11
abbrev s__law_cell : Stmt := top 13
abbrev s__law_row : Stmt := top 14
abbrev s__law_box : Stmt := top 15
abbrev s__law_draw : Stmt := top 16
abbrev s__law_same : Stmt := top 17
abbrev s__law_claim : Stmt := top 18
abbrev s__law_free : Stmt := top 19
abbrev s_law : Stmt := top 20
def D_opened_claims : He.DefD := ⟨("opened_claims", none), "opened_claims", "opened_claims", defArgs s_opened_claims, defBody s_opened_claims, defScope s_opened_claims, [], []⟩
def D_caught : He.DefD := ⟨("caught", none), "caught", "caught", defArgs s_caught, defBody s_caught, defScope s_caught, [], []⟩
def D_coins_of_number : He.DefD := ⟨("coins_of_number", none), "coins_of_number", "coins_of_number", defArgs s_coins_of_number, defBody s_coins_of_number, defScope s_coins_of_number, [], []⟩
def D_passing_plainly : He.DefD := ⟨("passing_plainly", none), "passing_plainly", "passing_plainly", defArgs s_passing_plainly, defBody s_passing_plainly, defScope s_passing_plainly, [], []⟩
def D_links_of : He.DefD := ⟨("links_of", none), "links_of", "links_of", defArgs s_links_of, defBody s_links_of, defScope s_links_of, [], []⟩
def D_joined_parts : He.DefD := ⟨("joined_parts", none), "joined_parts", "joined_parts", defArgs s_joined_parts, defBody s_joined_parts, defScope s_joined_parts, [], []⟩
def D_parts_of : He.DefD := ⟨("parts_of", none), "parts_of", "parts_of", defArgs s_parts_of, defBody s_parts_of, defScope s_parts_of, [], []⟩
def D_passing_in : He.DefD := ⟨("passing_in", none), "passing_in", "passing_in", defArgs s_passing_in, defBody s_passing_in, defScope s_passing_in, [], []⟩
def D_passing : He.DefD := ⟨("passing", none), "passing", "passing", defArgs s_passing, defBody s_passing, defScope s_passing, [], []⟩
def D__law_cell : He.DefD := ⟨("_law_cell", none), "_law_cell", "_law_cell", defArgs s__law_cell, defBody s__law_cell, defScope s__law_cell, [], []⟩
def D__law_row : He.DefD := ⟨("_law_row", none), "_law_row", "_law_row", defArgs s__law_row, defBody s__law_row, defScope s__law_row, [], []⟩
def D__law_box : He.DefD := ⟨("_law_box", none), "_law_box", "_law_box", defArgs s__law_box, defBody s__law_box, defScope s__law_box, [], []⟩
def D__law_draw : He.DefD := ⟨("_law_draw", none), "_law_draw", "_law_draw", defArgs s__law_draw, defBody s__law_draw, defScope s__law_draw, [], []⟩
def D__law_same : He.DefD := ⟨("_law_same", none), "_law_same", "_law_same", defArgs s__law_same, defBody s__law_same, defScope s__law_same, [], []⟩
def D__law_claim : He.DefD := ⟨("_law_claim", none), "_law_claim", "_law_claim", defArgs s__law_claim, defBody s__law_claim, defScope s__law_claim, [], []⟩
def D__law_free : He.DefD := ⟨("_law_free", none), "_law_free", "_law_free", defArgs s__law_free, defBody s__law_free, defScope s__law_free, [], []⟩
def D_law : He.DefD := ⟨("law", none), "law", "law", defArgs s_law, defBody s_law, defScope s_law, [], []⟩
def fn : List He.DefD := [D_opened_claims, D_caught, D_coins_of_number, D_passing_plainly, D_links_of, D_joined_parts, D_parts_of, D_passing_in, D_passing, D__law_cell, D__law_row, D__law_box, D__law_draw, D__law_same, D__law_claim, D__law_free, D_law]
def fa : List He.Fa := [.glo "opened_claims", .glo "caught", .glo "coins_of_number", .glo "passing_plainly", .glo "links_of", .glo "joined_parts", .glo "parts_of", .glo "passing_in", .glo "passing", .glo "_law_cell", .glo "_law_row", .glo "_law_box", .glo "_law_draw", .glo "_law_same", .glo "_law_claim", .glo "_law_free", .glo "law", .free "enumerate", .free "int", .free "len", .free "range", .free "repr", .free "set", .int "LEFT" 0, .int "RIGHT" 1]
abbrev R : PySem.W.OpenRow := PySem.W.OpenLaw.row PySem.Challenge.rw_veilcount_k57_whole_audits_that_pass
abbrev hk : PySem.W.Hook := He.hookD 4 fa fn
def ob (s : PySem.W.SharedT) : He.AlD := He.obsDG 4 fa fn (HandSHeadRun.getT s)
def loose : List Str := (["__name__", "LEFT", "RIGHT", "opened_claims", "caught", "coins_of_number", "passing_plainly", "links_of", "joined_parts", "parts_of", "passing_in", "passing", "_law_cell", "_law_row", "_law_box", "_law_draw", "_law_same", "_law_claim", "_law_free"] : List Str)
theorem run1 (w : World) : ∀ os : OsState, (HandSHeadRun.endF (HandSHeadRun.stepQ (HandSHeadRun.denQ HandSHeadRun.tabQ) R.prog w) 4000 R.prog w os).map (fun s => HandSHeadRun.looksF R.prog (PySem.W.boot_heap w.params) s.abs) = some true := by
  intro os
  kernel_rfl
theorem run2 (w : World) : ∀ os : OsState, (HandSHeadRun.endF (HandSHeadRun.stepQ (HandSHeadRun.denQ HandSHeadRun.tabQ) R.prog w) 4000 R.prog w os).map (fun s => HandSHeadRun.seenQ (PySem.W.view R.prog [20]) loose (importedModules R.prog.main.body) (fun s => PySem.W.xlAt (PySem.W.view R.prog [20]) [] s && PySem.W.recOk R.toRowW.records s) s.abs) = some (PySem.W.openGood (PySem.W.view R.prog [20]) loose) := by
  intro os
  kernel_rfl
theorem run3 (w : World) : ∀ os : OsState, (HandSHeadRun.endF (HandSHeadRun.stepQ (HandSHeadRun.denQ HandSHeadRun.tabQ) R.prog w) 4000 R.prog w os).map ob = some (hk.val w) := by
  intro os
  kernel_rfl
theorem run (w : World) : HandSHeadRun.RunEq R (PySem.W.view R.prog [20]) hk ob 4000 loose w := VF.runEq_of (run1 w) (run2 w) (run3 w)
end V
set_option maxHeartbeats 4000000
set_option maxRecDepth 100000
set_option maxHeartbeats 4000000
namespace VF
set_option autoImplicit false
open PySem PySem.Spec PyProof.Rows L2
inductive D where
  | non | bl (b : Bool) | int (i : Int) | str (s : Str) | ty (n : String)
  | lst (xs : List D) | tup (xs : List D) | dct (ks : List Key) (xs : List D) | obj (c : Str) (ns : List Str) (xs : List D)
  | scr (ns : List Int)
  | hl
  deriving Inhabited
inductive SV where
  | fz (d : D) | ol (xs : List SV) | oo (c : Str) (ns : List Str) (xs : List SV) | od (ks : List Key) (xs : List SV)
  deriving Inhabited
inductive AT where
  | fz (v : V) (d : D) | ol (p : Addr) (xs : List AT) | oo (p C dx : Addr) (c : Str) (ns : List Str) (xs : List AT) | od (p : Addr) (ks : List Key) (xs : List AT)
def AT.val : AT → V
  | .fz v _ => v
  | .ol p _ => .ref p
  | .oo p _ _ _ _ _ => .ref p
  | .od p _ _ => .ref p
mutual
def SV.toD : SV → D
  | .fz d => d
  | .ol xs => .lst (SV.toDs xs)
  | .oo c ns xs => .obj c ns (SV.toDs xs)
  | .od ks xs => .dct ks (SV.toDs xs)
def SV.toDs : List SV → List D
  | [] => []
  | x :: xs => SV.toD x :: SV.toDs xs
end
mutual
def AT.er : AT → SV
  | .fz _ d => .fz d
  | .ol _ xs => .ol (AT.ers xs)
  | .oo _ _ _ c ns xs => .oo c ns (AT.ers xs)
  | .od _ ks xs => .od ks (AT.ers xs)
def AT.ers : List AT → List SV
  | [] => []
  | x :: xs => AT.er x :: AT.ers xs
end
def vals (xs : List AT) : List V := xs.map AT.val
mutual
def AT.cells : AT → List (Addr × HO)
  | .fz _ _ => []
  | .ol p xs => (p, .lst (vals xs)) :: AT.cellsL xs
  | .oo p C dx _ ns xs => (p, .ins C dx (ns.zip (vals xs))) :: AT.cellsL xs
  | .od p ks xs => (p, .dK (ks.zip (vals xs))) :: AT.cellsL xs
def AT.cellsL : List AT → List (Addr × HO)
  | [] => []
  | x :: xs => AT.cells x ++ AT.cellsL xs
end
open AT (cells cellsL er ers)
section
variable (K : PySem.W.Frag) (mg : Str → Option Value)
mutual
def Rep (F : Hp) : V → D → Prop
  | v, .non => v = .non
  | v, .bl b => v = .bl b
  | v, .int i => v = .int i
  | v, .str s => v = .str s
  | v, .ty n => v = .ty n
  | v, .lst ds => ∃ p vs, v = .ref p ∧ F p = some (.lst vs) ∧ Reps F vs ds
  | v, .tup ds => ∃ p vs, v = .ref p ∧ SqT K F p vs ∧ Reps F vs ds
  | v, .dct ks ds => ∃ p vs, v = .ref p ∧ F p = some (.dK (ks.zip vs)) ∧ ks.length = vs.length ∧ Reps F vs ds
  | v, .obj c ns ds => ∃ p C dx vs, v = .ref p ∧ mg c = some (.ref C) ∧ F p = some (.ins C dx (ns.zip vs)) ∧ ns.length = vs.length ∧ Reps F vs ds
  | v, .scr ns => ∃ p, v = .ref p ∧ SqL K F p (ns.map V.int)
  | v, .hl => ∃ p, v = .ref p
def Reps (F : Hp) : List V → List D → Prop
  | [], [] => True
  | v :: vs, d :: ds => Rep F v d ∧ Reps F vs ds
  | _, _ => False
end
mutual
def Ok (F : Hp) : AT → Prop
  | .fz v d => Rep K mg F v d
  | .ol _ xs => Oks F xs
  | .oo _ C _ c ns xs => mg c = some (.ref C) ∧ ns.length = xs.length ∧ Oks F xs
  | .od _ ks xs => ks.length = xs.length ∧ Oks F xs
def Oks (F : Hp) : List AT → Prop
  | [] => True
  | x :: xs => Ok F x ∧ Oks F xs
end
structure Good (F H : Hp) (ts : List AT) : Prop where
  at_ : ∀ c ∈ cellsL ts, H c.1 = some c.2 ∧ F c.1 = none
  ok : Oks K mg F ts
  nd : ((cellsL ts).map (·.1)).Nodup
end
theorem SqT_same {K : PySem.W.Frag} {H H' : Hp} {a : Addr} {xs : List V} (e : Same H H') (h : SqT K H a xs) : SqT K H' a xs := by
  rcases h with h | h
  · rcases h with h | ⟨o, h⟩
    · exact .inl (.inl (e _ _ h))
    · exact .inl (.inr ⟨o, e _ _ h⟩)
  · exact .inr h
section
variable {K : PySem.W.Frag} {mg : Str → Option Value} {F F' H H' : Hp}
mutual
theorem Rep.same (s : Same F F') : ∀ {d : D} {v : V}, Rep K mg F v d → Rep K mg F' v d
  | .non, _, h => h
  | .bl _, _, h => h
  | .int _, _, h => h
  | .str _, _, h => h
  | .ty _, _, h => h
  | .lst ds, _, ⟨p, vs, e, h1, h2⟩ => ⟨p, vs, e, s _ _ h1, Reps.same s h2⟩
  | .tup ds, _, ⟨p, vs, e, h1, h2⟩ => ⟨p, vs, e, SqT_same s h1, Reps.same s h2⟩
  | .dct ks ds, _, ⟨p, vs, e, h1, h3, h2⟩ => ⟨p, vs, e, s _ _ h1, h3, Reps.same s h2⟩
  | .obj c ns ds, _, ⟨p, C, dx, vs, e, h0, h1, h3, h2⟩ => ⟨p, C, dx, vs, e, h0, s _ _ h1, h3, Reps.same s h2⟩
  | .scr ns, _, ⟨p, e, h1⟩ => ⟨p, e, s.seq h1⟩
  | .hl, _, h => h
theorem Reps.same (s : Same F F') : ∀ {ds : List D} {vs : List V}, Reps K mg F vs ds → Reps K mg F' vs ds
  | [], [], _ => trivial
  | _ :: _, _ :: _, ⟨h1, h2⟩ => ⟨Rep.same s h1, Reps.same s h2⟩
  | [], _ :: _, h => h.elim
  | _ :: _, [], h => h.elim
end
theorem Reps.length : ∀ {ds : List D} {vs : List V}, Reps K mg F vs ds → vs.length = ds.length
  | [], [], _ => rfl
  | _ :: _, _ :: _, ⟨_, h2⟩ => congrArg Nat.succ (Reps.length h2)
  | [], _ :: _, h => h.elim
  | _ :: _, [], h => h.elim
theorem Reps.get : ∀ {ds : List D} {vs : List V} {i : Nat} {d : D}, Reps K mg F vs ds → ds[i]? = some d → ∃ v, vs[i]? = some v ∧ Rep K mg F v d
  | d :: _, v :: _, 0, _, ⟨h1, _⟩, e => ⟨v, rfl, by cases e; exact h1⟩
  | _ :: ds, _ :: vs, i + 1, _, ⟨_, h2⟩, e => by
    obtain ⟨v, e1, e2⟩ := Reps.get (i := i) h2 (by simpa using e)
    exact ⟨v, by simpa using e1, e2⟩
  | [], _ :: _, _, _, h, _ => h.elim
  | _ :: _, [], _, _, h, _ => h.elim
  | [], [], _, _, _, e => by simp at e
theorem Reps.getV : ∀ {ds : List D} {vs : List V} {i : Nat} {v : V}, Reps K mg F vs ds → vs[i]? = some v → ∃ d, ds[i]? = some d ∧ Rep K mg F v d
  | d :: _, v :: _, 0, _, ⟨h1, _⟩, e => ⟨d, rfl, by cases e; exact h1⟩
  | _ :: ds, _ :: vs, i + 1, _, ⟨_, h2⟩, e => by
    obtain ⟨v, e1, e2⟩ := Reps.getV (i := i) h2 (by simpa using e)
    exact ⟨v, by simpa using e1, e2⟩
  | [], _ :: _, _, _, h, _ => h.elim
  | _ :: _, [], _, _, h, _ => h.elim
  | [], [], _, _, _, e => by simp at e
theorem Reps.append : ∀ {ds es : List D} {vs us : List V}, Reps K mg F vs ds → Reps K mg F us es → Reps K mg F (vs ++ us) (ds ++ es)
  | [], _, [], _, _, h => h
  | _ :: _, _, _ :: _, _, ⟨h1, h2⟩, h => ⟨h1, Reps.append h2 h⟩
  | [], _, _ :: _, _, h, _ => h.elim
  | _ :: _, _, [], _, h, _ => h.elim
theorem Reps.take (n : Nat) : ∀ {ds : List D} {vs : List V}, Reps K mg F vs ds → Reps K mg F (vs.take n) (ds.take n) := by
  induction n with
  | zero => intro ds vs _; simp only [List.take_zero]; trivial
  | succ n ih =>
    intro ds vs h
    cases ds with
    | nil => cases vs with
      | nil => trivial
      | cons _ _ => exact h.elim
    | cons d ds => cases vs with
      | nil => exact h.elim
      | cons v vs => exact ⟨h.1, ih h.2⟩
theorem Reps.drop (n : Nat) : ∀ {ds : List D} {vs : List V}, Reps K mg F vs ds → Reps K mg F (vs.drop n) (ds.drop n) := by
  induction n with
  | zero => intro ds vs h; simpa only [List.drop_zero] using h
  | succ n ih =>
    intro ds vs h
    cases ds with
    | nil => cases vs with
      | nil => trivial
      | cons _ _ => exact h.elim
    | cons d ds => cases vs with
      | nil => exact h.elim
      | cons v vs => exact ih h.2
theorem Reps.set {v : V} {d : D} (h0 : Rep K mg F v d) : ∀ {ds : List D} {vs : List V} (n : Nat), Reps K mg F vs ds → Reps K mg F (vs.set n v) (ds.set n d)
  | [], [], _, _ => trivial
  | _ :: _, _ :: _, 0, ⟨_, h2⟩ => ⟨h0, h2⟩
  | _ :: _, _ :: _, n + 1, ⟨h1, h2⟩ => ⟨h1, Reps.set h0 n h2⟩
  | [], _ :: _, _, h => h.elim
  | _ :: _, [], _, h => h.elim
mutual
theorem Ok.same (s : Same F F') : ∀ {t : AT}, Ok K mg F t → Ok K mg F' t
  | .fz _ _, h => Rep.same s h
  | .ol _ xs, h => Oks.same s h
  | .oo _ _ _ _ _ xs, ⟨h1, h2, h3⟩ => ⟨h1, h2, Oks.same s h3⟩
  | .od _ _ xs, ⟨h2, h3⟩ => ⟨h2, Oks.same s h3⟩
theorem Oks.same (s : Same F F') : ∀ {ts : List AT}, Oks K mg F ts → Oks K mg F' ts
  | [], _ => trivial
  | _ :: _, ⟨h1, h2⟩ => ⟨Ok.same s h1, Oks.same s h2⟩
end
theorem Oks.append : ∀ {ts us : List AT}, Oks K mg F (ts ++ us) ↔ Oks K mg F ts ∧ Oks K mg F us
  | [], us => ⟨fun h => ⟨trivial, h⟩, fun h => h.2⟩
  | t :: ts, us => by
    show (Ok K mg F t ∧ Oks K mg F (ts ++ us)) ↔ (Ok K mg F t ∧ Oks K mg F ts) ∧ Oks K mg F us
    rw [Oks.append (ts := ts)]
    exact ⟨fun ⟨a, b, c⟩ => ⟨⟨a, b⟩, c⟩, fun ⟨⟨a, b⟩, c⟩ => ⟨a, b, c⟩⟩
theorem Oks.mem : ∀ {ts : List AT}, Oks K mg F ts ↔ ∀ t ∈ ts, Ok K mg F t
  | [] => ⟨fun _ _ h => absurd h List.not_mem_nil, fun _ => trivial⟩
  | t :: ts => by
    show (Ok K mg F t ∧ Oks K mg F ts) ↔ _
    rw [Oks.mem (ts := ts), List.forall_mem_cons]
theorem cellsL_append : ∀ (ts us : List AT), cellsL (ts ++ us) = cellsL ts ++ cellsL us
  | [], _ => rfl
  | t :: ts, us => by
    show cells t ++ cellsL (ts ++ us) = (cells t ++ cellsL ts) ++ cellsL us
    rw [cellsL_append ts us, List.append_assoc]
theorem cellsL_eq : ∀ (ts : List AT), cellsL ts = ts.flatMap cells
  | [] => rfl
  | t :: ts => by
    show cells t ++ cellsL ts = _
    rw [cellsL_eq ts, List.flatMap_cons]
theorem ers_eq : ∀ (ts : List AT), ers ts = ts.map er
  | [] => rfl
  | t :: ts => congrArg (er t :: ·) (ers_eq ts)
theorem ers_length (ts : List AT) : (ers ts).length = ts.length := by rw [ers_eq, List.length_map]
mutual
theorem rep_of : ∀ (t : AT), (∀ c ∈ cells t, H c.1 = some c.2) → Same F H → Ok K mg F t → Rep K mg H t.val (SV.toD (er t))
  | .fz v d, _, s, h => Rep.same s h
  | .ol p xs, hc, s, h => ⟨p, vals xs, rfl, hc _ List.mem_cons_self, reps_of xs (fun c hm => hc c (List.mem_cons_of_mem _ hm)) s h⟩
  | .oo p C dx c ns xs, hc, s, ⟨h1, h2, h3⟩ => ⟨p, C, dx, vals xs, rfl, h1, hc _ List.mem_cons_self, by rw [h2]; exact (List.length_map _).symm, reps_of xs (fun c hm => hc c (List.mem_cons_of_mem _ hm)) s h3⟩
  | .od p ks xs, hc, s, ⟨h2, h3⟩ => ⟨p, vals xs, rfl, hc _ List.mem_cons_self, by rw [h2]; exact (List.length_map _).symm, reps_of xs (fun c hm => hc c (List.mem_cons_of_mem _ hm)) s h3⟩
theorem reps_of : ∀ (ts : List AT), (∀ c ∈ cellsL ts, H c.1 = some c.2) → Same F H → Oks K mg F ts → Reps K mg H (vals ts) (SV.toDs (ers ts))
  | [], _, _, _ => trivial
  | t :: ts, hc, s, ⟨h1, h2⟩ => ⟨rep_of t (fun c hm => hc c (List.mem_append_left _ hm)) s h1, reps_of ts (fun c hm => hc c (List.mem_append_right _ hm)) s h2⟩
end
theorem Good.rep {ts : List AT} {t : AT} (g : Good K mg F H ts) (s : Same F H) (h : t ∈ ts) : Rep K mg H t.val (SV.toD (er t)) := by
  refine rep_of t (fun c hc => (g.at_ c ?_).1) s (Oks.mem.mp g.ok t h)
  rw [cellsL_eq]
  exact List.mem_flatMap.mpr ⟨t, h, hc⟩
theorem cellsL_perm {ts us : List AT} (p : ts.Perm us) : (cellsL ts).Perm (cellsL us) := by
  rw [cellsL_eq, cellsL_eq]
  exact p.flatMap_right _
theorem Good.perm {ts us : List AT} (g : Good K mg F H ts) (p : ts.Perm us) : Good K mg F H us where
  at_ := fun c hc => g.at_ c ((cellsL_perm p).mem_iff.mpr hc)
  ok := Oks.mem.mpr fun t ht => Oks.mem.mp g.ok t (p.mem_iff.mpr ht)
  nd := (((cellsL_perm p).map _).nodup_iff).mp g.nd
theorem Good.sub {ts us : List AT} (g : Good K mg F H (ts ++ us)) : Good K mg F H us where
  at_ := fun c hc => g.at_ c (by rw [cellsL_append]; exact List.mem_append_right _ hc)
  ok := (Oks.append.mp g.ok).2
  nd := by
    have := g.nd
    rw [cellsL_append, List.map_append] at this
    exact (List.nodup_append.mp this).2.1
theorem Good.left {ts us : List AT} (g : Good K mg F H (ts ++ us)) : Good K mg F H ts := (g.perm List.perm_append_comm).sub
theorem Good.fz {ts : List AT} {v : V} {d : D} (g : Good K mg F H ts) (r : Rep K mg F v d) : Good K mg F H (.fz v d :: ts) :=
  ⟨g.at_, ⟨r, g.ok⟩, g.nd⟩
theorem Good.unfz {ts : List AT} {v : V} {d : D} (g : Good K mg F H (.fz v d :: ts)) : Good K mg F H ts ∧ Rep K mg F v d :=
  ⟨⟨g.at_, g.ok.2, g.nd⟩, g.ok.1⟩
theorem Good.tail {ts : List AT} {t : AT} (g : Good K mg F H (t :: ts)) : Good K mg F H ts := Good.sub (ts := [t]) g
def frz (cs : List (Addr × HO)) (F : Hp) : Hp := fun a => match cs.lookup a with
  | some o => some o
  | none => F a
theorem lookup_of_mem {α β : Type} [BEq α] [LawfulBEq α] : ∀ {l : List (α × β)} {a : α} {b : β}, (l.map (·.1)).Nodup → (a, b) ∈ l → l.lookup a = some b
  | (c, d) :: l, a, b, nd, h => by
    rw [List.map_cons, List.nodup_cons] at nd
    rw [List.lookup_cons]
    rcases List.mem_cons.mp h with e | h
    · cases e
      simp
    · have ne : a ≠ c := fun e => nd.1 (e ▸ List.mem_map_of_mem (f := (·.1)) h)
      have : (a == c) = false := by simpa using ne
      rw [this]
      exact lookup_of_mem nd.2 h
theorem mem_of_look {α β : Type} [BEq α] [LawfulBEq α] : ∀ {l : List (α × β)} {a : α} {b : β}, l.lookup a = some b → (a, b) ∈ l
  | (c, d) :: l, a, b, h => by
    rw [List.lookup_cons] at h
    cases e : (a == c) with
    | true =>
      rw [e] at h
      have e2 : a = c := by simpa using e
      subst e2
      cases h
      exact List.mem_cons_self
    | false =>
      rw [e] at h
      exact List.mem_cons_of_mem _ (mem_of_look h)
theorem frz_same {cs : List (Addr × HO)} (h : ∀ c ∈ cs, F c.1 = none) : Same F (frz cs F) := fun a o e => by
  unfold frz
  cases q : cs.lookup a with
  | none => exact e
  | some u =>
    have := h _ (mem_of_look q)
    rw [e] at this
    cases this
theorem frz_le {cs : List (Addr × HO)} (s : Same F H) (h : ∀ c ∈ cs, H c.1 = some c.2) : Same (frz cs F) H := fun a o e => by
  unfold frz at e
  cases q : cs.lookup a with
  | none => rw [q] at e; exact s a o e
  | some u =>
    rw [q] at e
    cases e
    exact h _ (mem_of_look q)
theorem frz_out {cs : List (Addr × HO)} {a : Addr} (h : a ∉ cs.map (·.1)) : frz cs F a = F a := by
  unfold frz
  cases q : cs.lookup a with
  | none => rfl
  | some u => exact absurd (List.mem_map_of_mem (f := (·.1)) (mem_of_look q)) h
theorem Good.freeze {ts : List AT} {t : AT} (g : Good K mg F H (t :: ts)) (s : Same F H) :
    Same F (frz (cells t) F) ∧ Same (frz (cells t) F) H ∧ Good K mg (frz (cells t) F) H (.fz t.val (SV.toD (er t)) :: ts) := by
  have hc : ∀ c ∈ cells t, H c.1 = some c.2 ∧ F c.1 = none := fun c h => g.at_ c (List.mem_append_left _ h)
  have nd := g.nd
  have nd2 : ((cells t ++ cellsL ts).map (·.1)).Nodup := nd
  rw [List.map_append, List.nodup_append] at nd2
  have s1 : Same F (frz (cells t) F) := frz_same fun c h => (hc c h).2
  refine ⟨s1, frz_le s fun c h => (hc c h).1, ⟨fun c h => ?_, ⟨?_, Oks.same s1 g.ok.2⟩, nd2.2.1⟩⟩
  · have h' := g.at_ c (List.mem_append_right _ h)
    refine ⟨h'.1, ?_⟩
    rw [frz_out fun q => nd2.2.2 _ q _ (List.mem_map_of_mem (f := (·.1)) h) rfl]
    exact h'.2
  · refine rep_of t (fun c h => ?_) s1 g.ok.1
    unfold frz
    rw [lookup_of_mem (l := cells t) nd2.1 (show (c.1, c.2) ∈ cells t from h)]
end
end VF
set_option maxRecDepth 100000
set_option maxHeartbeats 4000000
namespace VF
set_option autoImplicit false
open PySem PySem.Spec PyProof.Rows L2
open AT (cells cellsL er ers)
def imm : D → Option V
  | .non => some .non
  | .bl b => some (.bl b)
  | .int i => some (.int i)
  | .str s => some (.str s)
  | .ty n => some (.ty n)
  | _ => none
abbrev XS := Value → Option Addr → L2.St → Hp → Prop
def E0 : XS := fun _ _ _ _ => False
structure Exc where
  c : Str
  ns : List Str
  ds : List D
structure Env where
  sl : List (Option SV)
  pn : List Nat
inductive R (α : Type) where
  | st | ok (a : α) (e : Env) | ex (x : Exc) (e : Env)
abbrev M (α : Type) := Env → R α
inductive RV where
  | fz (d : D) | own (s : SV) | var (i : Nat)
inductive Fl where
  | nx | rt (r : RV) | bk | ct
def R.bind {α β : Type} (r : R α) (f : α → M β) : R β := match r with
  | .st => .st
  | .ok a e => f a e
  | .ex x e => .ex x e
def M.bind {α β : Type} (m : M α) (f : α → M β) : M β := fun e => (m e).bind f
def M.ret {α : Type} (a : α) : M α := fun e => .ok a e
def M.st {α : Type} : M α := fun _ => .st
def opts (as : List (Option AT)) : List AT := as.filterMap id
theorem mem_opts {as : List (Option AT)} {i : Nat} {t : AT} (h : as[i]? = some (some t)) : t ∈ opts as :=
  List.mem_filterMap.mpr ⟨some t, List.mem_of_getElem? h, rfl⟩
theorem opts_take : ∀ {as : List (Option AT)} {i : Nat} {t : AT}, as[i]? = some (some t) → (opts as).Perm (t :: opts (as.set i none))
  | a :: as, 0, t, h => by
    have e : a = some t := by simpa using h
    subst e
    exact List.Perm.refl _
  | a :: as, i + 1, t, h => by
    have ih := opts_take (as := as) (i := i) (t := t) (by simpa using h)
    cases a with
    | none => exact ih
    | some u => exact (ih.cons u).trans (List.Perm.swap _ _ _)
theorem opts_put : ∀ {as : List (Option AT)} {i : Nat} (t : AT), as[i]? = some none → (t :: opts as).Perm (opts (as.set i (some t)))
  | a :: as, 0, t, h => by
    have e : a = none := by simpa using h
    subst e
    exact List.Perm.refl _
  | a :: as, i + 1, t, h => by
    have ih := opts_put (as := as) (i := i) t (by simpa using h)
    cases a with
    | none => exact ih
    | some u => exact (List.Perm.swap _ _ _).trans (ih.cons u)
theorem opts_set {as : List (Option AT)} {i : Nat} (t : AT) : ∃ L, (t :: opts as).Perm (L ++ opts (as.set i (some t))) := by
  cases e : as[i]? with
  | none =>
    have : as.length ≤ i := List.getElem?_eq_none_iff.mp e
    exact ⟨[t], by rw [List.set_eq_of_length_le this]; exact List.Perm.refl _⟩
  | some o =>
    cases o with
    | none => exact ⟨[], opts_put t e⟩
    | some u =>
      refine ⟨[u], ?_⟩
      have h1 := opts_take e
      have hlt : i < as.length := (List.getElem?_eq_some_iff.mp e).1
      have h2 := opts_put (as := as.set i none) (i := i) t (by simp [hlt])
      rw [List.set_set] at h2
      exact ((h1.cons t).trans (List.Perm.swap _ _ _)).trans (h2.cons u)
section
variable (K : PySem.W.Frag) (mg : Str → Option Value)
structure SR (pv : List (Nat × V)) (σ : L2.St) (e : Env) (as : List (Option AT)) : Prop where
  sl : e.sl = as.map (Option.map er)
  len : σ.length = as.length
  at_ : ∀ (i : Nat) (t : AT), as[i]? = some (some t) → σ[i]? = some (some t.val)
  pin : ∀ p ∈ pv, p.1 ∈ e.pn ∧ σ[p.1]? = some (some p.2)
structure Cf (pv : List (Nat × V)) (F H : Hp) (σ : L2.St) (e : Env) (as : List (Option AT)) (held : List AT) : Prop where
  s : Same F H
  r : SR pv σ e as
  g : Good K mg F H (opts as ++ held)
def RR (σ : L2.St) (v : V) : RV → List AT → Prop
  | .fz d, tr => tr = [.fz v d]
  | .own s, tr => ∃ t, tr = [t] ∧ t.val = v ∧ er t = s
  | .var i, tr => tr = [] ∧ σ[i]? = some (some v)
def RRs (σ : L2.St) : List V → List RV → List AT → Prop
  | [], [], tr => tr = []
  | v :: vs, r :: rs, tr => ∃ t1 t2, tr = t2 ++ t1 ∧ RR σ v r t1 ∧ RRs σ vs rs t2
  | _, _, _ => False
def RX (H : Hp) (x : Exc) (cls : Value) (d : Option Addr) : Prop :=
  ∃ C, mg x.c = some (.ref C) ∧ cls = .ref C ∧ ((x.ns = [] ∧ d = none) ∨ (x.ns ≠ [] ∧ ∃ dd vs, d = some dd ∧ H dd = some (.xd (x.ns.zip vs)) ∧ x.ns.length = vs.length ∧ x.ds.mapM imm = some vs))
def WX (pv : List (Nat × V)) (F : Hp) (held : List AT) (E : XS) (x : Exc) (e' : Env) : Prop :=
  ∀ cls d F' H' σ' as', Same F F' → Cf K mg pv F' H' σ' e' as' held → RX mg H' x cls d → (∀ dd, d = some dd → F dd = none) → E cls d σ' H'
def WE (pv : List (Nat × V)) (F : Hp) (held : List AT) (σ : L2.St) (Q : VK) (E : XS) : R RV → Prop
  | .st => False
  | .ok r e' => ∀ v F' H' as' tr, Same F F' → Cf K mg pv F' H' σ e' as' (tr ++ held) → RR σ v r tr → Q v H'
  | .ex x e' => WX K mg pv F held E x e'
def WT (pv : List (Nat × V)) (F : Hp) (held : List AT) (σ : L2.St) (Q : Bool → Hp → Prop) (E : XS) : R Bool → Prop
  | .st => False
  | .ok b e' => ∀ F' H' as', Same F F' → Cf K mg pv F' H' σ e' as' held → Q b H'
  | .ex x e' => WX K mg pv F held E x e'
def WA (pv : List (Nat × V)) (F : Hp) (held : List AT) (σ : L2.St) (Q : List V → Hp → Prop) (E : XS) : R (List RV) → Prop
  | .st => False
  | .ok rs e' => ∀ vs F' H' as' tr, Same F F' → Cf K mg pv F' H' σ e' as' (tr ++ held) → RRs σ vs rs tr → Q vs H'
  | .ex x e' => WX K mg pv F held E x e'
def WS (pv : List (Nat × V)) (F : Hp) (held : List AT) (E : XS) (D : Ends) : R Fl → Prop
  | .st => False
  | .ok .nx e' => ∀ σ' F' H' as', Same F F' → Cf K mg pv F' H' σ' e' as' held → D.nx σ' H'
  | .ok .bk e' => ∀ σ' F' H' as', Same F F' → Cf K mg pv F' H' σ' e' as' held → D.bk σ' H'
  | .ok .ct e' => ∀ σ' F' H' as', Same F F' → Cf K mg pv F' H' σ' e' as' held → D.ct σ' H'
  | .ok (.rt r) e' => ∀ v σ' F' H' as' tr, Same F F' → Cf K mg pv F' H' σ' e' as' (tr ++ held) → RR σ' v r tr → D.rt v H'
  | .ex x e' => WX K mg pv F held E x e'
def SE (E : XS) (t : TE) (m : M RV) : Prop := ∀ pv F H σ e as held Q, Cf K mg pv F H σ e as held → WE K mg pv F held σ Q E (m e) → t σ H Q
def ST (E : XS) (t : TT) (m : M Bool) : Prop := ∀ pv F H σ e as held Q, Cf K mg pv F H σ e as held → WT K mg pv F held σ Q E (m e) → t σ H Q
def SA (E : XS) (t : TA) (m : M (List RV)) : Prop := ∀ pv F H σ e as held Q, Cf K mg pv F H σ e as held → WA K mg pv F held σ Q E (m e) → t σ H Q
def SS (E : XS) (t : TS) (m : M Fl) : Prop := ∀ pv F H σ e as held D, Cf K mg pv F H σ e as held → WS K mg pv F held E D (m e) → t D σ H
end
section
variable {K : PySem.W.Frag} {mg : Str → Option Value} {pv : List (Nat × V)} {F F' H H' : Hp} {σ : L2.St} {e e' : Env} {as as' : List (Option AT)} {held tr ts : List AT} {E : XS}
theorem none_le {dd : Addr} (s : Same F F') (h : F' dd = none) : F dd = none := by
  cases q : F dd with
  | none => rfl
  | some o => rw [s _ _ q] at h; cases h
theorem WX.mono {x : Exc} (s : Same F F') (h : WX K mg pv F held E x e) : WX K mg pv F' held E x e := fun cls d F2 H2 σ2 as2 s2 c r n => h cls d F2 H2 σ2 as2 (s.trans s2) c r fun dd q => none_le s (n dd q)
theorem Cf.drop (c : Cf K mg pv F H σ e as (tr ++ held)) : Cf K mg pv F H σ e as held :=
  ⟨c.s, c.r, (c.g.perm (us := tr ++ (opts as ++ held)) (by rw [← List.append_assoc, ← List.append_assoc]; exact List.perm_append_comm.append_right held)).sub⟩
theorem Cf.fz {v : V} {d : D} (c : Cf K mg pv F H σ e as held) (r : Rep K mg F v d) : Cf K mg pv F H σ e as ([.fz v d] ++ held) :=
  ⟨c.s, c.r, (c.g.fz r).perm (by exact (List.perm_middle (l₁ := opts as) (l₂ := held) (a := AT.fz v d)).symm)⟩
theorem WX.drop {x : Exc} (h : WX K mg pv F held E x e) : WX K mg pv F (tr ++ held) E x e := fun cls d F2 H2 σ2 as2 s2 c r n => h cls d F2 H2 σ2 as2 s2 c.drop r n
theorem SR.slot {i : Nat} {t : AT} (r : SR pv σ e as) (h : as[i]? = some (some t)) : e.sl[i]? = some (some (er t)) := by
  rw [r.sl, List.getElem?_map, h]; rfl
theorem SR.slotOf {i : Nat} {s : SV} (r : SR pv σ e as) (h : e.sl[i]? = some (some s)) : ∃ t, as[i]? = some (some t) ∧ er t = s := by
  rw [r.sl, List.getElem?_map] at h
  cases q : as[i]? with
  | none => rw [q] at h; cases h
  | some o =>
    rw [q] at h
    cases o with
    | none => cases h
    | some t =>
      have h2 : some (some (er t)) = some (some s) := h
      exact ⟨t, rfl, by simpa using h2⟩
def view (e : Env) : RV → Option D
  | .fz d => some d
  | .own s => some s.toD
  | .var i => match e.sl[i]? with
    | some (some s) => some s.toD
    | _ => none
theorem Cf.seen {v : V} {r : RV} {d : D} (c : Cf K mg pv F H σ e as held) (h : RR σ v r tr) (hm : ∀ t ∈ tr, t ∈ held) (q : view e r = some d) : Rep K mg H v d := by
  cases r with
  | fz x =>
    have e1 : tr = [.fz v x] := h
    have e2 : x = d := Option.some.inj q
    subst e1 e2
    exact c.g.rep c.s (List.mem_append_right _ (hm _ List.mem_cons_self))
  | own s =>
    obtain ⟨t, e1, e2, e3⟩ := h
    have e4 : s.toD = d := Option.some.inj q
    subst e1 e2 e3 e4
    exact c.g.rep c.s (List.mem_append_right _ (hm _ List.mem_cons_self))
  | var i =>
    obtain ⟨_, hv⟩ := h
    have q' : (match e.sl[i]? with | some (some s) => some s.toD | _ => none) = some d := q
    cases z : e.sl[i]? with
    | none => rw [z] at q'; cases q'
    | some o =>
      cases o with
      | none => rw [z] at q'; cases q'
      | some s =>
        rw [z] at q'
        have e4 : s.toD = d := Option.some.inj q'
        obtain ⟨t, ht, e5⟩ := c.r.slotOf z
        have hv2 := c.r.at_ i t ht
        rw [hv] at hv2
        have e6 : v = t.val := by simpa using hv2
        subst e4 e5 e6
        exact c.g.rep c.s (List.mem_append_left _ (mem_opts ht))
theorem WE.bindE {α : Type} {f : RV → M α} {m : M RV} {W : R α → Prop} (hs : ¬ W .st) (h : W ((m e).bind f)) {P : V → Hp → Prop}
    (hx : ∀ x e', W (.ex x e') → WX K mg pv F held E x e')
    (k : ∀ r e' v F' H' as' tr, Same F F' → Cf K mg pv F' H' σ e' as' (tr ++ held) → RR σ v r tr → W (f r e') → P v H') : WE K mg pv F held σ P E (m e) := by
  cases q : m e with
  | st => rw [q] at h; exact absurd h hs
  | ok r e' => rw [q] at h; exact fun v F' H' as' tr s c rr => k r e' v F' H' as' tr s c rr h
  | ex x e' => rw [q] at h; exact hx x e' h
theorem WT.bindT {α : Type} {f : Bool → M α} {m : M Bool} {W : R α → Prop} (hs : ¬ W .st) (h : W ((m e).bind f)) {P : Bool → Hp → Prop}
    (hx : ∀ x e', W (.ex x e') → WX K mg pv F held E x e')
    (k : ∀ b e' F' H' as', Same F F' → Cf K mg pv F' H' σ e' as' held → W (f b e') → P b H') : WT K mg pv F held σ P E (m e) := by
  cases q : m e with
  | st => rw [q] at h; exact absurd h hs
  | ok r e' => rw [q] at h; exact fun F' H' as' s c => k r e' F' H' as' s c h
  | ex x e' => rw [q] at h; exact hx x e' h
theorem WA.bindA {α : Type} {f : List RV → M α} {m : M (List RV)} {W : R α → Prop} (hs : ¬ W .st) (h : W ((m e).bind f)) {P : List V → Hp → Prop}
    (hx : ∀ x e', W (.ex x e') → WX K mg pv F held E x e')
    (k : ∀ rs e' vs F' H' as' tr, Same F F' → Cf K mg pv F' H' σ e' as' (tr ++ held) → RRs σ vs rs tr → W (f rs e') → P vs H') : WA K mg pv F held σ P E (m e) := by
  cases q : m e with
  | st => rw [q] at h; exact absurd h hs
  | ok r e' => rw [q] at h; exact fun v F' H' as' tr s c rr => k r e' v F' H' as' tr s c rr h
  | ex x e' => rw [q] at h; exact hx x e' h
theorem WE.mono {Q : VK} {r : R RV} (s : Same F F') (h : WE K mg pv F held σ Q E r) : WE K mg pv F' held σ Q E r := by
  cases r with
  | st => exact h
  | ok r e' => exact fun v F2 H2 as2 tr2 s2 c rr => h v F2 H2 as2 tr2 (s.trans s2) c rr
  | ex x e' => exact WX.mono s h
theorem WT.mono {Q : Bool → Hp → Prop} {r : R Bool} (s : Same F F') (h : WT K mg pv F held σ Q E r) : WT K mg pv F' held σ Q E r := by
  cases r with
  | st => exact h
  | ok r e' => exact fun F2 H2 as2 s2 c => h F2 H2 as2 (s.trans s2) c
  | ex x e' => exact WX.mono s h
theorem WA.mono {Q : List V → Hp → Prop} {r : R (List RV)} (s : Same F F') (h : WA K mg pv F held σ Q E r) : WA K mg pv F' held σ Q E r := by
  cases r with
  | st => exact h
  | ok r e' => exact fun v F2 H2 as2 tr2 s2 c rr => h v F2 H2 as2 tr2 (s.trans s2) c rr
  | ex x e' => exact WX.mono s h
theorem WS.mono {D : Ends} {r : R Fl} (s : Same F F') (h : WS K mg pv F held E D r) : WS K mg pv F' held E D r := by
  cases r with
  | st => exact h
  | ok r e' => cases r with
    | nx => exact fun σ2 F2 H2 as2 s2 c => h σ2 F2 H2 as2 (s.trans s2) c
    | bk => exact fun σ2 F2 H2 as2 s2 c => h σ2 F2 H2 as2 (s.trans s2) c
    | ct => exact fun σ2 F2 H2 as2 s2 c => h σ2 F2 H2 as2 (s.trans s2) c
    | rt r => exact fun v σ2 F2 H2 as2 tr2 s2 c rr => h v σ2 F2 H2 as2 tr2 (s.trans s2) c rr
  | ex x e' => exact WX.mono s h
theorem rep_imm {d : D} {v : V} (h : imm d = some v) : Rep K mg F v d := by
  cases d <;> first | (cases h; rfl) | cases h
def dVar (i : Nat) : M RV := fun e => match e.sl[i]? with
  | some (some (.fz d)) => .ok (.fz d) e
  | some (some _) => .ok (.var i) e
  | _ => .st
def dC (d : D) : M RV := fun e => .ok (.fz d) e
theorem se_var {i : Nat} : SE K mg E (tVar i) (dVar i) := by
  intro pv F H σ e as held Q c w
  unfold dVar at w
  cases z : e.sl[i]? with
  | none => rw [z] at w; exact w.elim
  | some o =>
    cases o with
    | none => rw [z] at w; exact w.elim
    | some s =>
      rw [z] at w
      obtain ⟨t, ht, et⟩ := c.r.slotOf z
      have hv := c.r.at_ i t ht
      refine ⟨t.val, hv, ?_⟩
      cases s with
      | fz d =>
        cases t with
        | fz v d' =>
          have ed : d' = d := by simpa [er] using et
          subst ed
          have rp : Rep K mg F v d' := Oks.mem.mp c.g.ok _ (List.mem_append_left _ (mem_opts ht))
          exact w v F H as _ (Same.refl _) (c.fz rp) rfl
        | ol _ _ => simp [er] at et
        | oo _ _ _ _ _ _ => simp [er] at et
        | od _ _ _ => simp [er] at et
      | ol xs => exact w t.val F H as [] (Same.refl _) c ⟨rfl, hv⟩
      | oo c' ns xs => exact w t.val F H as [] (Same.refl _) c ⟨rfl, hv⟩
      | od ks xs => exact w t.val F H as [] (Same.refl _) c ⟨rfl, hv⟩
theorem se_c {v : V} {d : D} (h : imm d = some v := by rfl) : SE K mg E (tC v) (dC d) := by
  intro pv F H σ e as held Q c w
  exact w v F H as _ (Same.refl _) (c.fz (rep_imm h)) rfl
def dOp (f : D → D → Option D) (a b : M RV) : M RV := a.bind fun r => b.bind fun q => fun e => match view e r, view e q with
  | some x, some y => (match f x y with
    | some d => .ok (.fz d) e
    | none => .st)
  | _, _ => .st
def OpD (r : R2) (K : PySem.W.Frag) (mg : Str → Option Value) (f : D → D → Option D) : Prop := ∀ (H : Hp) (x y : V) (a b d : D), Rep K mg H x a → Rep K mg H y b → f a b = some d → ∃ v, imm d = some v ∧ ∀ Q : VK, Q v H → r x y H Q
theorem se_op {r : R2} {f : D → D → Option D} {ta tb : TE} {ma mb : M RV} (hr : OpD r K mg f) (ha : SE K mg E ta ma) (hb : SE K mg E tb mb) : SE K mg E (tOp r ta tb) (dOp f ma mb) := by
  intro pv F H σ e as held Q c w
  refine ha pv F H σ e as held _ c (WE.bindE (W := WE K mg pv F held σ Q E) (fun z => z) w (fun _ _ z => z) fun r1 e1 v1 F1 H1 as1 tr1 s1 c1 rr1 w1 => ?_)
  refine hb pv F1 H1 σ e1 as1 (tr1 ++ held) _ c1 (WE.bindE (W := WE K mg pv F held σ Q E) (fun z => z) w1 (fun _ _ z => (WX.mono s1 z).drop) fun r2 e2 v2 F2 H2 as2 tr2 s2 c2 rr2 w2 => ?_)
  have w2' : WE K mg pv F held σ Q E (match view e2 r1, view e2 r2 with
    | some x, some y => (match f x y with
      | some d => .ok (.fz d) e2
      | none => .st)
    | _, _ => .st) := w2
  cases q1 : view e2 r1 with
  | none => rw [q1] at w2'; exact w2'.elim
  | some x =>
    cases q2 : view e2 r2 with
    | none => rw [q1, q2] at w2'; exact w2'.elim
    | some y =>
      rw [q1, q2] at w2'
      cases q3 : f x y with
      | none => simp only [q3] at w2'; exact w2'.elim
      | some d =>
        simp only [q3] at w2'
        have p1 := c2.seen rr1 (fun t ht => List.mem_append_right _ (List.mem_append_left _ ht)) q1
        have p2 := c2.seen rr2 (fun t ht => List.mem_append_left _ ht) q2
        obtain ⟨v, hv, k⟩ := hr H2 v1 v2 x y d p1 p2 q3
        exact k Q (w2' v F2 H2 as2 _ (s1.trans s2) (c2.drop.drop.fz (rep_imm hv)) rfl)
def dNil : M (List RV) := fun e => .ok [] e
def dCons (a : M RV) (b : M (List RV)) : M (List RV) := a.bind fun r => b.bind fun rs => fun e => .ok (r :: rs) e
theorem sa_nil : SA K mg E tNil dNil := by
  intro pv F H σ e as held Q c w
  exact w [] F H as [] (Same.refl _) c rfl
theorem sa_cons {ta : TE} {tb : TA} {ma : M RV} {mb : M (List RV)} (ha : SE K mg E ta ma) (hb : SA K mg E tb mb) : SA K mg E (tCons ta tb) (dCons ma mb) := by
  intro pv F H σ e as held Q c w
  refine ha pv F H σ e as held _ c (WE.bindE (W := WA K mg pv F held σ Q E) (fun z => z) w (fun _ _ z => z) fun r1 e1 v1 F1 H1 as1 tr1 s1 c1 rr1 w1 => ?_)
  refine hb pv F1 H1 σ e1 as1 (tr1 ++ held) _ c1 (WA.bindA (W := WA K mg pv F held σ Q E) (fun z => z) w1 (fun _ _ z => (WX.mono s1 z).drop) fun r2 e2 v2 F2 H2 as2 tr2 s2 c2 rr2 w2 => ?_)
  exact w2 (v1 :: v2) F2 H2 as2 (tr2 ++ tr1) (s1.trans s2) (by rw [List.append_assoc]; exact c2) ⟨tr1, tr2, rfl, rr1, rr2⟩
theorem RRs.seen {rs : List RV} : ∀ {vs : List V} {tr : List AT} {rs : List RV} {ds : List D}, Cf K mg pv F H σ e as held → RRs σ vs rs tr → (∀ t ∈ tr, t ∈ held) → rs.mapM (view e) = some ds → Reps K mg H vs ds
  | [], tr, [], ds, _, _, _, q => by
    have : ds = [] := by simpa using q.symm
    subst this
    trivial
  | v :: vs, tr, r :: rs, ds, c, ⟨t1, t2, e1, h1, h2⟩, hm, q => by
    subst e1
    cases q1 : view e r with
    | none => simp [q1] at q
    | some d =>
      cases q2 : rs.mapM (view e) with
      | none => simp [q1, q2] at q
      | some ds' =>
        have : ds = d :: ds' := by simpa [q1, q2] using q.symm
        subst this
        exact ⟨c.seen h1 (fun t ht => hm t (List.mem_append_right _ ht)) q1, RRs.seen (rs := rs) c h2 (fun t ht => hm t (List.mem_append_left _ ht)) q2⟩
  | [], _, _ :: _, _, _, h, _, _ => h.elim
  | _ :: _, _, [], _, _, h, _, _ => h.elim
def dCB (f : List D → Option D) (a : M (List RV)) : M RV := a.bind fun rs => fun e => match rs.mapM (view e) with
  | some xs => (match f xs with
    | some d => .ok (.fz d) e
    | none => .st)
  | none => .st
def CbD (r : List V → Hp → VK → Prop) (K : PySem.W.Frag) (mg : Str → Option Value) (f : List D → Option D) : Prop := ∀ (H : Hp) (xs : List V) (as : List D) (d : D), Reps K mg H xs as → f as = some d → ∃ v, imm d = some v ∧ ∀ Q : VK, Q v H → r xs H Q
theorem se_cb {r : List V → Hp → VK → Prop} {f : List D → Option D} {ta : TA} {ma : M (List RV)} (hr : CbD r K mg f) (ha : SA K mg E ta ma) : SE K mg E (tCB r ta) (dCB f ma) := by
  intro pv F H σ e as held Q c w
  refine ha pv F H σ e as held _ c (WA.bindA (W := WE K mg pv F held σ Q E) (fun z => z) w (fun _ _ z => z) fun r1 e1 v1 F1 H1 as1 tr1 s1 c1 rr1 w1 => ?_)
  have w2' : WE K mg pv F held σ Q E (match r1.mapM (view e1) with
    | some x => (match f x with
      | some d => .ok (.fz d) e1
      | none => .st)
    | none => .st) := w1
  cases q1 : r1.mapM (view e1) with
  | none => rw [q1] at w2'; exact w2'.elim
  | some x =>
    rw [q1] at w2'
    cases q3 : f x with
    | none => simp only [q3] at w2'; exact w2'.elim
    | some d =>
      simp only [q3] at w2'
      have p1 := RRs.seen (rs := r1) c1 rr1 (fun t ht => List.mem_append_left _ ht) q1
      obtain ⟨v, hv, k⟩ := hr H1 v1 x d p1 q3
      exact k Q (w2' v F1 H1 as1 _ s1 (c1.drop.fz (rep_imm hv)) rfl)
def dT (a : M RV) : M Bool := a.bind fun r => fun e => match view e r with
  | some (.bl b) => .ok b e
  | _ => .st
theorem st_val {ta : TE} {ma : M RV} (ha : SE K mg E ta ma) : ST K mg E (tB ta) (dT ma) := by
  intro pv F H σ e as held Q c w
  refine ha pv F H σ e as held _ c (WE.bindE (W := WT K mg pv F held σ Q E) (fun z => z) w (fun _ _ z => z) fun r1 e1 v1 F1 H1 as1 tr1 s1 c1 rr1 w1 => ?_)
  have w2' : WT K mg pv F held σ Q E (match view e1 r1 with
    | some (.bl b) => .ok b e1
    | _ => .st) := w1
  cases q1 : view e1 r1 with
  | none => rw [q1] at w2'; exact w2'.elim
  | some x =>
    rw [q1] at w2'
    have p1 := c1.seen rr1 (fun t ht => List.mem_append_left _ ht) q1
    cases x with
    | bl b => exact ⟨b, p1, w2' F1 H1 as1 s1 c1.drop⟩
    | _ => exact w2'.elim
theorem st_test {ta : TE} {ma : M RV} (ha : SE K mg E ta ma) : ST K mg E (tTest ta) (dT ma) := st_val ha
def dAnd (a b : M Bool) : M Bool := a.bind fun c => match c with
  | true => b
  | false => fun e => .ok false e
def dOr (a b : M Bool) : M Bool := a.bind fun c => match c with
  | true => fun e => .ok true e
  | false => b
def dNot (a : M Bool) : M Bool := a.bind fun c e => .ok (!c) e
theorem st_and {ta tb : TT} {ma mb : M Bool} (ha : ST K mg E ta ma) (hb : ST K mg E tb mb) : ST K mg E (tAnd ta tb) (dAnd ma mb) := by
  intro pv F H σ e as held Q c w
  refine ha pv F H σ e as held _ c (WT.bindT (W := WT K mg pv F held σ Q E) (fun z => z) w (fun _ _ z => z) fun b e1 F1 H1 as1 s1 c1 w1 => ?_)
  cases b with
  | true => exact hb pv F1 H1 σ e1 as1 held Q c1 (WT.mono s1 w1)
  | false => exact w1 F1 H1 as1 s1 c1
theorem st_or {ta tb : TT} {ma mb : M Bool} (ha : ST K mg E ta ma) (hb : ST K mg E tb mb) : ST K mg E (tOr ta tb) (dOr ma mb) := by
  intro pv F H σ e as held Q c w
  refine ha pv F H σ e as held _ c (WT.bindT (W := WT K mg pv F held σ Q E) (fun z => z) w (fun _ _ z => z) fun b e1 F1 H1 as1 s1 c1 w1 => ?_)
  cases b with
  | true => exact w1 F1 H1 as1 s1 c1
  | false => exact hb pv F1 H1 σ e1 as1 held Q c1 (WT.mono s1 w1)
theorem st_not {ta : TT} {ma : M Bool} (ha : ST K mg E ta ma) : ST K mg E (tNot ta) (dNot ma) := by
  intro pv F H σ e as held Q c w
  exact ha pv F H σ e as held _ c (WT.bindT (W := WT K mg pv F held σ Q E) (fun z => z) w (fun _ _ z => z) fun b e1 F1 H1 as1 s1 c1 w1 => w1 F1 H1 as1 s1 c1)
def dSeq (a b : M Fl) : M Fl := a.bind fun f => match f with
  | .nx => b
  | f => fun e => .ok f e
def dNext : M Fl := fun e => .ok .nx e
def dIf (c : M Bool) (a b : M Fl) : M Fl := c.bind fun k => match k with
  | true => a
  | false => b
theorem ss_next : SS K mg E tNext dNext := by
  intro pv F H σ e as held D c w
  exact w σ F H as (Same.refl _) c
theorem ss_seq {ta tb : TS} {ma mb : M Fl} (ha : SS K mg E ta ma) (hb : SS K mg E tb mb) : SS K mg E (tSeq ta tb) (dSeq ma mb) := by
  intro pv F H σ e as held D c w
  refine ha pv F H σ e as held _ c ?_
  have w' : WS K mg pv F held E D ((ma e).bind fun f => match f with
    | .nx => mb
    | f => fun e => .ok f e) := w
  cases q : ma e with
  | st => rw [q] at w'; exact w'.elim
  | ex x e' => rw [q] at w'; exact w'
  | ok f e' =>
    rw [q] at w'
    cases f with
    | nx => exact fun σ1 F1 H1 as1 s1 c1 => hb pv F1 H1 σ1 e' as1 held D c1 (WS.mono s1 w')
    | bk => exact w'
    | ct => exact w'
    | rt r => exact w'
theorem ss_if {tc : TT} {ta tb : TS} {mc : M Bool} {ma mb : M Fl} (hc : ST K mg E tc mc) (ha : SS K mg E ta ma) (hb : SS K mg E tb mb) : SS K mg E (tIfS tc ta tb) (dIf mc ma mb) := by
  intro pv F H σ e as held D c w
  refine hc pv F H σ e as held _ c (WT.bindT (W := WS K mg pv F held E D) (fun z => z) w (fun _ _ z => z) fun b e1 F1 H1 as1 s1 c1 w1 => ?_)
  cases b with
  | true => exact ha pv F1 H1 σ e1 as1 held D c1 (WS.mono s1 w1)
  | false => exact hb pv F1 H1 σ e1 as1 held D c1 (WS.mono s1 w1)
def dRet (a : M RV) : M Fl := a.bind fun r e => .ok (.rt r) e
theorem ss_ret {ta : TE} {ma : M RV} (ha : SE K mg E ta ma) : SS K mg E (tRet ta) (dRet ma) := by
  intro pv F H σ e as held D c w
  exact ha pv F H σ e as held _ c (WE.bindE (W := WS K mg pv F held E D) (fun z => z) w (fun _ _ z => z) fun r1 e1 v1 F1 H1 as1 tr1 s1 c1 rr1 w1 => w1 v1 σ F1 H1 as1 tr1 s1 c1 rr1)
def dDrop (a : M RV) : M Fl := a.bind fun _ e => .ok .nx e
theorem ss_drop {ta : TE} {ma : M RV} (ha : SE K mg E ta ma) : SS K mg E (tDrop ta) (dDrop ma) := by
  intro pv F H σ e as held D c w
  exact ha pv F H σ e as held _ c (WE.bindE (W := WS K mg pv F held E D) (fun z => z) w (fun _ _ z => z) fun r1 e1 v1 F1 H1 as1 tr1 s1 c1 rr1 w1 => w1 σ F1 H1 as1 s1 c1.drop)
end
end VF
set_option maxRecDepth 100000
set_option maxHeartbeats 4000000
namespace VF
set_option autoImplicit false
open PySem PySem.Spec PyProof.Rows L2
open AT (cells cellsL er ers)
section
variable {K : PySem.W.Frag} {mg : Str → Option Value} {pv : List (Nat × V)} {F F' H H' : Hp} {σ : L2.St} {e e' : Env} {as as' : List (Option AT)} {held tr ts us : List AT} {E : XS}
theorem same_new {p : Addr} {o : HO} (h : H p = none) : Same H (upd H p o) := fun b x e => by
  rw [upd_ne (ne_of_none e h)]; exact e
theorem same_own {p : Addr} {o : HO} (s : Same F H) (h : F p = none) : Same F (upd H p o) := fun b x e => by
  rw [upd_ne (ne_of_none e h)]; exact s b x e
theorem same_both {p : Addr} {o : HO} (s : Same F H) (h : H p = none) : Same F (upd F p o) ∧ Same (upd F p o) (upd H p o) :=
  ⟨same_new (s.free h), fun b x e => by
    by_cases q : b = p
    · subst q; rw [upd_same] at e ⊢; exact e
    · rw [upd_ne q] at e ⊢; exact s b x e⟩
theorem Good.grow {p : Addr} {o : HO} (g : Good K mg F H us) (h : H p = none) : Good K mg F (upd H p o) us :=
  ⟨fun c hc => ⟨by rw [upd_ne (ne_of_none (g.at_ c hc).1 h)]; exact (g.at_ c hc).1, (g.at_ c hc).2⟩, g.ok, g.nd⟩
theorem Good.new {p : Addr} {xs : List AT} (g : Good K mg F H (xs ++ us)) (s : Same F H) (h : H p = none) : Good K mg F (upd H p (.lst (vals xs))) (.ol p xs :: us) := by
  have g2 := g.grow (o := .lst (vals xs)) h
  have hp : ∀ c ∈ cellsL (xs ++ us), c.1 ≠ p := fun c hc => ne_of_none (g.at_ c hc).1 h
  have ok := Oks.append.mp g.ok
  refine ⟨fun c hc => ?_, ⟨ok.1, ok.2⟩, ?_⟩
  · have hc' : c ∈ (p, HO.lst (vals xs)) :: (cellsL xs ++ cellsL us) := hc
    rcases List.mem_cons.mp hc' with e | hc'
    · subst e; exact ⟨upd_same, s.free h⟩
    · exact g2.at_ c (by rw [cellsL_append]; exact hc')
  · show (((p, HO.lst (vals xs)) :: (cellsL xs ++ cellsL us)).map (·.1)).Nodup
    rw [List.map_cons, List.nodup_cons, ← cellsL_append]
    refine ⟨fun q => ?_, g.nd⟩
    obtain ⟨c, hc, ec⟩ := List.mem_map.mp q
    exact hp c hc ec
theorem Good.newF {p : Addr} {o : HO} (g : Good K mg F H us) (s : Same F H) (h : H p = none) : Good K mg (upd F p o) (upd H p o) us := by
  have sb := same_both (o := o) s h
  refine ⟨fun c hc => ?_, Oks.same sb.1 g.ok, g.nd⟩
  have ne := ne_of_none (g.at_ c hc).1 h
  rw [upd_ne ne, upd_ne ne]
  exact g.at_ c hc
theorem Good.relist {p : Addr} {xs ys zs junk : List AT} (g : Good K mg F H (.ol p xs :: us)) (pm : (xs ++ us).Perm (junk ++ (ys ++ zs))) : Good K mg F (upd H p (.lst (vals ys))) (.ol p ys :: zs) := by
  have nd : (((p, HO.lst (vals xs)) :: (cellsL xs ++ cellsL us)).map (·.1)).Nodup := g.nd
  rw [List.map_cons, List.nodup_cons, ← cellsL_append] at nd
  have g1 : Good K mg F H (xs ++ us) := ⟨fun c hc => g.at_ c (List.mem_cons_of_mem _ (by rw [cellsL_append] at hc; exact hc)), Oks.append.mpr g.ok, nd.2⟩
  have g2 : Good K mg F H (ys ++ zs) := (g1.perm pm).sub
  have mem : ∀ c ∈ cellsL (ys ++ zs), c ∈ cellsL (xs ++ us) := fun c hc => (cellsL_perm pm).mem_iff.mpr (by rw [cellsL_append]; exact List.mem_append_right _ hc)
  have hp : ∀ c ∈ cellsL (ys ++ zs), c.1 ≠ p := fun c hc q => nd.1 (List.mem_map.mpr ⟨c, mem c hc, q⟩)
  have ok := Oks.append.mp g2.ok
  have hF : F p = none := (g.at_ (p, .lst (vals xs)) List.mem_cons_self).2
  refine ⟨fun c hc => ?_, ⟨ok.1, ok.2⟩, ?_⟩
  · have hc' : c ∈ (p, HO.lst (vals ys)) :: (cellsL ys ++ cellsL zs) := hc
    rcases List.mem_cons.mp hc' with e | hc'
    · subst e; exact ⟨upd_same, hF⟩
    · rw [← cellsL_append] at hc'
      rw [upd_ne (hp c hc')]
      exact g2.at_ c hc'
  · show (((p, HO.lst (vals ys)) :: (cellsL ys ++ cellsL zs)).map (·.1)).Nodup
    rw [List.map_cons, List.nodup_cons, ← cellsL_append]
    exact ⟨fun q => by obtain ⟨c, hc, ec⟩ := List.mem_map.mp q; exact hp c hc ec, g2.nd⟩
theorem Good.cell {p : Addr} {xs : List AT} (g : Good K mg F H (.ol p xs :: us)) : H p = some (.lst (vals xs)) ∧ F p = none := g.at_ (p, .lst (vals xs)) List.mem_cons_self
def Env.setS (e : Env) (i : Nat) (s : SV) : Env := ⟨e.sl.set i (some s), e.pn⟩
theorem Cf.take {i : Nat} {t : AT} (c : Cf K mg pv F H σ e as held) (h : as[i]? = some (some t)) : Good K mg F H (t :: (opts (as.set i none) ++ held)) :=
  c.g.perm ((opts_take h).append_right held)
theorem SR.put {i : Nat} {t t' : AT} (r : SR pv σ e as) (h : as[i]? = some (some t)) (hv : t'.val = t.val) : SR pv σ (e.setS i (er t')) (as.set i (some t')) where
  sl := by show e.sl.set i (some (er t')) = _; rw [List.map_set, r.sl]; rfl
  len := by rw [List.length_set]; exact r.len
  at_ := fun j u hj => by
    by_cases q : j = i
    · subst q
      have hlt : j < as.length := (List.getElem?_eq_some_iff.mp h).1
      rw [List.getElem?_set_self hlt] at hj
      cases hj
      rw [hv]
      exact r.at_ j t h
    · rw [List.getElem?_set_ne (Ne.symm q)] at hj
      exact r.at_ j u hj
  pin := r.pin
theorem Cf.put {i : Nat} {t t' : AT} (r : SR pv σ e as) (h : as[i]? = some (some t)) (s : Same F' H') (g : Good K mg F' H' (t' :: (opts (as.set i none) ++ held))) (hv : t'.val = t.val) :
    Cf K mg pv F' H' σ (e.setS i (er t')) (as.set i (some t')) held := by
  refine ⟨s, r.put h hv, ?_⟩
  have hlt : i < as.length := (List.getElem?_eq_some_iff.mp h).1
  have := opts_put (as := as.set i none) (i := i) t' (by simp [hlt])
  rw [List.set_set] at this
  exact g.perm (this.append_right held)
theorem Cf.frzS {i : Nat} {t : AT} (c : Cf K mg pv F H σ e as held) (h : as[i]? = some (some t)) :
    ∃ F', Same F F' ∧ Cf K mg pv F' H σ (e.setS i (.fz (er t).toD)) (as.set i (some (.fz t.val (er t).toD))) held ∧ Rep K mg F' t.val (er t).toD := by
  obtain ⟨s1, s2, g⟩ := (c.take h).freeze c.s
  exact ⟨_, s1, Cf.put c.r h s2 g rfl, g.unfz.2⟩
def frzR (r : RV) (e : Env) : Option (D × Env) := match r with
  | .fz d => some (d, e)
  | .own s => some (s.toD, e)
  | .var i => match e.sl[i]? with
    | some (some s) => some (s.toD, e.setS i (.fz s.toD))
    | _ => none
theorem Cf.frzR {v : V} {r : RV} {d : D} {e' : Env} (c : Cf K mg pv F H σ e as (tr ++ held)) (h : RR σ v r tr) (q : frzR r e = some (d, e')) :
    ∃ F' as', Same F F' ∧ Cf K mg pv F' H σ e' as' held ∧ Rep K mg F' v d := by
  cases r with
  | fz y =>
    have q' : some (y, e) = some (d, e') := q
    cases q'
    have e1 : tr = [.fz v d] := h
    subst e1
    have ok := Oks.mem.mp c.g.ok (.fz v d) (List.mem_append_right _ (List.mem_append_left _ List.mem_cons_self))
    exact ⟨F, as, Same.refl _, c.drop, ok⟩
  | own s =>
    have q' : some (s.toD, e) = some (d, e') := q
    cases q'
    obtain ⟨t, e1, e2, e3⟩ := h
    subst e1 e2 e3
    have g : Good K mg F H (t :: (opts as ++ held)) := c.g.perm (List.perm_middle (l₁ := opts as) (l₂ := held) (a := t))
    obtain ⟨s1, s2, g'⟩ := g.freeze c.s
    exact ⟨_, as, s1, ⟨s2, c.r, g'.unfz.1⟩, g'.unfz.2⟩
  | var i =>
    obtain ⟨e1, hv⟩ := h
    subst e1
    have q' : (match e.sl[i]? with | some (some s) => some (s.toD, e.setS i (.fz s.toD)) | _ => none) = some (d, e') := q
    cases z : e.sl[i]? with
    | none => rw [z] at q'; cases q'
    | some o =>
      cases o with
      | none => rw [z] at q'; cases q'
      | some s =>
        rw [z] at q'
        cases q'
        obtain ⟨t, ht, et⟩ := c.r.slotOf z
        subst et
        obtain ⟨F', s1, c', rp⟩ := c.frzS ht
        have hv2 := c.r.at_ i t ht
        rw [hv] at hv2
        have ev : v = t.val := by simpa using hv2
        subst ev
        exact ⟨F', _, s1, c', rp⟩
def frzRs : List RV → Env → Option (List D × Env)
  | [], e => some ([], e)
  | r :: rs, e => match frzR r e with
    | some (d, e1) => (match frzRs rs e1 with
      | some (ds, e2) => some (d :: ds, e2)
      | none => none)
    | none => none
theorem Cf.frzRs : ∀ {rs : List RV} {vs : List V} {ds : List D} {F : Hp} {e e' : Env} {as : List (Option AT)} {tr : List AT}, Cf K mg pv F H σ e as (tr ++ held) → RRs σ vs rs tr → frzRs rs e = some (ds, e') →
    ∃ F' as', Same F F' ∧ Cf K mg pv F' H σ e' as' held ∧ Reps K mg F' vs ds
  | [], [], ds, F, e, e', as, tr, c, h, q => by
    have e1 : tr = [] := h
    subst e1
    have q' : some (([] : List D), e) = some (ds, e') := q
    cases q'
    exact ⟨F, as, Same.refl _, c, trivial⟩
  | r :: rs, v :: vs, ds, F, e, e', as, tr, c, ⟨t1, t2, e1, h1, h2⟩, q => by
    subst e1
    have q' : (match VF.frzR r e with
      | some (d, e1) => (match VF.frzRs rs e1 with
        | some (ds, e2) => some (d :: ds, e2)
        | none => none)
      | none => none) = some (ds, e') := q
    cases q1 : VF.frzR r e with
    | none => rw [q1] at q'; cases q'
    | some p =>
      obtain ⟨d, e1⟩ := p
      rw [q1] at q'
      cases q2 : VF.frzRs rs e1 with
      | none => simp only [q2] at q'; cases q'
      | some p2 =>
        obtain ⟨ds2, e2⟩ := p2
        simp only [q2] at q'
        cases q'
        have c1 : Cf K mg pv F H σ e as (t1 ++ (t2 ++ held)) := ⟨c.s, c.r, c.g.perm (by
          refine List.Perm.append_left _ ?_
          rw [List.append_assoc]
          rw [← List.append_assoc, ← List.append_assoc]
          exact List.perm_append_comm.append_right held)⟩
        obtain ⟨F1, as1, s1, c2, rp⟩ := c1.frzR h1 q1
        obtain ⟨F2, as2, s2, c3, rps⟩ := Cf.frzRs c2 h2 q2
        exact ⟨F2, as2, s1.trans s2, c3, Rep.same s2 rp, rps⟩
  | [], _ :: _, _, _, _, _, _, _, _, h, _ => h.elim
  | _ :: _, [], _, _, _, _, _, _, _, h, _ => h.elim
def putR (i : Nat) (r : RV) (e : Env) : Option Env := if i ∈ e.pn then none else match r with
  | .fz d => some (e.setS i (.fz d))
  | .own s => some (e.setS i s)
  | .var j => match e.sl[j]? with
    | some (some s) => some ((e.setS j (.fz s.toD)).setS i (.fz s.toD))
    | _ => none
theorem SR.store {i : Nat} {t : AT} (r : SR pv σ e as) (hi : i ∉ e.pn) : SR pv (σ.set i (some t.val)) (e.setS i (er t)) (as.set i (some t)) where
  sl := by show e.sl.set i (some (er t)) = _; rw [List.map_set, r.sl]; rfl
  len := by rw [List.length_set, List.length_set]; exact r.len
  at_ := fun j u hj => by
    by_cases q : j = i
    · subst q
      have hlt : j < as.length := by
        have := (List.getElem?_eq_some_iff.mp hj).1
        simpa using this
      rw [List.getElem?_set_self hlt] at hj
      cases hj
      rw [List.getElem?_set_self (by rw [r.len]; exact hlt)]
    · rw [List.getElem?_set_ne (Ne.symm q)] at hj ⊢
      exact r.at_ j u hj
  pin := fun p hp => by
    obtain ⟨h1, h2⟩ := r.pin p hp
    refine ⟨h1, ?_⟩
    have ne : i ≠ p.1 := fun q => hi (by rw [q]; exact h1)
    rw [List.getElem?_set_ne ne]
    exact h2
theorem Cf.store {i : Nat} {t : AT} (c : Cf K mg pv F H σ e as ([t] ++ held)) (hi : i ∉ e.pn) : Cf K mg pv F H (σ.set i (some t.val)) (e.setS i (er t)) (as.set i (some t)) held := by
  refine ⟨c.s, c.r.store hi, ?_⟩
  obtain ⟨L, p⟩ := opts_set (as := as) (i := i) t
  have p2 : (opts as ++ ([t] ++ held)).Perm (L ++ (opts (as.set i (some t)) ++ held)) := by
    refine (List.perm_middle (l₁ := opts as) (l₂ := held) (a := t)).trans ?_
    have := p.append_right held
    rw [List.append_assoc] at this
    exact this
  exact (c.g.perm p2).sub
theorem Cf.putR {i : Nat} {v : V} {r : RV} (c : Cf K mg pv F H σ e as (tr ++ held)) (h : RR σ v r tr) (q : putR i r e = some e') :
    ∃ F' as', Same F F' ∧ Cf K mg pv F' H (σ.set i (some v)) e' as' held := by
  unfold VF.putR at q
  by_cases hi : i ∈ e.pn
  · rw [if_pos hi] at q; cases q
  rw [if_neg hi] at q
  cases r with
  | fz d =>
    cases q
    have e1 : tr = [.fz v d] := h
    subst e1
    exact ⟨F, _, Same.refl _, c.store hi⟩
  | own s =>
    cases q
    obtain ⟨t, e1, e2, e3⟩ := h
    subst e1 e2 e3
    exact ⟨F, _, Same.refl _, c.store hi⟩
  | var j =>
    obtain ⟨e1, hv⟩ := h
    subst e1
    cases z : e.sl[j]? with
    | none => simp only [z] at q; cases q
    | some o =>
      cases o with
      | none => simp only [z] at q; cases q
      | some s =>
        simp only [z] at q
        cases q
        obtain ⟨t, ht, et⟩ := c.r.slotOf z
        subst et
        obtain ⟨F', s1, c', rp⟩ := c.frzS ht
        have hv2 := c.r.at_ j t ht
        rw [hv] at hv2
        have ev : v = t.val := by simpa using hv2
        subst ev
        exact ⟨F', _, s1, Cf.store (t := .fz t.val (er t).toD) (c'.fz rp) hi⟩
def dSet (i : Nat) (a : M RV) : M Fl := a.bind fun r e => match putR i r e with
  | some e' => .ok .nx e'
  | none => .st
theorem ss_set {i : Nat} {ta : TE} {ma : M RV} (ha : SE K mg E ta ma) : SS K mg E (tAsg ta (gName i)) (dSet i ma) := by
  intro pv F H σ e as held D c w
  refine ha pv F H σ e as held _ c (WE.bindE (W := WS K mg pv F held E D) (fun z => z) w (fun _ _ z => z) fun r1 e1 v1 F1 H1 as1 tr1 s1 c1 rr1 w1 => ?_)
  have w2 : WS K mg pv F held E D (match putR i r1 e1 with
    | some e' => .ok .nx e'
    | none => .st) := w1
  cases q : putR i r1 e1 with
  | none => rw [q] at w2; exact w2.elim
  | some e' =>
    rw [q] at w2
    obtain ⟨F', as', s', c'⟩ := c1.putR rr1 q
    exact w2 _ F' H1 as' (s1.trans s') c'
def dLst (a : M (List RV)) : M RV := a.bind fun rs e => match frzRs rs e with
  | some (ds, e') => if ds.length ≤ sizeLine then .ok (.own (.ol (ds.map .fz))) e' else .st
  | none => .st
def atoms (vs : List V) (ds : List D) : List AT := (vs.zip ds).map fun p => .fz p.1 p.2
theorem vals_atoms : ∀ {vs : List V} {ds : List D}, Reps K mg F vs ds → vals (atoms vs ds) = vs
  | [], [], _ => rfl
  | v :: vs, d :: ds, ⟨_, h⟩ => congrArg (v :: ·) (vals_atoms h)
  | [], _ :: _, h => h.elim
  | _ :: _, [], h => h.elim
theorem ers_atoms : ∀ {vs : List V} {ds : List D}, Reps K mg F vs ds → ers (atoms vs ds) = ds.map .fz
  | [], [], _ => rfl
  | v :: vs, d :: ds, ⟨_, h⟩ => congrArg (SV.fz d :: ·) (ers_atoms h)
  | [], _ :: _, h => h.elim
  | _ :: _, [], h => h.elim
theorem cells_atoms : ∀ (vs : List V) (ds : List D), cellsL (atoms vs ds) = []
  | [], _ => rfl
  | _ :: _, [] => rfl
  | v :: vs, d :: ds => cells_atoms vs ds
theorem oks_atoms : ∀ {vs : List V} {ds : List D}, Reps K mg F vs ds → Oks K mg F (atoms vs ds)
  | [], [], _ => trivial
  | v :: vs, d :: ds, ⟨h1, h⟩ => ⟨h1, oks_atoms h⟩
  | [], _ :: _, h => h.elim
  | _ :: _, [], h => h.elim
theorem Good.atoms {vs : List V} {ds : List D} (g : Good K mg F H us) (h : Reps K mg F vs ds) : Good K mg F H (atoms vs ds ++ us) :=
  ⟨fun c hc => g.at_ c (by rw [cellsL_append, cells_atoms] at hc; exact hc), Oks.append.mpr ⟨oks_atoms h, g.ok⟩, by rw [cellsL_append, cells_atoms]; exact g.nd⟩
theorem Cf.newL {p : Addr} {vs : List V} {ds : List D} (c : Cf K mg pv F H σ e as held) (h : Reps K mg F vs ds) (hp : H p = none) :
    ∃ t, t.val = .ref p ∧ er t = .ol (ds.map .fz) ∧ Cf K mg pv F (upd H p (.lst vs)) σ e as ([t] ++ held) := by
  refine ⟨.ol p (VF.atoms vs ds), rfl, ?_, same_own c.s (c.s.free hp), c.r, ?_⟩
  · show SV.ol (ers (VF.atoms vs ds)) = _
    rw [ers_atoms h]
  · have g := (c.g.atoms h).new c.s hp
    rw [vals_atoms h] at g
    exact g.perm (List.perm_middle (l₁ := opts as) (l₂ := held)).symm
theorem se_lst {ta : TA} {ma : M (List RV)} (ha : SA K mg E ta ma) : SE K mg E (tLst ta) (dLst ma) := by
  intro pv F H σ e as held Q c w
  refine ha pv F H σ e as held _ c (WA.bindA (W := WE K mg pv F held σ Q E) (fun z => z) w (fun _ _ z => z) fun rs e1 vs F1 H1 as1 tr1 s1 c1 rr1 w1 => ?_)
  have w2 : WE K mg pv F held σ Q E (match frzRs rs e1 with
    | some (ds, e') => if ds.length ≤ sizeLine then .ok (.own (.ol (ds.map .fz))) e' else .st
    | none => .st) := w1
  cases q : frzRs rs e1 with
  | none => rw [q] at w2; exact w2.elim
  | some pr =>
    obtain ⟨ds, e2⟩ := pr
    rw [q] at w2
    obtain ⟨F2, as2, s2, c2, rps⟩ := c1.frzRs rr1 q
    by_cases hz : ds.length ≤ sizeLine
    · simp only [if_pos hz] at w2
      refine ⟨by rw [rps.length]; exact hz, fun p hp => ?_⟩
      obtain ⟨t, e1, e2', c3⟩ := c2.newL rps hp
      exact w2 (.ref p) F2 _ as2 [t] (s1.trans s2) c3 ⟨t, rfl, e1, e2'⟩
    · simp only [if_neg hz] at w2; exact w2.elim
def dTup (a : M (List RV)) : M RV := a.bind fun rs e => match frzRs rs e with
  | some (ds, e') => if ds.length ≤ sizeLine then .ok (.fz (.tup ds)) e' else .st
  | none => .st
theorem Cf.newT {p : Addr} {vs : List V} {ds : List D} (c : Cf K mg pv F H σ e as held) (h : Reps K mg F vs ds) (hp : H p = none) :
    ∃ F', Same F F' ∧ Cf K mg pv F' (upd H p (.tup vs)) σ e as ([.fz (.ref p) (.tup ds)] ++ held) := by
  have sb := same_both (o := .tup vs) c.s hp
  refine ⟨upd F p (.tup vs), sb.1, Cf.fz ⟨sb.2, c.r, c.g.newF c.s hp⟩ ⟨p, vs, rfl, SqT.of upd_same, Reps.same sb.1 h⟩⟩
theorem se_tup {ta : TA} {ma : M (List RV)} (ha : SA K mg E ta ma) : SE K mg E (tTup ta) (dTup ma) := by
  intro pv F H σ e as held Q c w
  refine ha pv F H σ e as held _ c (WA.bindA (W := WE K mg pv F held σ Q E) (fun z => z) w (fun _ _ z => z) fun rs e1 vs F1 H1 as1 tr1 s1 c1 rr1 w1 => ?_)
  have w2 : WE K mg pv F held σ Q E (match frzRs rs e1 with
    | some (ds, e') => if ds.length ≤ sizeLine then .ok (.fz (.tup ds)) e' else .st
    | none => .st) := w1
  cases q : frzRs rs e1 with
  | none => rw [q] at w2; exact w2.elim
  | some pr =>
    obtain ⟨ds, e2⟩ := pr
    rw [q] at w2
    obtain ⟨F2, as2, s2, c2, rps⟩ := c1.frzRs rr1 q
    by_cases hz : ds.length ≤ sizeLine
    · simp only [if_pos hz] at w2
      refine ⟨by rw [rps.length]; exact hz, fun p hp => ?_⟩
      obtain ⟨F3, s3, c3⟩ := c2.newT rps hp
      exact w2 (.ref p) F3 _ as2 _ ((s1.trans s2).trans s3) c3 rfl
    · simp only [if_neg hz] at w2; exact w2.elim
def kid (xs : List SV) (i : Int) : Option D := match atI xs i with
  | some (.fz d) => some d
  | _ => none
def itemD (d : D) (i : Int) : Option D := match d with
  | .lst ds => atI ds i
  | .tup ds => atI ds i
  | .scr ns => (atI ns i).map .int
  | .str z => if z.length ≤ sizeLine then (atI z.cps.toList i).map fun c => .str ⟨#[c]⟩ else none
  | _ => none
def itemS (s : SV) (i : Int) : Option D := match s with
  | .fz d => itemD d i
  | .ol xs => kid xs i
  | _ => none
def itemR (e : Env) (r : RV) (i : Int) : Option D := match r with
  | .fz d => itemD d i
  | .own s => itemS s i
  | .var j => match e.sl[j]? with
    | some (some s) => itemS s i
    | _ => none
def dIx (a b : M RV) : M RV := a.bind fun r => b.bind fun q e => match view e q with
  | some (.int i) => (match itemR e r i with
    | some d => .ok (.fz d) e
    | none => .st)
  | _ => .st
theorem atI_map {α β : Type} (f : α → β) (xs : List α) (i : Int) : atI (xs.map f) i = (atI xs i).map f := by
  unfold atI
  rw [List.length_map]
  cases ixN xs.length i with
  | none => rfl
  | some j => show (xs.map f)[j]? = _; rw [List.getElem?_map]; rfl
theorem Reps.at {vs : List V} {ds : List D} {i : Int} {d : D} (h : Reps K mg F vs ds) (q : atI ds i = some d) : ∃ v, atI vs i = some v ∧ Rep K mg F v d := by
  unfold atI at q ⊢
  rw [h.length]
  cases z : ixN ds.length i with
  | none => rw [z] at q; cases q
  | some j => rw [z] at q; exact h.get q
theorem item_data {v : V} {d x : D} {i : Int} (s : Same F H) (h : Rep K mg F v d) (q : itemD d i = some x) : ∃ y, Rep K mg F y x ∧ ∀ Q : VK, Q y H → rIx K v (.int i) H Q := by
  cases d with
  | lst ds =>
    obtain ⟨p, vs, e, h1, h2⟩ := h
    subst e
    obtain ⟨y, hy, ry⟩ := h2.at q
    exact ⟨y, ry, fun Q k => .inl ⟨p, vs, i, y, rfl, rfl, SqL.of (s _ _ h1), hy, k⟩⟩
  | tup ds =>
    obtain ⟨p, vs, e, h1, h2⟩ := h
    subst e
    obtain ⟨y, hy, ry⟩ := h2.at q
    exact ⟨y, ry, fun Q k => .inr (.inl ⟨p, vs, i, y, rfl, rfl, SqT_same s h1, hy, k⟩)⟩
  | scr ns =>
    obtain ⟨p, e, h1⟩ := h
    subst e
    have q' : (atI ns i).map D.int = some x := q
    cases z : atI ns i with
    | none => rw [z] at q'; cases q'
    | some n =>
      rw [z] at q'
      cases q'
      exact ⟨.int n, rfl, fun Q k => .inl ⟨p, _, i, .int n, rfl, rfl, s.seq h1, by rw [atI_map, z]; rfl, k⟩⟩
  | str z =>
    have e : v = .str z := h
    subst e
    have q' : (if z.length ≤ sizeLine then (atI z.cps.toList i).map (fun c => D.str ⟨#[c]⟩) else none) = some x := q
    by_cases hz : z.length ≤ sizeLine
    · rw [if_pos hz] at q'
      cases w : atI z.cps.toList i with
      | none => rw [w] at q'; cases q'
      | some c =>
        rw [w] at q'
        cases q'
        exact ⟨.str ⟨#[c]⟩, rfl, fun Q k => .inr (.inr ⟨z, i, c, rfl, rfl, hz, w, k⟩)⟩
    · rw [if_neg hz] at q'; cases q'
  | _ => cases q
theorem item_tree {t : AT} {x : D} {i : Int} (g : Good K mg F H us) (hm : t ∈ us) (s : Same F H) (q : itemS (er t) i = some x) : ∃ y, Rep K mg F y x ∧ ∀ Q : VK, Q y H → rIx K t.val (.int i) H Q := by
  have ok := Oks.mem.mp g.ok t hm
  cases t with
  | fz v d => exact item_data s ok q
  | ol p xs =>
    have hc : H p = some (.lst (vals xs)) := (g.at_ (p, .lst (vals xs)) (by rw [cellsL_eq]; exact List.mem_flatMap.mpr ⟨_, hm, List.mem_cons_self⟩)).1
    have q' : kid (ers xs) i = some x := q
    unfold kid at q'
    rw [ers_eq, atI_map] at q'
    cases z : atI xs i with
    | none => rw [z] at q'; cases q'
    | some u =>
      rw [z] at q'
      cases u with
      | fz v d =>
        have ed : d = x := Option.some.inj q'
        subst ed
        have hu : AT.fz v d ∈ xs := by
          unfold atI at z
          cases w : ixN xs.length i with
          | none => rw [w] at z; cases z
          | some j => rw [w] at z; exact List.mem_of_getElem? z
        have oku : Rep K mg F v d := Oks.mem.mp (show Oks K mg F xs from ok) _ hu
        refine ⟨v, oku, fun Q k => .inl ⟨p, vals xs, i, v, rfl, rfl, SqL.of hc, ?_, k⟩⟩
        show atI (xs.map AT.val) i = some v
        rw [atI_map, z]
        rfl
      | ol _ _ => cases q'
      | oo _ _ _ _ _ _ => cases q'
      | od _ _ _ => cases q'
  | oo _ _ _ _ _ _ => cases q
  | od _ _ _ => cases q
theorem Cf.item {v : V} {r : RV} {x : D} {i : Int} (c : Cf K mg pv F H σ e as held) (h : RR σ v r tr) (hm : ∀ t ∈ tr, t ∈ held) (q : itemR e r i = some x) : ∃ y, Rep K mg F y x ∧ ∀ Q : VK, Q y H → rIx K v (.int i) H Q := by
  cases r with
  | fz d =>
    have e1 : tr = [.fz v d] := h
    subst e1
    exact item_tree (t := .fz v d) c.g (List.mem_append_right _ (hm _ List.mem_cons_self)) c.s q
  | own s =>
    obtain ⟨t, e1, e2, e3⟩ := h
    subst e1 e2 e3
    exact item_tree c.g (List.mem_append_right _ (hm _ List.mem_cons_self)) c.s q
  | var j =>
    obtain ⟨_, hv⟩ := h
    have q' : (match e.sl[j]? with | some (some s) => itemS s i | _ => none) = some x := q
    cases z : e.sl[j]? with
    | none => rw [z] at q'; cases q'
    | some o =>
      cases o with
      | none => rw [z] at q'; cases q'
      | some s =>
        rw [z] at q'
        obtain ⟨t, ht, et⟩ := c.r.slotOf z
        subst et
        have hv2 := c.r.at_ j t ht
        rw [hv] at hv2
        have ev : v = t.val := by simpa using hv2
        subst ev
        exact item_tree c.g (List.mem_append_left _ (mem_opts ht)) c.s q'
theorem se_ix {ta tb : TE} {ma mb : M RV} (ha : SE K mg E ta ma) (hb : SE K mg E tb mb) : SE K mg E (tOp (rIx K) ta tb) (dIx ma mb) := by
  intro pv F H σ e as held Q c w
  refine ha pv F H σ e as held _ c (WE.bindE (W := WE K mg pv F held σ Q E) (fun z => z) w (fun _ _ z => z) fun r1 e1 v1 F1 H1 as1 tr1 s1 c1 rr1 w1 => ?_)
  refine hb pv F1 H1 σ e1 as1 (tr1 ++ held) _ c1 (WE.bindE (W := WE K mg pv F held σ Q E) (fun z => z) w1 (fun _ _ z => (WX.mono s1 z).drop) fun r2 e2 v2 F2 H2 as2 tr2 s2 c2 rr2 w2 => ?_)
  have w3 : WE K mg pv F held σ Q E (match view e2 r2 with
    | some (.int i) => (match itemR e2 r1 i with
      | some d => .ok (.fz d) e2
      | none => .st)
    | _ => .st) := w2
  cases q2 : view e2 r2 with
  | none => rw [q2] at w3; exact w3.elim
  | some y =>
    have p2 := c2.seen rr2 (fun t ht => List.mem_append_left _ ht) q2
    rw [q2] at w3
    cases y with
    | int i =>
      have ev : v2 = .int i := p2
      subst ev
      simp only at w3
      cases q3 : itemR e2 r1 i with
      | none => rw [q3] at w3; exact w3.elim
      | some d =>
        rw [q3] at w3
        obtain ⟨y, ry, k⟩ := c2.item rr1 (fun t ht => List.mem_append_right _ (List.mem_append_left _ ht)) q3
        exact k Q (w3 y F2 H2 as2 _ (s1.trans s2) (c2.drop.drop.fz ry) rfl)
    | _ => exact w3.elim
end
end VF
set_option maxRecDepth 100000
set_option maxHeartbeats 4000000
namespace VF
set_option autoImplicit false
open PySem PySem.Spec PyProof.Rows L2
open AT (cells cellsL er ers)
section
variable {K : PySem.W.Frag} {mg : Str → Option Value} {pv : List (Nat × V)} {F F' H H' : Hp} {σ : L2.St} {e e' : Env} {as as' : List (Option AT)} {held tr ts us : List AT} {E : XS}
theorem pswap {α : Type} (a b c : List α) : (a ++ (b ++ c)).Perm (b ++ (a ++ c)) := by
  rw [← List.append_assoc, ← List.append_assoc]
  exact List.perm_append_comm.append_right c
theorem er_ol {t : AT} {xs : List SV} (h : er t = .ol xs) : ∃ p ys, t = .ol p ys ∧ ers ys = xs := by
  cases t with
  | ol p ys => exact ⟨p, ys, rfl, by simpa [er] using h⟩
  | fz _ _ => simp [er] at h
  | oo _ _ _ _ _ _ => simp [er] at h
  | od _ _ _ => simp [er] at h
theorem Cf.ownL {i : Nat} {xs : List SV} (c : Cf K mg pv F H σ e as held) (z : e.sl[i]? = some (some (.ol xs))) :
    ∃ p ys, as[i]? = some (some (.ol p ys)) ∧ ers ys = xs ∧ σ[i]? = some (some (.ref p)) ∧ H p = some (.lst (vals ys)) := by
  obtain ⟨t, ht, et⟩ := c.r.slotOf z
  obtain ⟨p, ys, rfl, ey⟩ := er_ol et
  exact ⟨p, ys, ht, ey, c.r.at_ i _ ht, (c.take ht).cell.1⟩
theorem Cf.relist {i : Nat} {p : Addr} {xs ys zs junk : List AT} (c : Cf K mg pv F H σ e as us) (h : as[i]? = some (some (.ol p xs))) (pm : (xs ++ us).Perm (junk ++ (ys ++ zs))) :
    Cf K mg pv F (upd H p (.lst (vals ys))) σ (e.setS i (.ol (ers ys))) (as.set i (some (.ol p ys))) zs := by
  have g := c.take h
  have g2 : Good K mg F (upd H p (.lst (vals ys))) (.ol p ys :: (opts (as.set i none) ++ zs)) := by
    refine g.relist (junk := junk) ?_
    exact (pswap _ _ _).trans ((pm.append_left _).trans ((pswap _ _ _).trans (List.Perm.append_left _ (pswap _ _ _))))
  exact Cf.put (t' := .ol p ys) c.r h (same_own c.s g.cell.2) g2 rfl
theorem Cf.fzs {v : V} {d : D} (c : Cf K mg pv F H σ e as held) (r : Rep K mg F v d) : Cf K mg pv F H σ e as (.fz v d :: held) := c.fz r
def dApp (i : Nat) (a : M RV) : M RV := fun e0 => match e0.sl[i]? with
  | some (some (.ol _)) => (a e0).bind fun r e => match frzR r e with
    | some (d, e1) => (match e1.sl[i]? with
      | some (some (.ol xs)) => if xs.length < sizeLine then .ok (.fz .non) (e1.setS i (.ol (xs ++ [.fz d]))) else .st
      | _ => .st)
    | none => .st
  | _ => .st
theorem vals_snoc (ys : List AT) (v : V) (d : D) : vals (ys ++ [.fz v d]) = vals ys ++ [v] := by
  unfold vals; rw [List.map_append]; rfl
theorem ers_snoc (ys : List AT) (v : V) (d : D) : ers (ys ++ [.fz v d]) = ers ys ++ [.fz d] := by
  rw [ers_eq, ers_eq, List.map_append]; rfl
theorem se_app {i : Nat} {ta : TE} {ma : M RV} (ha : SE K mg E ta ma) : SE K mg E (tBM K "list" rAppend (tVar i) (tCons ta tNil)) (dApp i ma) := by
  intro pv F H σ e as held Q c w
  unfold dApp at w
  cases z : e.sl[i]? with
  | none => simp only [z] at w; exact w.elim
  | some o =>
    cases o with
    | none => simp only [z] at w; exact w.elim
    | some s =>
      cases s with
      | ol xs0 =>
        simp only [z] at w
        obtain ⟨p, ys0, h0, _, hv, hp⟩ := c.ownL z
        refine ⟨_, hv, .inl ⟨rfl, _, SqL.of hp⟩, ?_⟩
        refine ha pv F H σ e as held _ c (WE.bindE (W := WE K mg pv F held σ Q E) (fun z => z) w (fun _ _ z => z) fun r1 e1 v1 F1 H1 as1 tr1 s1 c1 rr1 w1 => ?_)
        cases q : frzR r1 e1 with
        | none => simp only [q] at w1; exact w1.elim
        | some pr =>
          obtain ⟨d, e2⟩ := pr
          simp only [q] at w1
          obtain ⟨F2, as2, s2, c2, rp⟩ := c1.frzR rr1 q
          cases z2 : e2.sl[i]? with
          | none => simp only [z2] at w1; exact w1.elim
          | some o =>
            cases o with
            | none => simp only [z2] at w1; exact w1.elim
            | some s =>
              cases s with
              | ol xs =>
                simp only [z2] at w1
                by_cases hz : xs.length < sizeLine
                · rw [if_pos hz] at w1
                  obtain ⟨p2, ys, h2, ey, hv2, hp2⟩ := c2.ownL z2
                  have ep : p2 = p := by rw [hv] at hv2; simpa using hv2.symm
                  subst ep
                  have ly : (vals ys).length = xs.length := by rw [← ey, ers_length]; exact List.length_map _
                  refine ⟨p2, vals ys, v1, rfl, rfl, hp2, by rw [ly]; exact hz, ?_⟩
                  have c3 := (c2.fzs rp).relist (ys := ys ++ [.fz v1 d]) (zs := held) (junk := []) h2 (by simp)
                  rw [vals_snoc, ers_snoc, ey] at c3
                  exact w1 .non F2 _ _ _ (s1.trans s2) (c3.fz (show Rep K mg F2 .non .non from rfl)) rfl
                · rw [if_neg hz] at w1; exact w1.elim
              | _ => simp only [z2] at w1; exact w1.elim
      | _ => simp only [z] at w; exact w.elim
def svR : SV → RV
  | .fz d => .fz d
  | .ol xs => .own (.ol xs)
  | .oo c ns xs => .own (.oo c ns xs)
  | .od ks xs => .own (.od ks xs)
theorem rr_svR (t : AT) : RR σ t.val (svR (er t)) [t] := by
  cases t with
  | fz v d => exact rfl
  | ol p xs => exact ⟨_, rfl, rfl, rfl⟩
  | oo p C dx c ns xs => exact ⟨_, rfl, rfl, rfl⟩
  | od p ks xs => exact ⟨_, rfl, rfl, rfl⟩
theorem map_erase {α β : Type} (f : α → β) : ∀ (xs : List α) (k : Nat), (xs.eraseIdx k).map f = (xs.map f).eraseIdx k
  | [], _ => rfl
  | _ :: _, 0 => rfl
  | x :: xs, k + 1 => congrArg (f x :: ·) (map_erase f xs k)
def dSetIx (j : Nat) (b a : M RV) : M Fl := a.bind fun r e0 => match e0.sl[j]? with
  | some (some (.ol _)) => (b e0).bind fun q e => match view e q with
    | some (.int k) => (match frzR r e with
      | some (d, e1) => (match e1.sl[j]? with
        | some (some (.ol xs)) => (match ixN xs.length k with
          | some n => .ok .nx (e1.setS j (.ol (xs.set n (.fz d))))
          | none => .st)
        | _ => .st)
      | none => .st)
    | _ => .st
  | _ => .st
theorem perm_set {α : Type} {y : α} : ∀ {xs : List α} {k : Nat} {x : α}, xs[k]? = some x → (y :: xs).Perm (x :: xs.set k y)
  | a :: xs, 0, x, h => by
    have e : a = x := by simpa using h
    subst e
    exact List.Perm.swap _ _ _
  | a :: xs, k + 1, x, h => by
    have ih := perm_set (y := y) (xs := xs) (k := k) (x := x) (by simpa using h)
    exact ((List.Perm.swap _ _ _).trans (ih.cons a)).trans (List.Perm.swap _ _ _)
theorem Cf.setL {j k : Nat} {p : Addr} {ys : List AT} {v : V} {d : D} (c : Cf K mg pv F H σ e as held) (h : as[j]? = some (some (.ol p ys))) (rp : Rep K mg F v d) (hk : k < ys.length) :
    Cf K mg pv F (upd H p (.lst ((vals ys).set k v))) σ (e.setS j (.ol ((ers ys).set k (.fz d)))) (as.set j (some (.ol p (ys.set k (.fz v d))))) held := by
  have gk : ys[k]? = some ys[k] := List.getElem?_eq_getElem hk
  have c3 := (c.fzs rp).relist (ys := ys.set k (.fz v d)) (zs := held) (junk := [ys[k]]) h (by
    refine (List.perm_middle (l₁ := ys) (l₂ := held) (a := AT.fz v d)).trans ?_
    exact (perm_set (y := AT.fz v d) gk).append_right held)
  have e1 : vals (ys.set k (.fz v d)) = (vals ys).set k v := by unfold vals; rw [List.map_set]; rfl
  have e2 : ers (ys.set k (.fz v d)) = (ers ys).set k (.fz d) := by rw [ers_eq, ers_eq, List.map_set]; rfl
  rw [e1, e2] at c3
  exact c3
theorem ixN_lt {n : Nat} {i : Int} {j : Nat} (h : ixN n i = some j) : j < n := (ixN_seq h).2.1
theorem ss_setIx {j : Nat} {ta tb : TE} {ma mb : M RV} (hb : SE K mg E tb mb) (ha : SE K mg E ta ma) : SS K mg E (tAsg ta (gSub (tVar j) tb rSetL)) (dSetIx j mb ma) := by
  intro pv F H σ e as held D c w
  refine ha pv F H σ e as held _ c (WE.bindE (W := WS K mg pv F held E D) (fun z => z) w (fun _ _ z => z) fun r1 e1 v1 F1 H1 as1 tr1 s1 c1 rr1 w1 => ?_)
  cases z : e1.sl[j]? with
  | none => simp only [z] at w1; exact w1.elim
  | some o =>
    cases o with
    | none => simp only [z] at w1; exact w1.elim
    | some s =>
      cases s with
      | ol xs0 =>
        simp only [z] at w1
        obtain ⟨p, ys0, h0, _, hv, hp⟩ := c1.ownL z
        refine ⟨_, hv, ?_⟩
        refine hb pv F1 H1 σ e1 as1 (tr1 ++ held) _ c1 (WE.bindE (W := WS K mg pv F held E D) (fun z => z) w1 (fun _ _ z => (WX.mono s1 z).drop) fun r2 e2 v2 F2 H2 as2 tr2 s2 c2 rr2 w2 => ?_)
        cases q : view e2 r2 with
        | none => simp only [q] at w2; exact w2.elim
        | some x =>
          have p1 := c2.seen rr2 (fun t ht => List.mem_append_left _ ht) q
          cases x with
          | int k =>
            have ev : v2 = .int k := p1
            subst ev
            simp only [q] at w2
            cases q2 : frzR r1 e2 with
            | none => simp only [q2] at w2; exact w2.elim
            | some pr =>
              obtain ⟨d, e3⟩ := pr
              simp only [q2] at w2
              obtain ⟨F3, as3, s3, c3, rp⟩ := (c2.drop).frzR rr1 q2
              cases z2 : e3.sl[j]? with
              | none => simp only [z2] at w2; exact w2.elim
              | some o =>
                cases o with
                | none => simp only [z2] at w2; exact w2.elim
                | some s =>
                  cases s with
                  | ol xs =>
                    simp only [z2] at w2
                    obtain ⟨p2, ys, h2, ey, hv2, hp2⟩ := c3.ownL z2
                    have ep : p2 = p := by rw [hv] at hv2; simpa using hv2.symm
                    subst ep
                    have ly : (vals ys).length = xs.length := by rw [← ey, ers_length]; exact List.length_map _
                    cases q3 : ixN xs.length k with
                    | none => simp only [q3] at w2; exact w2.elim
                    | some n =>
                      simp only [q3] at w2
                      refine ⟨p2, vals ys, k, n, rfl, rfl, hp2, by rw [ly]; exact q3, ?_⟩
                      have hn := ixN_lt q3
                      have c4 := c3.setL h2 rp (show n < ys.length by rw [← ey, ers_length] at hn; exact hn)
                      rw [ey] at c4
                      exact w2 σ F3 _ _ ((s1.trans s2).trans s3) c4
                  | _ => simp only [z2] at w2; exact w2.elim
          | _ => simp only [q] at w2; exact w2.elim
      | _ => simp only [z] at w1; exact w1.elim
end
end VF
set_option maxRecDepth 100000
set_option maxHeartbeats 4000000
namespace VF
set_option autoImplicit false
open PySem PySem.Spec PyProof.Rows L2
open AT (cells cellsL er ers)
section
variable {K : PySem.W.Frag} {mg : Str → Option Value} {pv : List (Nat × V)} {F F' H H' : Hp} {σ : L2.St} {e e' : Env} {as as' : List (Option AT)} {held tr ts us : List AT} {E : XS}
def dAug (i : Nat) (f : Int → Int → Int) (a : M RV) : M Fl := fun e0 => match e0.sl[i]? with
  | some (some (.fz (.int x))) => (a e0).bind fun r e => match view e r with
    | some (.int y) => (match putR i (.fz (.int (f x y))) e with
      | some e' => .ok .nx e'
      | none => .st)
    | _ => .st
  | _ => .st
theorem slot_int {i : Nat} {x : Int} (c : Cf K mg pv F H σ e as held) (z : e.sl[i]? = some (some (.fz (.int x)))) : σ[i]? = some (some (.int x)) := by
  obtain ⟨t, ht, et⟩ := c.r.slotOf z
  have hv := c.r.at_ i t ht
  cases t with
  | fz v d =>
    have ed : d = .int x := by simpa [er] using et
    subst ed
    have rp : Rep K mg F v (.int x) := Oks.mem.mp c.g.ok _ (List.mem_append_left _ (mem_opts ht))
    have ev : v = .int x := rp
    subst ev
    exact hv
  | ol _ _ => simp [er] at et
  | oo _ _ _ _ _ _ => simp [er] at et
  | od _ _ _ => simp [er] at et
theorem ss_aug {i : Nat} {f : Int → Int → Int} {ta : TE} {ma : M RV} (ha : SE K mg E ta ma) : SS K mg E (tAug i ta (ipI f)) (dAug i f ma) := by
  intro pv F H σ e as held D c w
  unfold dAug at w
  cases z : e.sl[i]? with
  | none => simp only [z] at w; exact w.elim
  | some o =>
    cases o with
    | none => simp only [z] at w; exact w.elim
    | some s =>
      cases s with
      | fz d =>
        cases d with
        | int x =>
          simp only [z] at w
          refine ⟨.int x, slot_int c z, ?_⟩
          refine ha pv F H σ e as held _ c (WE.bindE (W := WS K mg pv F held E D) (fun z => z) w (fun _ _ z => z) fun r1 e1 v1 F1 H1 as1 tr1 s1 c1 rr1 w1 => ?_)
          cases q : view e1 r1 with
          | none => simp only [q] at w1; exact w1.elim
          | some y =>
            have p1 := c1.seen rr1 (fun t ht => List.mem_append_left _ ht) q
            cases y with
            | int y =>
              have ev : v1 = .int y := p1
              subst ev
              simp only [q] at w1
              cases q2 : putR i (.fz (.int (f x y))) e1 with
              | none => simp only [q2] at w1; exact w1.elim
              | some e2 =>
                simp only [q2] at w1
                have c2 : Cf K mg pv F1 H1 σ e1 as1 ([.fz (.int (f x y)) (.int (f x y))] ++ held) := c1.drop.fz (show Rep K mg F1 (.int (f x y)) (.int (f x y)) from rfl)
                obtain ⟨F', as', s', c'⟩ := c2.putR (show RR σ (.int (f x y)) (.fz (.int (f x y))) [.fz (.int (f x y)) (.int (f x y))] from rfl) q2
                exact ⟨x, y, rfl, rfl, w1 _ F' H1 as' (s1.trans s') c'⟩
            | _ => simp only [q] at w1; exact w1.elim
        | _ => simp only [z] at w; exact w.elim
      | _ => simp only [z] at w; exact w.elim
def kidI (e : Env) (j : Nat) (k : Int) : Option Int := match e.sl[j]? with
  | some (some (.ol xs)) => (match kid xs k with
    | some (.int x) => some x
    | _ => none)
  | _ => none
def dAugIx (j : Nat) (b : M RV) (f : Int → Int → Int) (a : M RV) : M Fl := fun e0 => match e0.sl[j]? with
  | some (some (.ol _)) => (b e0).bind fun q e => match view e q with
    | some (.int k) => if 0 ≤ k then (match kidI e j k with
      | some x => (a e).bind fun r e1 => (match view e1 r with
        | some (.int y) => (match e1.sl[j]? with
          | some (some (.ol xs)) => (match ixN xs.length k with
            | some n => .ok .nx (e1.setS j (.ol (xs.set n (.fz (.int (f x y))))))
            | none => .st)
          | _ => .st)
        | _ => .st)
      | _ => .st) else .st
    | _ => .st
  | _ => .st
inductive FR where
  | st | ok (r : SV) (as : List SV) | ex (x : Exc) (as : List SV)
abbrev Fn := List SV → FR
def spF (K : PySem.W.Frag) (mg : Str → Option Value) (n : Nat) (φ : Fn) : Sp := fun vs H Q E => ∃ (F : Hp) (ts held : List AT), vs = vals ts ∧ ts.length = n ∧ Same F H ∧ Good K mg F H (ts ++ held) ∧ match φ (ers ts) with
  | .st => False
  | .ok r as' => ∀ v F' H' t ts', Same F F' → Same F' H' → t.val = v → er t = r → vals ts' = vs → ers ts' = as' → Good K mg F' H' (t :: (ts' ++ held)) → Q v H'
  | .ex x as' => ∀ cls d F' H' ts', Same F F' → Same F' H' → RX mg H' x cls d → (∀ dd, d = some dd → F dd = none) → vals ts' = vs → ers ts' = as' → Good K mg F' H' (ts' ++ held) → E cls d H'
def Env.clr (e : Env) (i : Nat) : Env := ⟨e.sl.set i none, e.pn⟩
def loadOne (md : Bool) (r : RV) (e : Env) : Option (SV × Env) := match md with
  | false => (match frzR r e with
    | some (d, e1) => some (.fz d, e1)
    | none => none)
  | true => (match r with
    | .var i => (match e.sl[i]? with
      | some (some s) => some (s, e.clr i)
      | _ => none)
    | _ => none)
def load : List Bool → List RV → Env → Option (List SV × Env)
  | [], [], e => some ([], e)
  | md :: mds, r :: rs, e => (match loadOne md r e with
    | some (s, e1) => (match load mds rs e1 with
      | some (ss, e2) => some (s :: ss, e2)
      | none => none)
    | none => none)
  | _, _, _ => none
def isClr (e : Env) (i : Nat) : Bool := match e.sl[i]? with
  | some none => true
  | _ => false
theorem isClr_ok {i : Nat} (h : isClr e i = true) : e.sl[i]? = some none := by
  unfold isClr at h
  cases z : e.sl[i]? with
  | none => rw [z] at h; cases h
  | some o => cases o with
    | none => rfl
    | some s => rw [z] at h; cases h
def unload : List Bool → List RV → List SV → Env → Option Env
  | [], [], [], e => some e
  | false :: mds, _ :: rs, _ :: ss, e => unload mds rs ss e
  | true :: mds, .var i :: rs, s :: ss, e => if isClr e i = true then unload mds rs ss (e.setS i s) else none
  | _, _, _, _ => none
theorem Cf.clr {i : Nat} {t : AT} (c : Cf K mg pv F H σ e as held) (h : as[i]? = some (some t)) : Cf K mg pv F H σ (e.clr i) (as.set i none) ([t] ++ held) := by
  refine ⟨c.s, ⟨?_, by rw [List.length_set]; exact c.r.len, fun j u hj => ?_, c.r.pin⟩, ?_⟩
  · show e.sl.set i none = _
    rw [List.map_set, c.r.sl]; rfl
  · by_cases q : j = i
    · subst q
      have hlt : j < as.length := (List.getElem?_eq_some_iff.mp h).1
      rw [List.getElem?_set_self hlt] at hj
      cases hj
    · rw [List.getElem?_set_ne (Ne.symm q)] at hj
      exact c.r.at_ j u hj
  · exact (c.take h).perm (List.perm_middle (l₁ := opts (as.set i none)) (l₂ := held)).symm
theorem Cf.perm {us' : List AT} (c : Cf K mg pv F H σ e as us) (p : us.Perm us') : Cf K mg pv F H σ e as us' := ⟨c.s, c.r, c.g.perm (p.append_left _)⟩
theorem Cf.loadOne {md : Bool} {v : V} {r : RV} {s : SV} {e' : Env} (c : Cf K mg pv F H σ e as (tr ++ held)) (h : RR σ v r tr) (q : loadOne md r e = some (s, e')) :
    ∃ F' as' t, Same F F' ∧ Cf K mg pv F' H σ e' as' ([t] ++ held) ∧ t.val = v ∧ er t = s := by
  cases md with
  | false =>
    unfold VF.loadOne at q
    cases q1 : VF.frzR r e with
    | none => rw [q1] at q; cases q
    | some p =>
      obtain ⟨d, e1⟩ := p
      rw [q1] at q
      cases q
      obtain ⟨F', as', s1, c1, rp⟩ := c.frzR h q1
      exact ⟨F', as', .fz v d, s1, c1.fz rp, rfl, rfl⟩
  | true =>
    unfold VF.loadOne at q
    cases r with
    | var i =>
      obtain ⟨e1, hv⟩ := h
      subst e1
      cases z : e.sl[i]? with
      | none => simp only [z] at q; cases q
      | some o =>
        cases o with
        | none => simp only [z] at q; cases q
        | some s0 =>
          simp only [z] at q
          cases q
          obtain ⟨t, ht, et⟩ := c.r.slotOf z
          have hv2 := c.r.at_ i t ht
          rw [hv] at hv2
          have ev : v = t.val := by simpa using hv2
          exact ⟨F, _, t, Same.refl _, c.clr ht, ev.symm, et⟩
    | fz _ => cases q
    | own _ => cases q
theorem Cf.load : ∀ {md : List Bool} {rs : List RV} {vs : List V} {ss : List SV} {F : Hp} {e e' : Env} {as : List (Option AT)} {tr held : List AT}, Cf K mg pv F H σ e as (tr ++ held) → RRs σ vs rs tr → load md rs e = some (ss, e') →
    ∃ F' as' ts, Same F F' ∧ Cf K mg pv F' H σ e' as' (ts ++ held) ∧ vals ts = vs ∧ ers ts = ss
  | [], [], [], ss, F, e, e', as, tr, held, c, h, q => by
    have e1 : tr = [] := h
    subst e1
    have q' : some (([] : List SV), e) = some (ss, e') := q
    cases q'
    exact ⟨F, as, [], Same.refl _, c, rfl, rfl⟩
  | md :: mds, r :: rs, v :: vs, ss, F, e, e', as, tr, held, c, ⟨t1, t2, e1, h1, h2⟩, q => by
    subst e1
    have q' : (match VF.loadOne md r e with
      | some (s, e1) => (match VF.load mds rs e1 with
        | some (ss, e2) => some (s :: ss, e2)
        | none => none)
      | none => none) = some (ss, e') := q
    cases q1 : VF.loadOne md r e with
    | none => rw [q1] at q'; cases q'
    | some p =>
      obtain ⟨s, e1⟩ := p
      rw [q1] at q'
      cases q2 : VF.load mds rs e1 with
      | none => simp only [q2] at q'; cases q'
      | some p2 =>
        obtain ⟨ss2, e2⟩ := p2
        simp only [q2] at q'
        cases q'
        have c1 : Cf K mg pv F H σ e as (t1 ++ (t2 ++ held)) := c.perm (by rw [List.append_assoc]; exact pswap _ _ _)
        obtain ⟨F1, as1, t, s1, c2, ev, et⟩ := c1.loadOne h1 q1
        obtain ⟨F2, as2, ts, s2, c3, evs, ets⟩ := Cf.load (held := [t] ++ held) (c2.perm (pswap _ _ _)) h2 q2
        refine ⟨F2, as2, t :: ts, s1.trans s2, c3.perm (pswap ts [t] held), ?_, ?_⟩
        · show t.val :: vals ts = _
          rw [ev, evs]
        · show er t :: ers ts = _
          rw [et, ets]
  | [], _ :: _, _, _, _, _, _, _, _, _, _, _, q => by cases q
  | _ :: _, [], _, _, _, _, _, _, _, _, _, _, q => by cases q
  | _, [], _ :: _, _, _, _, _, _, _, _, _, h, _ => h.elim
  | _, _ :: _, [], _, _, _, _, _, _, _, _, h, _ => h.elim
theorem Cf.unload : ∀ {md : List Bool} {rs : List RV} {vs : List V} {ss : List SV} {e e' : Env} {as : List (Option AT)} {ts tr : List AT}, Cf K mg pv F H σ e as (ts ++ held) → RRs σ vs rs tr → vals ts = vs → ers ts = ss → unload md rs ss e = some e' →
    ∃ as', Cf K mg pv F H σ e' as' held
  | [], [], [], ss, e, e', as, ts, tr, c, h, ev, es, q => by
    cases ts with
    | nil =>
      have : ss = [] := es.symm
      subst this
      have q' : some e = some e' := q
      cases q'
      exact ⟨as, c⟩
    | cons t ts => cases ev
  | false :: mds, r :: rs, v :: vs, ss, e, e', as, ts, tr, c, ⟨t1, t2, e1, h1, h2⟩, ev, es, q => by
    cases ts with
    | nil => cases ev
    | cons t ts =>
      cases ss with
      | nil => cases es
      | cons s ss =>
        injection ev with ev1 ev2
        injection es with es1 es2
        exact Cf.unload (md := mds) (ts := ts) (Cf.drop (tr := [t]) c) h2 ev2 es2 q
  | true :: mds, r :: rs, v :: vs, ss, e, e', as, ts, tr, c, ⟨t1, t2, e1, h1, h2⟩, ev, es, q => by
    cases ts with
    | nil => cases ev
    | cons t ts =>
      cases ss with
      | nil => cases es
      | cons s ss =>
        injection ev with ev1 ev2
        injection es with es1 es2
        cases r with
        | fz _ => cases q
        | own _ => cases q
        | var i =>
          have q' : (if isClr e i = true then VF.unload mds rs ss (e.setS i s) else none) = some e' := q
          by_cases hi' : isClr e i = true
          · rw [if_pos hi'] at q'
            have hi := isClr_ok hi'
            have hv : σ[i]? = some (some v) := h1.2
            have hai : as[i]? = some none := by
              rw [c.r.sl, List.getElem?_map] at hi
              cases z : as[i]? with
              | none => rw [z] at hi; cases hi
              | some o => cases o with
                | none => rfl
                | some u => rw [z] at hi; cases hi
            have hlt : i < as.length := (List.getElem?_eq_some_iff.mp hai).1
            have c1 : Cf K mg pv F H σ (e.setS i s) (as.set i (some t)) (ts ++ held) := by
              refine ⟨c.s, ⟨?_, by rw [List.length_set]; exact c.r.len, fun j u hj => ?_, c.r.pin⟩, ?_⟩
              · show e.sl.set i (some s) = _
                rw [List.map_set, c.r.sl, ← es1]; rfl
              · by_cases z : j = i
                · subst z
                  rw [List.getElem?_set_self hlt] at hj
                  cases hj
                  rw [hv, ev1]
                · rw [List.getElem?_set_ne (Ne.symm z)] at hj
                  exact c.r.at_ j u hj
              · have g : Good K mg F H (t :: (opts as ++ (ts ++ held))) := c.g.perm (List.perm_middle (l₁ := opts as) (l₂ := ts ++ held) (a := t))
                exact g.perm ((opts_put t hai).append_right (ts ++ held))
            exact Cf.unload (md := mds) (ts := ts) c1 h2 ev2 es2 q'
          · rw [if_neg hi'] at q'; cases q'
  | [], _ :: _, _, _, _, _, _, _, _, _, _, _, _, q => by cases q
  | true :: _, [], _, _, _, _, _, _, _, _, _, _, _, q => by cases q
  | false :: _, [], _, _, _, _, _, _, _, _, _, _, _, q => by cases q
  | _, [], _ :: _, _, _, _, _, _, _, _, h, _, _, _ => h.elim
  | _, _ :: _, [], _, _, _, _, _, _, _, h, _, _, _ => h.elim
def dCall (md : List Bool) (φ : Fn) (a : M (List RV)) : M RV := a.bind fun rs e => match load md rs e with
  | some (ss, e1) => (match φ ss with
    | .st => .st
    | .ok r ss' => (match unload md rs ss' e1 with
      | some e2 => .ok (svR r) e2
      | none => .st)
    | .ex x ss' => (match unload md rs ss' e1 with
      | some e2 => .ex x e2
      | none => .st))
  | none => .st
theorem load_len : ∀ {md : List Bool} {rs : List RV} {e : Env} {p : List SV × Env}, load md rs e = some p → rs.length = md.length
  | [], [], _, _, _ => rfl
  | md :: mds, r :: rs, e, p, q => by
    have q' : (match VF.loadOne md r e with
      | some (s, e1) => (match VF.load mds rs e1 with
        | some (ss, e2) => some (s :: ss, e2)
        | none => none)
      | none => none) = some p := q
    cases q1 : VF.loadOne md r e with
    | none => rw [q1] at q'; cases q'
    | some p1 =>
      rw [q1] at q'
      cases q2 : VF.load mds rs p1.2 with
      | none => simp only [q2] at q'; cases q'
      | some p2 => exact congrArg Nat.succ (load_len q2)
  | [], _ :: _, _, _, q => by cases q
  | _ :: _, [], _, _, q => by cases q
theorem RRs.length : ∀ {vs : List V} {rs : List RV} {tr : List AT}, RRs σ vs rs tr → vs.length = rs.length
  | [], [], _, _ => rfl
  | _ :: _, _ :: _, _, ⟨_, _, _, _, h⟩ => congrArg Nat.succ (RRs.length h)
  | [], _ :: _, _, h => h.elim
  | _ :: _, [], _, h => h.elim
theorem se_call {md : List Bool} {φ : Fn} {ta : TA} {ma : M (List RV)} (ha : SA K mg E ta ma) : SE K mg E (tCallS (spF K mg md.length φ) (fun σ cls d H => E cls d σ H) ta) (dCall md φ ma) := by
  intro pv F H σ e as held Q c w
  refine ha pv F H σ e as held _ c (WA.bindA (W := WE K mg pv F held σ Q E) (fun z => z) w (fun _ _ z => z) fun rs e1 vs F1 H1 as1 tr1 s1 c1 rr1 w1 => ?_)
  cases q : load md rs e1 with
  | none => simp only [q] at w1; exact w1.elim
  | some p =>
    obtain ⟨ss, e2⟩ := p
    simp only [q] at w1
    obtain ⟨F2, as2, ts, s2, c2, ev, es⟩ := c1.load rr1 q
    have lt : ts.length = md.length := by
      rw [← load_len q, ← rr1.length, ← ev]; exact (List.length_map _).symm
    refine ⟨F2, ts, opts as2 ++ held, ev.symm, lt, c2.s, c2.g.perm (pswap _ _ _), ?_⟩
    rw [es]
    cases q2 : φ ss with
    | st => simp only [q2] at w1; exact w1.elim
    | ok r ss' =>
      simp only [q2] at w1
      intro v F3 H3 t ts' s3 s4 et er' evs ess g
      cases q3 : unload md rs ss' e2 with
      | none => simp only [q3] at w1; exact w1.elim
      | some e3 =>
        simp only [q3] at w1
        have c3 : Cf K mg pv F3 H3 σ e2 as2 (ts' ++ ([t] ++ held)) := ⟨s4, c2.r, g.perm (by
          have h1 : (t :: (ts' ++ (opts as2 ++ held))).Perm (ts' ++ (opts as2 ++ ([t] ++ held))) := by
            refine (List.perm_middle (l₁ := ts') (l₂ := opts as2 ++ held) (a := t)).symm.trans ?_
            exact List.Perm.append_left _ (List.perm_middle (l₁ := opts as2) (l₂ := held) (a := t)).symm
          exact h1.trans (pswap _ _ _))⟩
        obtain ⟨as3, c4⟩ := c3.unload rr1 evs ess q3
        subst et er'
        exact w1 t.val F3 H3 as3 [t] ((s1.trans s2).trans s3) c4 (rr_svR t)
    | ex x ss' =>
      simp only [q2] at w1
      intro cls d F3 H3 ts' s3 s4 rx hn evs ess g
      cases q3 : unload md rs ss' e2 with
      | none => simp only [q3] at w1; exact w1.elim
      | some e3 =>
        simp only [q3] at w1
        have c3 : Cf K mg pv F3 H3 σ e2 as2 (ts' ++ held) := ⟨s4, c2.r, g.perm (pswap _ _ _)⟩
        obtain ⟨as3, c4⟩ := c3.unload rr1 evs ess q3
        exact w1 cls d F3 H3 σ as3 ((s1.trans s2).trans s3) c4 rx fun dd q => none_le (s1.trans s2) (hn dd q)
end
end VF
set_option maxRecDepth 100000
set_option maxHeartbeats 4000000
namespace VF
set_option autoImplicit false
open PySem PySem.Spec PyProof.Rows L2
open AT (cells cellsL er ers)
section
variable {K : PySem.W.Frag} {mg : Str → Option Value} {pv : List (Nat × V)} {F F' H H' : Hp} {σ : L2.St} {e e' : Env} {as as' : List (Option AT)} {held tr ts us : List AT} {E : XS}
def immS : SV → Option D
  | .fz d => (match imm d with
    | some _ => some d
    | none => none)
  | _ => none
def dCallB (n : Nat) (φ : Fn) (a : M (List RV)) : M RV := a.bind fun rs e => match rs.mapM (view e) with
  | some ds => if ds.length = n then (match φ (ds.map .fz) with
    | .ok r _ => (match immS r with
      | some d => .ok (.fz d) e
      | none => .st)
    | .ex x _ => .ex x e
    | .st => .st) else .st
  | none => .st
theorem Good.same {ts : List AT} (g : Good K mg F H ts) (s : Same H H') : Good K mg F H' ts := ⟨fun c hc => ⟨s _ _ (g.at_ c hc).1, (g.at_ c hc).2⟩, g.ok, g.nd⟩
theorem Cf.same (c : Cf K mg pv F H σ e as held) (s : Same H H') : Cf K mg pv F H' σ e as held := ⟨c.s.trans s, c.r, c.g.same s⟩
theorem se_callB {n : Nat} {φ : Fn} {ta : TA} {ma : M (List RV)} (ha : SA K mg E ta ma) : SE K mg E (tCallS (spF K mg n φ) (fun σ cls d H => E cls d σ H) ta) (dCallB n φ ma) := by
  intro pv F H σ e as held Q c w
  refine ha pv F H σ e as held _ c (WA.bindA (W := WE K mg pv F held σ Q E) (fun z => z) w (fun _ _ z => z) fun rs e1 vs F1 H1 as1 tr1 s1 c1 rr1 w1 => ?_)
  cases q : rs.mapM (view e1) with
  | none => simp only [q] at w1; exact w1.elim
  | some ds =>
    simp only [q] at w1
    have rp := RRs.seen (rs := rs) c1 rr1 (fun t ht => List.mem_append_left _ ht) q
    by_cases hn : ds.length = n
    · rw [if_pos hn] at w1
      have g0 : Good K mg H1 H1 ([] : List AT) := ⟨fun c hc => absurd (show c ∈ ([] : List (Addr × HO)) from hc) List.not_mem_nil, trivial, List.nodup_nil⟩
      have lz : (atoms vs ds).length = n := by
        unfold atoms
        rw [List.length_map, List.length_zip, rp.length, Nat.min_self]; exact hn
      refine ⟨H1, atoms vs ds, [], by rw [vals_atoms rp], lz, Same.refl _, g0.atoms rp, ?_⟩
      rw [ers_atoms rp]
      have c1' := c1.drop
      cases q2 : φ (ds.map .fz) with
      | st => simp only [q2] at w1; exact w1.elim
      | ok r ss' =>
        simp only [q2] at w1
        intro v F3 H3 t ts' s3 s4 et er' _ _ g
        cases q3 : immS r with
        | none => simp only [q3] at w1; exact w1.elim
        | some d =>
          simp only [q3] at w1
          subst et
          have sh : Same H1 H3 := s3.trans s4
          cases r with
          | fz d' =>
            have q3' : (match imm d' with | some _ => some d' | none => none) = some d := q3
            cases q4 : imm d' with
            | none => rw [q4] at q3'; cases q3'
            | some u =>
              rw [q4] at q3'
              have ed : d' = d := Option.some.inj q3'
              subst ed
              cases t with
              | fz v0 d0 =>
                have e0 : d0 = d' := by simpa [er] using er'
                subst e0
                have rv : Rep K mg F3 v0 d0 := g.unfz.2
                have ev : v0 = u := by
                  cases d0 <;> first | (cases q4; exact rv) | cases q4
                subst ev
                exact w1 v0 F1 H3 as1 _ s1 ((c1'.same sh).fz (rep_imm q4)) rfl
              | ol _ _ => simp [er] at er'
              | oo _ _ _ _ _ _ => simp [er] at er'
              | od _ _ _ => simp [er] at er'
          | ol _ => cases q3
          | oo _ _ _ => cases q3
          | od _ _ => cases q3
      | ex x ss' =>
        simp only [q2] at w1
        intro cls d F3 H3 ts' s3 s4 rx hn _ _ g
        have sh : Same H1 H3 := s3.trans s4
        have n0 : ∀ dd, d = some dd → F dd = none := fun dd q => none_le (s1.trans c1.s) (hn dd q)
        exact w1 cls d F1 H3 σ as1 s1 (c1'.same sh) rx n0
    · rw [if_neg hn] at w1; exact w1.elim
def pinIx (i : Nat) : List Bool → List Nat
  | [] => []
  | true :: l => i :: pinIx (i + 1) l
  | false :: l => pinIx (i + 1) l
def okArgs : List Bool → List SV → Bool
  | [], [] => true
  | true :: l, _ :: ss => okArgs l ss
  | false :: l, .fz _ :: ss => okArgs l ss
  | _, _ => false
def outs (i : Nat) : List Bool → List SV → Env → Option (List SV)
  | [], [], _ => some []
  | false :: l, s :: ss, e => (match outs (i + 1) l ss e with
    | some r => some (s :: r)
    | none => none)
  | true :: l, _ :: ss, e => (match e.sl[i]? with
    | some (some s) => (match outs (i + 1) l ss (e.clr i) with
      | some r => some (s :: r)
      | none => none)
    | _ => none)
  | _, _, _ => none
def resOf (f : Fl) (e : Env) : Option (SV × Env) := match f with
  | .nx => some (.fz .non, e)
  | .rt (.fz d) => some (.fz d, e)
  | .rt (.own s) => some (s, e)
  | .rt (.var i) => (match e.sl[i]? with
    | some (some s) => if i ∈ e.pn then some (.fz s.toD, e.setS i (.fz s.toD)) else some (s, e.clr i)
    | _ => none)
  | _ => none
def env0 (md : List Bool) (n : Nat) (ss : List SV) : Env := ⟨ss.map some ++ List.replicate (n - ss.length) none, pinIx 0 md⟩
def mkFn (md : List Bool) (n : Nat) (m : M Fl) : Fn := fun ss => if okArgs md ss = true then (match m (env0 md n ss) with
  | .st => .st
  | .ok f e => (match resOf f e with
    | some (r, e1) => (match outs 0 md ss e1 with
      | some ss' => .ok r ss'
      | none => .st)
    | none => .st)
  | .ex x e => (match outs 0 md ss e with
    | some ss' => .ex x ss'
    | none => .st)) else .st
theorem outs_ok {md : List Bool} : ∀ {i : Nat} {ss ss' : List SV} {vs : List V} {ts0 us : List AT} {e : Env} {as : List (Option AT)}, Cf K mg pv F' H' σ e as us → Oks K mg F' (ts0.filter fun t => match t with | .fz _ _ => true | _ => false) → okArgs md ss = true → vals ts0 = vs → ers ts0 = ss →
    (∀ (j : Nat) (v : V), vs[j]? = some v → md[j]? = some true → σ[i + j]? = some (some v)) → outs i md ss e = some ss' → ∃ ts', Good K mg F' H' (ts' ++ us) ∧ vals ts' = vs ∧ ers ts' = ss' := by
  induction md with
  | nil =>
    intro i ss ss' vs ts0 us e as c hok ho hv he hs q
    cases ss with
    | nil =>
      cases ts0 with
      | nil =>
        have : ss' = [] := by simpa [outs] using q.symm
        subst this
        exact ⟨[], c.g.sub, by rw [← hv], rfl⟩
      | cons _ _ => cases he
    | cons _ _ => cases ho
  | cons b md ih =>
    intro i ss ss' vs ts0 us e as c hok ho hv he hs q
    cases ss with
    | nil => cases b <;> cases ho
    | cons s ss =>
      cases ts0 with
      | nil => cases he
      | cons t ts0 =>
        cases vs with
        | nil => cases hv
        | cons v vs =>
          injection hv with hv1 hv2
          injection he with he1 he2
          have hs' : ∀ (j : Nat) (w : V), vs[j]? = some w → md[j]? = some true → σ[i + 1 + j]? = some (some w) := fun j w h1 h2 => by
            have := hs (j + 1) w (by simpa using h1) (by simpa using h2)
            rw [show i + 1 + j = i + (j + 1) by omega]
            exact this
          cases b with
          | false =>
            cases s with
            | fz d =>
              have q' : (match outs (i + 1) md ss e with | some r => some (SV.fz d :: r) | none => none) = some ss' := q
              cases q1 : outs (i + 1) md ss e with
              | none => rw [q1] at q'; cases q'
              | some r =>
                rw [q1] at q'
                cases q'
                cases t with
                | fz v0 d0 =>
                  have hok' : Ok K mg F' (.fz v0 d0) ∧ Oks K mg F' (ts0.filter fun t => match t with | .fz _ _ => true | _ => false) := by
                    simpa [List.filter_cons, Oks] using hok
                  obtain ⟨ts', g, e1, e2⟩ := ih c hok'.2 (by simpa [okArgs] using ho) hv2 he2 hs' q1
                  refine ⟨.fz v0 d0 :: ts', g.fz hok'.1, ?_, ?_⟩
                  · show v0 :: vals ts' = _
                    rw [e1]
                    rw [show v0 = v from hv1]
                  · show SV.fz d0 :: ers ts' = _
                    rw [e2]
                    rw [show SV.fz d0 = .fz d from he1]
                | ol _ _ => cases he1
                | oo _ _ _ _ _ _ => cases he1
                | od _ _ _ => cases he1
            | ol _ => cases ho
            | oo _ _ _ => cases ho
            | od _ _ => cases ho
          | true =>
            have q' : (match e.sl[i]? with
              | some (some s) => (match outs (i + 1) md ss (e.clr i) with
                | some r => some (s :: r)
                | none => none)
              | _ => none) = some ss' := q
            cases z : e.sl[i]? with
            | none => rw [z] at q'; cases q'
            | some o =>
              cases o with
              | none => rw [z] at q'; cases q'
              | some s' =>
                rw [z] at q'
                simp only at q'
                cases q1 : outs (i + 1) md ss (e.clr i) with
                | none => rw [q1] at q'; cases q'
                | some r =>
                  rw [q1] at q'
                  cases q'
                  obtain ⟨u, hu, eu⟩ := c.r.slotOf z
                  have hv3 := c.r.at_ i u hu
                  have hv4 := hs 0 v rfl rfl
                  rw [Nat.add_zero, hv3] at hv4
                  have euv : u.val = v := by simpa using hv4
                  have hok' : Oks K mg F' (ts0.filter fun t => match t with | .fz _ _ => true | _ => false) := by
                    cases t with
                    | fz v0 d0 => exact (by simpa [List.filter_cons, Oks] using hok : Ok K mg F' (.fz v0 d0) ∧ _).2
                    | ol _ _ => simpa [List.filter_cons] using hok
                    | oo _ _ _ _ _ _ => simpa [List.filter_cons] using hok
                    | od _ _ _ => simpa [List.filter_cons] using hok
                  obtain ⟨ts', g, e1, e2⟩ := ih (c.clr hu) hok' (by simpa [okArgs] using ho) hv2 he2 hs' q1
                  refine ⟨u :: ts', g.perm ?_, ?_, ?_⟩
                  · exact List.perm_middle (l₁ := ts') (l₂ := us) (a := u)
                  · show u.val :: vals ts' = _
                    rw [e1, euv]
                  · show er u :: ers ts' = _
                    rw [e2, eu]
end
end VF
set_option maxRecDepth 100000
set_option maxHeartbeats 4000000
namespace VF
set_option autoImplicit false
open PySem PySem.Spec PyProof.Rows L2
open AT (cells cellsL er ers)
section
variable {K : PySem.W.Frag} {mg : Str → Option Value} {pv : List (Nat × V)} {F F' H H' : Hp} {σ : L2.St} {e e' : Env} {as as' : List (Option AT)} {held tr ts us : List AT} {E : XS}
def pins (i : Nat) : List Bool → List V → List (Nat × V)
  | true :: l, v :: vs => (i, v) :: pins (i + 1) l vs
  | false :: l, _ :: vs => pins (i + 1) l vs
  | _, _ => []
theorem pins_at : ∀ {md : List Bool} {vs : List V} {i j : Nat} {v : V}, md[j]? = some true → vs[j]? = some v → (i + j, v) ∈ pins i md vs
  | true :: _, v :: _, i, 0, _, _, h => by cases h; exact List.mem_cons_self
  | false :: _, _ :: _, _, 0, _, h, _ => by cases h
  | true :: md, v :: vs, i, j + 1, _, h, h' => by
    have := pins_at (md := md) (vs := vs) (i := i + 1) (j := j) (by simpa using h) (by simpa using h')
    rw [show i + (j + 1) = i + 1 + j by omega]
    exact List.mem_cons_of_mem _ this
  | false :: md, v :: vs, i, j + 1, _, h, h' => by
    have := pins_at (md := md) (vs := vs) (i := i + 1) (j := j) (by simpa using h) (by simpa using h')
    rw [show i + (j + 1) = i + 1 + j by omega]
    exact this
  | [], _, _, _, _, h, _ => by cases h
  | _ :: _, [], _, _, _, _, h => by cases h
theorem pins_mem : ∀ {md : List Bool} {vs : List V} {i : Nat} {p : Nat × V}, p ∈ pins i md vs → ∃ j, p.1 = i + j ∧ vs[j]? = some p.2 ∧ p.1 ∈ pinIx i md
  | true :: md, v :: vs, i, p, h => by
    rcases List.mem_cons.mp (show p ∈ (i, v) :: pins (i + 1) md vs from h) with q | q
    · subst q; exact ⟨0, rfl, rfl, List.mem_cons_self⟩
    · obtain ⟨j, h1, h2, h3⟩ := pins_mem q
      exact ⟨j + 1, by omega, by simpa using h2, List.mem_cons_of_mem _ h3⟩
  | false :: md, v :: vs, i, p, h => by
    obtain ⟨j, h1, h2, h3⟩ := pins_mem (show p ∈ pins (i + 1) md vs from h)
    exact ⟨j + 1, by omega, by simpa using h2, h3⟩
  | [], _, _, _, h => absurd (show _ ∈ ([] : List (Nat × V)) from h) List.not_mem_nil
  | true :: _, [], _, _, h => absurd (show _ ∈ ([] : List (Nat × V)) from h) List.not_mem_nil
  | false :: _, [], _, _, h => absurd (show _ ∈ ([] : List (Nat × V)) from h) List.not_mem_nil
theorem opts_start (ts : List AT) (k : Nat) : opts (ts.map some ++ List.replicate k none) = ts := by
  unfold opts
  rw [List.filterMap_append]
  have h1 : ∀ l : List AT, (l.map some).filterMap id = l := fun l => by
    induction l with
    | nil => rfl
    | cons a l ih => rw [List.map_cons, List.filterMap_cons]; simp [ih]
  have h2 : (List.replicate k (none : Option AT)).filterMap id = [] := by
    induction k with
    | zero => rfl
    | succ k ih => rw [List.replicate_succ, List.filterMap_cons]; simpa using ih
  rw [h1, h2, List.append_nil]
theorem start_ok {md : List Bool} {N : List Str} (s : Same F H) (g : Good K mg F H (ts ++ held)) :
    Cf K mg (pins 0 md (vals ts)) F H (L2.start N (vals ts)) (env0 md N.length (ers ts)) (ts.map some ++ List.replicate (N.length - ts.length) none) held := by
  have lv : (vals ts).length = ts.length := List.length_map _
  refine ⟨s, ⟨?_, ?_, fun j u hj => ?_, fun p hp => ?_⟩, by rw [opts_start]; exact g⟩
  · show (ers ts).map some ++ List.replicate (N.length - (ers ts).length) none = _
    rw [List.map_append, List.map_replicate, ers_length, ers_eq, List.map_map, List.map_map]
    rfl
  · unfold L2.start
    rw [List.length_append, List.length_append, List.length_map, List.length_map, List.length_replicate, List.length_replicate, lv]
  · have hlt : j < ts.length := by
      by_cases q : j < ts.length
      · exact q
      · rw [List.getElem?_append_right (by simpa using q), List.getElem?_replicate] at hj
        split at hj <;> cases hj
    rw [List.getElem?_append_left (by simpa using hlt), List.getElem?_map] at hj
    unfold L2.start
    rw [List.getElem?_append_left (by rw [List.length_map, lv]; exact hlt), List.getElem?_map]
    unfold vals
    rw [List.getElem?_map]
    cases z : ts[j]? with
    | none => rw [z] at hj; cases hj
    | some t => rw [z] at hj; cases hj; rfl
  · obtain ⟨j, h1, h2, h3⟩ := pins_mem hp
    refine ⟨h3, ?_⟩
    rw [Nat.zero_add] at h1
    rw [h1]
    have hlt : j < (vals ts).length := (List.getElem?_eq_some_iff.mp h2).1
    unfold L2.start
    rw [List.getElem?_append_left (by rw [List.length_map]; exact hlt), List.getElem?_map, h2]
    rfl
theorem body_ok {Ef : XK} {md : List Bool} {N : List Str} {m : M Fl} {t : TS} {vs : List V} {Q : VK} (ht : SS K mg (fun cls d _ H => Ef cls d H) t m) (w : spF K mg md.length (mkFn md N.length m) vs H Q Ef) :
    t { nx := fun _ H' => Q .non H', rt := Q } (L2.start N vs) H := by
  obtain ⟨F, ts, held, rfl, lt, s, g, w⟩ := w
  have okf : ∀ {F'}, Same F F' → Oks K mg F' (ts.filter fun t => match t with | .fz _ _ => true | _ => false) := fun s' => by
    refine Oks.mem.mpr fun t ht => ?_
    exact Ok.same s' (Oks.mem.mp g.ok t (List.mem_append_left _ (List.mem_filter.mp ht).1))
  unfold mkFn at w
  by_cases ha : okArgs md (ers ts) = true
  · rw [if_pos ha] at w
    have fin : ∀ {F' H' σ' e2 as2 us ss'}, Same F F' → Cf K mg (pins 0 md (vals ts)) F' H' σ' e2 as2 us → outs 0 md (ers ts) e2 = some ss' → ∃ ts', Good K mg F' H' (ts' ++ us) ∧ vals ts' = vals ts ∧ ers ts' = ss' := fun s' c' q =>
      outs_ok c' (okf s') ha rfl rfl (fun j v h1 h2 => (c'.r.pin (0 + j, v) (pins_at h2 h1)).2) q
    refine ht _ F H _ _ _ held _ (start_ok (md := md) (N := N) s g) ?_
    cases q : m (env0 md N.length (ers ts)) with
    | st => simp only [q] at w
    | ex x e1 =>
      simp only [q] at w
      intro cls d F' H' σ' as' s' c' rx hn
      cases q2 : outs 0 md (ers ts) e1 with
      | none => simp only [q2] at w
      | some ss' =>
        simp only [q2] at w
        obtain ⟨ts', g', h1, h2⟩ := fin s' c' q2
        exact w cls d F' H' ts' s' c'.s rx hn h1 h2 g'
    | ok f e1 =>
      simp only [q] at w
      cases f with
      | bk => simp only [resOf] at w
      | ct => simp only [resOf] at w
      | nx =>
        simp only [resOf] at w
        intro σ' F' H' as' s' c'
        cases q2 : outs 0 md (ers ts) e1 with
        | none => simp only [q2] at w
        | some ss' =>
          simp only [q2] at w
          obtain ⟨ts', g', h1, h2⟩ := fin s' (c'.fz (show Rep K mg F' .non .non from rfl)) q2
          exact w .non F' H' (.fz .non .non) ts' s' c'.s rfl rfl h1 h2 (g'.perm (pswap ts' [.fz .non .non] held))
      | rt r =>
        intro v σ' F' H' as' tr s' c' rr
        cases r with
        | fz d =>
          simp only [resOf] at w
          have e1 : tr = [.fz v d] := rr
          subst e1
          cases q2 : outs 0 md (ers ts) e1 with
          | none => simp only [q2] at w
          | some ss' =>
            simp only [q2] at w
            obtain ⟨ts', g', h1, h2⟩ := fin s' c' q2
            exact w v F' H' (.fz v d) ts' s' c'.s rfl rfl h1 h2 (g'.perm (pswap ts' [.fz v d] held))
        | own s =>
          simp only [resOf] at w
          obtain ⟨t0, e1, e2, e3⟩ := rr
          subst e1
          cases q2 : outs 0 md (ers ts) e1 with
          | none => simp only [q2] at w
          | some ss' =>
            simp only [q2] at w
            obtain ⟨ts', g', h1, h2⟩ := fin s' c' q2
            exact w v F' H' t0 ts' s' c'.s e2 e3 h1 h2 (g'.perm (pswap ts' [t0] held))
        | var i =>
          obtain ⟨e2, hv⟩ := rr
          subst e2
          simp only [resOf] at w
          cases z : e1.sl[i]? with
          | none => simp only [z] at w
          | some o =>
            cases o with
            | none => simp only [z] at w
            | some s0 =>
              simp only [z] at w
              obtain ⟨t0, h0, e0⟩ := c'.r.slotOf z
              have hv2 := c'.r.at_ i t0 h0
              rw [hv] at hv2
              have ev : v = t0.val := by simpa using hv2
              subst e0
              by_cases hp : i ∈ e1.pn
              · simp only [if_pos hp] at w
                obtain ⟨F2, s2, c2, rp⟩ := Cf.frzS (held := held) c' h0
                cases q2 : outs 0 md (ers ts) (e1.setS i (.fz (er t0).toD)) with
                | none => simp only [q2] at w
                | some ss' =>
                  simp only [q2] at w
                  obtain ⟨ts', g', h1, h2⟩ := fin (s'.trans s2) (c2.fz rp) q2
                  exact w v F2 H' (.fz t0.val (er t0).toD) ts' (s'.trans s2) c2.s ev.symm rfl h1 h2 (g'.perm (pswap ts' [.fz t0.val (er t0).toD] held))
              · simp only [if_neg hp] at w
                cases q2 : outs 0 md (ers ts) (e1.clr i) with
                | none => simp only [q2] at w
                | some ss' =>
                  simp only [q2] at w
                  obtain ⟨ts', g', h1, h2⟩ := fin s' (Cf.clr (held := held) c' h0) q2
                  exact w v F' H' t0 ts' s' c'.s ev.symm rfl h1 h2 (g'.perm (pswap ts' [t0] held))
  · rw [if_neg ha] at w; exact w.elim
end
def wE (K : PySem.W.Frag) (mg : Str → Option Value) (E : XS) (m : M RV) : TE := fun σ H Q => ∃ pv F e as held, Cf K mg pv F H σ e as held ∧ WE K mg pv F held σ Q E (m e)
def wT (K : PySem.W.Frag) (mg : Str → Option Value) (E : XS) (m : M Bool) : TT := fun σ H Q => ∃ pv F e as held, Cf K mg pv F H σ e as held ∧ WT K mg pv F held σ Q E (m e)
def wA (K : PySem.W.Frag) (mg : Str → Option Value) (E : XS) (m : M (List RV)) : TA := fun σ H Q => ∃ pv F e as held, Cf K mg pv F H σ e as held ∧ WA K mg pv F held σ Q E (m e)
def wS (K : PySem.W.Frag) (mg : Str → Option Value) (E : XS) (m : M Fl) : TS := fun D σ H => ∃ pv F e as held, Cf K mg pv F H σ e as held ∧ WS K mg pv F held E D (m e)
section
variable {K : PySem.W.Frag} {mg : Str → Option Value} {E : XS}
theorem se_w {m : M RV} : SE K mg E (wE K mg E m) m := fun pv F H σ e as held Q c w => ⟨pv, F, e, as, held, c, w⟩
theorem st_w {m : M Bool} : ST K mg E (wT K mg E m) m := fun pv F H σ e as held Q c w => ⟨pv, F, e, as, held, c, w⟩
theorem sa_w {m : M (List RV)} : SA K mg E (wA K mg E m) m := fun pv F H σ e as held Q c w => ⟨pv, F, e, as, held, c, w⟩
theorem ss_w {m : M Fl} : SS K mg E (wS K mg E m) m := fun pv F H σ e as held D c w => ⟨pv, F, e, as, held, c, w⟩
end
def VE (X : Cx) (E : XS) (e : Expr) (m : M RV) : Prop := PE X e (wE X.K X.mg E m)
def VT (X : Cx) (E : XS) (e : Expr) (m : M Bool) : Prop := PT X e (wT X.K X.mg E m)
def VA (X : Cx) (E : XS) (es : List Expr) (m : M (List RV)) : Prop := PA X es (wA X.K X.mg E m)
def VS (X : Cx) (E : XS) (s : Stmt) (m : M Fl) : Prop := PS X s (wS X.K X.mg E m)
def VB (X : Cx) (E : XS) (ss : List Stmt) (m : M Fl) : Prop := PSs X ss (wS X.K X.mg E m)
section
variable {X : Cx} {E : XS}
theorem VE.mk {e : Expr} {t : TE} {m : M RV} (h : PE X e t) (s : SE X.K X.mg E t m) : VE X E e m := ⟨fun pins s0 σ H Q I ⟨pv, F, e0, as, held, c, w⟩ => h.run pins s0 σ H Q I (s pv F H σ e0 as held Q c w)⟩
theorem VT.mk {e : Expr} {t : TT} {m : M Bool} (h : PT X e t) (s : ST X.K X.mg E t m) : VT X E e m := ⟨fun pins s0 σ H Q I ⟨pv, F, e0, as, held, c, w⟩ => h.run pins s0 σ H Q I (s pv F H σ e0 as held Q c w)⟩
theorem VA.mk {e : List Expr} {t : TA} {m : M (List RV)} (h : PA X e t) (s : SA X.K X.mg E t m) : VA X E e m := ⟨fun pos pins s0 σ H Q I ⟨pv, F, e0, as, held, c, w⟩ => h.run pos pins s0 σ H Q I (s pv F H σ e0 as held Q c w)⟩
theorem VS.mk {e : Stmt} {t : TS} {m : M Fl} (h : PS X e t) (s : SS X.K X.mg E t m) : VS X E e m := ⟨fun pins s0 σ H D I ⟨pv, F, e0, as, held, c, w⟩ => h.run pins s0 σ H D I (s pv F H σ e0 as held D c w)⟩
theorem VB.mk {e : List Stmt} {t : TS} {m : M Fl} (h : PSs X e t) (s : SS X.K X.mg E t m) : VB X E e m := ⟨fun pins s0 σ H D I ⟨pv, F, e0, as, held, c, w⟩ => h.run pins s0 σ H D I (s pv F H σ e0 as held D c w)⟩
end
def mkFn0 (md : List Bool) (n : Nat) (m : M Fl) : Fn := fun ss => match mkFn md n m ss with
  | .ok r as => .ok r as
  | _ => .st
theorem fn_ok {P : Program} {w : World} {K : PySem.W.Frag} {mg : Str → Option Value} {base : Heap} {x qual : Str} {params : Arguments} {body : List Stmt} {scope : Scope} {dvs : List V} {kws : List (Str × V)} {f : Addr} {fd : FuncData} {N ps : List Str} {k : Nat}
    (F : FunD K x qual params body scope dvs kws f fd) (S : FnScope N ps scope) (md : List Bool) (hl : md.length = ps.length) {m : M Fl} {n : Nat} (hN : N.length = n)
    (hb : ∀ (cdv : Value) (A : Around) (outer : List PySem.Env) (s : Shared) (H : Hp) (E : XK), Room k (A.deeper (envOfC qual scope s.heap.objs.size f cdv)) → VB (cxOf CX0 P w K mg base N qual scope f cdv A outer s H E).nox E0 body m) :
    FnOk P w K mg base CX0 (k + 1) f fd ps (spF K mg md.length (mkFn0 md n m)) := by
  subst hN
  refine F.ok S (fun vs H Q E h => ?_) (fun cdv A outer s H vs Q E hr h => ⟨_, (hb cdv A outer s H E hr).nox, ?_⟩)
  · obtain ⟨F, ts, held, rfl, lt, _⟩ := h
    rw [← hl, ← lt]; exact List.length_map _
  · have h' : spF K mg md.length (mkFn md N.length m) vs H Q L2.E0 := by
      obtain ⟨F, ts, held, e1, lt, s, g, w⟩ := h
      refine ⟨F, ts, held, e1, lt, s, g, ?_⟩
      unfold mkFn0 at w
      cases q : mkFn md N.length m (ers ts) with
      | st => rw [q] at w; exact w
      | ok r as => rw [q] at w; exact w
      | ex x as => rw [q] at w; exact w.elim
    exact body_ok (Ef := L2.E0) ss_w h'
end VF
set_option maxRecDepth 100000
set_option maxHeartbeats 4000000
namespace VF
set_option autoImplicit false
open PySem PySem.Spec PyProof.Rows L2
open AT (cells cellsL er ers)
structure ItOk (K : PySem.W.Frag) (mg : Str → Option Value) (F0 : Hp) (J : It) (ds : List D) : Prop where
  go : ∀ (i : Nat) F H, Same F0 F → Same F H → i < ds.length → J.go i H
  yld : ∀ (i : Nat) F H x H', Same F0 F → Same F H → i < ds.length → J.yld i H x H' → ∃ F' d, Same F F' ∧ Same F' H' ∧ (∀ us, Good K mg F H us → Good K mg F' H' us) ∧ ds[i]? = some d ∧ Rep K mg F' x d
  stop : ∀ (i : Nat) F H, Same F0 F → Same F H → ds.length ≤ i → J.stop i H
section
variable {K : PySem.W.Frag} {mg : Str → Option Value} {pv : List (Nat × V)} {F F' H H' : Hp} {σ : L2.St} {e e' : Env} {as as' : List (Option AT)} {held tr ts us : List AT} {E : XS}
def WI (K : PySem.W.Frag) (mg : Str → Option Value) (pv : List (Nat × V)) (F : Hp) (held : List AT) (σ : L2.St) (Q : It → Hp → Prop) (E : XS) : R (List D) → Prop
  | .st => False
  | .ok ds e' => ∀ J F' H' as', Same F F' → Cf K mg pv F' H' σ e' as' held → ItOk K mg F' J ds → Q J H'
  | .ex x e' => WX K mg pv F held E x e'
def SI (K : PySem.W.Frag) (mg : Str → Option Value) (E : XS) (t : TI) (m : M (List D)) : Prop := ∀ pv F H σ e as held Q, Cf K mg pv F H σ e as held → WI K mg pv F held σ Q E (m e) → t σ H Q
theorem it_list {a : Addr} {vs : List V} {ds : List D} (h : F a = some (.lst vs)) (r : Reps K mg F vs ds) : ItOk K mg F (Itl K a) ds where
  go := fun i F1 H1 s s' hi => by
    have hv : i < vs.length := by rw [r.length]; exact hi
    exact ⟨vs, vs[i], SqL.of (s' _ _ (s _ _ h)), List.getElem?_eq_getElem hv⟩
  yld := fun i F1 H1 x H' s s' hi y => by
    obtain ⟨e1, y⟩ := y
    subst e1
    obtain ⟨d, hd, rd⟩ := r.getV (y vs (SqL.of (s' _ _ (s _ _ h))))
    exact ⟨F1, d, Same.refl _, s', fun us g => g, hd, Rep.same s rd⟩
  stop := fun i F1 H1 s s' hi => ⟨vs, SqL.of (s' _ _ (s _ _ h)), by rw [r.length]; exact hi⟩
theorem it_tup {a : Addr} {vs : List V} {ds : List D} (h : SqT K F a vs) (r : Reps K mg F vs ds) : ItOk K mg F (Itt K a) ds where
  go := fun i F1 H1 s s' hi => by
    have hv : i < vs.length := by rw [r.length]; exact hi
    exact ⟨vs, vs[i], SqT_same s' (SqT_same s h), List.getElem?_eq_getElem hv⟩
  yld := fun i F1 H1 x H' s s' hi y => by
    obtain ⟨e1, y⟩ := y
    subst e1
    obtain ⟨d, hd, rd⟩ := r.getV (y vs (SqT_same s' (SqT_same s h)))
    exact ⟨F1, d, Same.refl _, s', fun us g => g, hd, Rep.same s rd⟩
  stop := fun i F1 H1 s s' hi => ⟨vs, SqT_same s' (SqT_same s h), by rw [r.length]; exact hi⟩
def signs (z : Str) : List D := z.cps.toList.map fun c => .str ⟨#[c]⟩
theorem it_str {z : Str} : ItOk K mg F (Its z) (signs z) where
  go := fun i F1 H1 s s' hi => by
    have : i < z.cps.size := by simpa [signs] using hi
    exact this
  yld := fun i F1 H1 x H' s s' hi y => by
    obtain ⟨e1, c, hc, ex⟩ := y
    subst e1 ex
    refine ⟨F1, .str ⟨#[c]⟩, Same.refl _, s', fun us g => g, ?_, rfl⟩
    unfold signs
    rw [List.getElem?_map, Array.getElem?_toList, hc]
    rfl
  stop := fun i F1 H1 s s' hi => by
    have : z.cps.size ≤ i := by simpa [signs] using hi
    exact this
def rngD (lo : Int) (n : Nat) : List D := (List.range n).map fun i => .int (lo + (i : Nat))
theorem it_rng {lo : Int} {n : Nat} : ItOk K mg F (Itr lo n) (rngD lo n) where
  go := fun i F1 H1 s s' hi => by
    have : i < n := by simpa [rngD] using hi
    exact this
  yld := fun i F1 H1 x H' s s' hi y => by
    obtain ⟨e1, ex⟩ := y
    subst e1 ex
    have hi' : i < n := by simpa [rngD] using hi
    refine ⟨F1, .int (lo + (i : Nat)), Same.refl _, s', fun us g => g, ?_, rfl⟩
    unfold rngD
    rw [List.getElem?_map, List.getElem?_range hi']
    rfl
  stop := fun i F1 H1 s s' hi => by
    have : n ≤ i := by simpa [rngD] using hi
    exact this
def enumD (ds : List D) : List D := ds.mapIdx fun i d => .tup [.int (i : Nat), d]
theorem it_enum {a : Addr} {vs : List V} {ds : List D} (h : F a = some (.lst vs)) (r : Reps K mg F vs ds) : ItOk K mg F (Ite K a) (enumD ds) where
  go := fun i F1 H1 s s' hi => by
    have hi' : i < ds.length := by simpa [enumD] using hi
    have hv : i < vs.length := by rw [r.length]; exact hi'
    exact ⟨vs, vs[i], SqL.of (s' _ _ (s _ _ h)), List.getElem?_eq_getElem hv⟩
  yld := fun i F1 H1 x H' s s' hi y => by
    obtain ⟨T, u, e1, hT, e2, y⟩ := y
    subst e1 e2
    obtain ⟨d, hd, rd⟩ := r.getV (y vs (SqL.of (s' _ _ (s _ _ h))))
    have sb := same_both (o := .tup [.int (i : Nat), u]) s' hT
    refine ⟨upd F1 T (.tup [.int (i : Nat), u]), .tup [.int (i : Nat), d], sb.1, sb.2, fun us g => g.newF s' hT, ?_, ⟨T, _, rfl, SqT.of upd_same, rfl, Rep.same (s.trans sb.1) rd, trivial⟩⟩
    unfold enumD
    rw [List.getElem?_mapIdx, hd]
    rfl
  stop := fun i F1 H1 s s' hi => ⟨vs, SqL.of (s' _ _ (s _ _ h)), by rw [r.length]; simpa [enumD] using hi⟩
theorem WE.bindI {f : RV → M (List D)} {m : M RV} {R0 : It → Hp → Prop} (h : WI K mg pv F held σ R0 E ((m e).bind f)) {P : V → Hp → Prop}
    (k : ∀ r e' v F' H' as' tr, Same F F' → Cf K mg pv F' H' σ e' as' (tr ++ held) → RR σ v r tr → WI K mg pv F held σ R0 E (f r e') → P v H') : WE K mg pv F held σ P E (m e) :=
  WE.bindE (W := WI K mg pv F held σ R0 E) (fun z => z) h (fun _ _ z => z) k
def walk (d : D) : Option (List D) := match d with
  | .lst ds => some ds
  | .tup ds => some ds
  | .str z => some (signs z)
  | _ => none
def dIt (a : M RV) : M (List D) := a.bind fun r e => match frzR r e with
  | some (d, e1) => (match walk d with
    | some ds => .ok ds e1
    | none => .st)
  | none => .st
def iAny (K : PySem.W.Frag) (tl : TE) : TI := fun σ H R => iList K tl σ H R ∨ iTup K tl σ H R ∨ iStr tl σ H R
theorem pi_any {X : Cx} {tg l : Expr} {tl : TE} (hl : PE X l tl) : PI X tg l (iAny X.K tl) := ⟨fun pins s σ H R I h => by
  rcases h with h | h | h
  · exact (pi_list hl).run pins s σ H R I h
  · exact (pi_tup hl).run pins s σ H R I h
  · exact (pi_str hl).run pins s σ H R I h⟩
theorem si_any {ta : TE} {ma : M RV} (ha : SE K mg E ta ma) : SI K mg E (iAny K ta) (dIt ma) := by
  intro pv F H σ e as held R0 c w
  have key : ∀ (P : V → Hp → Prop), (∀ r e' v F' H' as' tr, ma e = .ok r e' → Same F F' → Cf K mg pv F' H' σ e' as' (tr ++ held) → RR σ v r tr → P v H') → ta σ H P := fun P k => by
    refine ha pv F H σ e as held P c ?_
    have w' : WI K mg pv F held σ R0 E ((ma e).bind fun r e => match frzR r e with
      | some (d, e1) => (match walk d with
        | some ds => .ok ds e1
        | none => .st)
      | none => .st) := w
    cases q : ma e with
    | st => rw [q] at w'; exact w'.elim
    | ok r e' => exact fun v F' H' as' tr s c' rr => k r e' v F' H' as' tr q s c' rr
    | ex x e' => rw [q] at w'; exact w'
  have w' : WI K mg pv F held σ R0 E ((ma e).bind fun r e => match frzR r e with
    | some (d, e1) => (match walk d with
      | some ds => .ok ds e1
      | none => .st)
    | none => .st) := w
  cases q : ma e with
  | st => rw [q] at w'; exact w'.elim
  | ex x e1 =>
    refine .inl (ha pv F H σ e as held _ c ?_)
    rw [q] at w' ⊢
    exact w'
  | ok r e1 =>
    rw [q] at w'
    have w2 : WI K mg pv F held σ R0 E (match frzR r e1 with
      | some (d, e1) => (match walk d with
        | some ds => .ok ds e1
        | none => .st)
      | none => .st) := w'
    cases q1 : frzR r e1 with
    | none => rw [q1] at w2; exact w2.elim
    | some p =>
      obtain ⟨d, e2⟩ := p
      rw [q1] at w2
      cases d with
      | lst ds =>
        refine .inl (key _ fun r' e' v F' H' as' tr q' s c' rr => ?_)
        rw [q] at q'
        cases q'
        obtain ⟨F2, as2, s2, c2, rp⟩ := c'.frzR rr q1
        obtain ⟨p, vs, ev, h1, h2⟩ := rp
        exact ⟨p, ev, ⟨vs, SqL.of (c2.s _ _ h1)⟩, w2 _ F2 H' as2 (s.trans s2) c2 (it_list h1 h2)⟩
      | tup ds =>
        refine .inr (.inl (key _ fun r' e' v F' H' as' tr q' s c' rr => ?_))
        rw [q] at q'
        cases q'
        obtain ⟨F2, as2, s2, c2, rp⟩ := c'.frzR rr q1
        obtain ⟨p, vs, ev, h1, h2⟩ := rp
        exact ⟨p, ev, ⟨vs, SqT_same c2.s h1⟩, w2 _ F2 H' as2 (s.trans s2) c2 (it_tup h1 h2)⟩
      | str z =>
        refine .inr (.inr (key _ fun r' e' v F' H' as' tr q' s c' rr => ?_))
        rw [q] at q'
        cases q'
        obtain ⟨F2, as2, s2, c2, rp⟩ := c'.frzR rr q1
        have ev : v = .str z := rp
        exact ⟨z, ev, w2 _ F2 H' as2 (s.trans s2) c2 it_str⟩
      | _ => exact w2.elim
theorem WA.bindI {f : List RV → M (List D)} {m : M (List RV)} {R0 : It → Hp → Prop} (h : WI K mg pv F held σ R0 E ((m e).bind f)) {P : List V → Hp → Prop}
    (k : ∀ r e' v F' H' as' tr, Same F F' → Cf K mg pv F' H' σ e' as' (tr ++ held) → RRs σ v r tr → WI K mg pv F held σ R0 E (f r e') → P v H') : WA K mg pv F held σ P E (m e) :=
  WA.bindA (W := WI K mg pv F held σ R0 E) (fun z => z) h (fun _ _ z => z) k
def small62 (i : Int) : Bool := decide (-(2 ^ 62) ≤ i ∧ i < 2 ^ 62)
def oneI : List D → Option Int
  | [.int i] => some i
  | _ => none
def twoI : List D → Option (Int × Int)
  | [.int i, .int j] => some (i, j)
  | _ => none
theorem oneI_some {ds : List D} {p : Int} (h : oneI ds = some p) : ds = [.int p] := by
  unfold oneI at h
  split at h
  · cases h; rfl
  · cases h
theorem twoI_some {ds : List D} {p : Int × Int} (h : twoI ds = some p) : ds = [.int p.1, .int p.2] := by
  unfold twoI at h
  split at h
  · cases h; rfl
  · cases h
def dRng1 (a : M (List RV)) : M (List D) := a.bind fun rs e => match rs.mapM (view e) with
  | some ds => (match oneI ds with
    | some j => if small62 j = true then .ok (rngD 0 j.toNat) e else .st
    | none => .st)
  | none => .st
def dRng2 (a : M (List RV)) : M (List D) := a.bind fun rs e => match rs.mapM (view e) with
  | some ds => (match twoI ds with
    | some (i, j) => if (small62 i && small62 j) = true then .ok (rngD i (j - i).toNat) e else .st
    | none => .st)
  | none => .st
theorem reps1 {vs : List V} {d : D} (h : Reps K mg F vs [d]) : ∃ v, vs = [v] ∧ Rep K mg F v d := by
  match vs, h with
  | [v], ⟨h1, _⟩ => exact ⟨v, rfl, h1⟩
theorem reps2 {vs : List V} {d d' : D} (h : Reps K mg F vs [d, d']) : ∃ v v', vs = [v, v'] ∧ Rep K mg F v d ∧ Rep K mg F v' d' := by
  match vs, h with
  | [v, v'], ⟨h1, h2, _⟩ => exact ⟨v, v', rfl, h1, h2⟩
theorem si_rng1 {ta : TA} {ma : M (List RV)} (ha : SA K mg E ta ma) : SI K mg E (iRng1 ta) (dRng1 ma) := by
  intro pv F H σ e as held R0 c w
  refine ha pv F H σ e as held _ c (WA.bindI w fun r1 e1 v1 F1 H1 as1 tr1 s1 c1 rr1 w1 => ?_)
  cases q : r1.mapM (view e1) with
  | none => simp only [q] at w1; exact w1.elim
  | some ds =>
    have rp := RRs.seen (rs := r1) c1 rr1 (fun t ht => List.mem_append_left _ ht) q
    simp only [q] at w1
    cases q2 : oneI ds with
    | none => simp only [q2] at w1; exact w1.elim
    | some j =>
      simp only [q2] at w1
      rw [oneI_some q2] at rp
      obtain ⟨v, e2, rv⟩ := reps1 rp
      by_cases hj : small62 j = true
      · rw [if_pos hj] at w1
        have hj2 := of_decide_eq_true hj
        have ev : v = .int j := rv
        subst ev
        exact ⟨j, e2, hj2.1, hj2.2, w1 _ F1 H1 as1 s1 c1.drop it_rng⟩
      · rw [if_neg hj] at w1; exact w1.elim
theorem si_rng2 {ta : TA} {ma : M (List RV)} (ha : SA K mg E ta ma) : SI K mg E (iRng2 ta) (dRng2 ma) := by
  intro pv F H σ e as held R0 c w
  refine ha pv F H σ e as held _ c (WA.bindI w fun r1 e1 v1 F1 H1 as1 tr1 s1 c1 rr1 w1 => ?_)
  cases q : r1.mapM (view e1) with
  | none => simp only [q] at w1; exact w1.elim
  | some ds =>
    have rp := RRs.seen (rs := r1) c1 rr1 (fun t ht => List.mem_append_left _ ht) q
    simp only [q] at w1
    cases q2 : twoI ds with
    | none => simp only [q2] at w1; exact w1.elim
    | some p =>
      obtain ⟨i, j⟩ := p
      simp only [q2] at w1
      rw [twoI_some q2] at rp
      obtain ⟨v, v', e2, rv, rv'⟩ := reps2 rp
      by_cases hj : (small62 i && small62 j) = true
      · rw [if_pos hj] at w1
        have hj2 := Bool.and_eq_true_iff.mp hj
        have h1 := of_decide_eq_true hj2.1
        have h2 := of_decide_eq_true hj2.2
        have ev : v = .int i := rv
        have ev' : v' = .int j := rv'
        subst ev ev'
        exact ⟨i, j, e2, ⟨h1.1, h1.2, h2.1, h2.2⟩, w1 _ F1 H1 as1 s1 c1.drop it_rng⟩
      · rw [if_neg hj] at w1; exact w1.elim
def oneL : List D → Option (List D)
  | [.lst ds] => some ds
  | _ => none
theorem oneL_some {ds xs : List D} (h : oneL ds = some xs) : ds = [.lst xs] := by
  unfold oneL at h
  split at h
  · cases h; rfl
  · cases h
def dEnum (a : M (List RV)) : M (List D) := a.bind fun rs e => match frzRs rs e with
  | some (ds, e1) => (match oneL ds with
    | some xs => .ok (enumD xs) e1
    | none => .st)
  | none => .st
theorem si_enum {ta : TA} {ma : M (List RV)} (ha : SA K mg E ta ma) : SI K mg E (iEnum K ta) (dEnum ma) := by
  intro pv F H σ e as held R0 c w
  refine ha pv F H σ e as held _ c (WA.bindI w fun r1 e1 v1 F1 H1 as1 tr1 s1 c1 rr1 w1 => ?_)
  cases q : frzRs r1 e1 with
  | none => simp only [q] at w1; exact w1.elim
  | some p =>
    obtain ⟨ds, e2⟩ := p
    simp only [q] at w1
    obtain ⟨F2, as2, s2, c2, rp⟩ := c1.frzRs rr1 q
    cases q2 : oneL ds with
    | none => simp only [q2] at w1; exact w1.elim
    | some xs =>
      simp only [q2] at w1
      rw [oneL_some q2] at rp
      obtain ⟨v, e3, p, vs, ev, h1, h2⟩ := reps1 rp
      subst ev
      exact ⟨p, vs, e3, SqL.of (c2.s _ _ h1), w1 _ F2 H1 as2 (s1.trans s2) c2 (it_enum h1 h2)⟩
abbrev Tg := D → Env → Option Env
abbrev Tgs := List D → Env → Option Env
def SG (K : PySem.W.Frag) (mg : Str → Option Value) (L : List Nat) (tg : TG) (g : Tg) : Prop := ∀ pv F H σ e as held v d e' Q, Cf K mg pv F H σ e as held → Rep K mg F v d → g d e = some e' → (∀ σ' as', (∀ vs, (∀ i ∈ L, i ∈ vs) → wipe σ' vs = wipe σ vs) → Cf K mg pv F H σ' e' as' held → Q σ' H) → tg v σ H Q
def SGs (K : PySem.W.Frag) (mg : Str → Option Value) (L : List Nat) (tg : TGs) (g : Tgs) : Prop := ∀ pv F H σ e as held v d e' Q, Cf K mg pv F H σ e as held → Reps K mg F v d → g d e = some e' → (∀ σ' as', (∀ vs, (∀ i ∈ L, i ∈ vs) → wipe σ' vs = wipe σ vs) → Cf K mg pv F H σ' e' as' held → Q σ' H) → tg v σ H Q
def gN (i : Nat) : Tg := fun d e => putR i (.fz d) e
theorem wipe_set {σ : L2.St} {i : Nat} {x : Option V} : ∀ {vs : List Nat}, i ∈ vs → wipe (σ.set i x) vs = wipe σ vs
  | v :: vs, h => by
    by_cases hv : i ∈ vs
    · show (wipe (σ.set i x) vs).set v none = (wipe σ vs).set v none
      rw [wipe_set hv]
    · have e : i = v := by
        rcases List.mem_cons.mp h with q | q
        · exact q
        · exact absurd q hv
      subst e
      have key : ∀ (us : List Nat), i ∉ us → wipe (σ.set i x) us = (wipe σ us).set i x := fun us => by
        induction us with
        | nil => intro _; rfl
        | cons u us ih =>
          intro hu
          have h1 : i ≠ u := fun z => hu (by rw [z]; exact List.mem_cons_self)
          show (wipe (σ.set i x) us).set u none = ((wipe σ us).set u none).set i x
          rw [ih fun z => hu (List.mem_cons_of_mem _ z), List.set_comm _ _ h1]
      show (wipe (σ.set i x) vs).set i none = (wipe σ vs).set i none
      rw [key vs hv, List.set_set]
theorem sg_name {i : Nat} : SG K mg [i] (gName i) (gN i) := by
  intro pv F H σ e as held v d e' Q c r q k
  unfold gN VF.putR at q
  by_cases hi : i ∈ e.pn
  · rw [if_pos hi] at q; cases q
  · rw [if_neg hi] at q
    cases q
    exact k _ _ (fun vs h => wipe_set (h i List.mem_cons_self)) ((c.fz r).store (t := .fz v d) hi)
def gNo : Tgs := fun ds e => match ds with
  | [] => some e
  | _ => none
def gCo (g : Tg) (h : Tgs) : Tgs := fun ds e => match ds with
  | d :: r => (match g d e with
    | some e1 => h r e1
    | none => none)
  | [] => none
theorem sgs_nil : SGs K mg [] gNil gNo := by
  intro pv F H σ e as held v d e' Q c r q k
  cases d with
  | nil =>
    cases v with
    | nil => cases q; exact ⟨rfl, k σ as (fun _ _ => rfl) c⟩
    | cons _ _ => exact r.elim
  | cons _ _ => cases q
theorem sgs_cons {L L' : List Nat} {t : TG} {u : TGs} {g : Tg} {h : Tgs} (hg : SG K mg L t g) (hh : SGs K mg L' u h) : SGs K mg (L ++ L') (gCons t u) (gCo g h) := by
  intro pv F H σ e as held v d e' Q c r q k
  cases d with
  | nil => cases q
  | cons d ds =>
    cases v with
    | nil => exact r.elim
    | cons v vs =>
      have q' : (match g d e with | some e1 => h ds e1 | none => none) = some e' := q
      cases q1 : g d e with
      | none => rw [q1] at q'; cases q'
      | some e1 =>
        rw [q1] at q'
        exact ⟨v, vs, rfl, hg pv F H σ e as held v d e1 _ c r.1 q1 fun σ' as' hw c' => hh pv F H σ' e1 as' held vs ds e' Q c' r.2 q' fun σ2 as2 hw2 c2 => k σ2 as2 (fun ws h => (hw2 ws fun i hi => h i (List.mem_append_right _ hi)).trans (hw ws fun i hi => h i (List.mem_append_left _ hi))) c2⟩
def gTp (n : Nat) (h : Tgs) : Tg := fun d e => match d with
  | .tup ds => if ds.length = n then h ds e else none
  | _ => none
theorem sg_tup {L : List Nat} {n : Nat} {u : TGs} {h : Tgs} (hh : SGs K mg L u h) : SG K mg L (gTup K n u) (gTp n h) := by
  intro pv F H σ e as held v d e' Q c r q k
  cases d with
  | tup ds =>
    obtain ⟨p, vs, ev, h1, h2⟩ := r
    have q' : (if ds.length = n then h ds e else none) = some e' := q
    by_cases hn : ds.length = n
    · rw [if_pos hn] at q'
      exact ⟨p, vs, ev, SqT_same c.s h1, by rw [h2.length]; exact hn, hh pv F H σ e as held vs ds e' Q c h2 q' k⟩
    · rw [if_neg hn] at q'; cases q'
  | _ => cases q
def loopF (g : Tg) (body : M Fl) : List D → M Fl
  | [] => fun e => .ok .nx e
  | d :: ds => fun e => match g d e with
    | none => .st
    | some e1 => (match body e1 with
      | .ok .nx e2 => loopF g body ds e2
      | .ok .ct e2 => loopF g body ds e2
      | .ok .bk e2 => .ok .nx e2
      | .ok (.rt r) e2 => .ok (.rt r) e2
      | .ex x e2 => .ex x e2
      | .st => .st)
def dFor (it : M (List D)) (g : Tg) (body : M Fl) : M Fl := it.bind fun ds => loopF g body ds
theorem WI.bindS {f : List D → M Fl} {m : M (List D)} {D' : Ends} (h : WS K mg pv F held E D' ((m e).bind f)) {P : It → Hp → Prop}
    (k : ∀ ds e' J F' H' as', Same F F' → Cf K mg pv F' H' σ e' as' held → ItOk K mg F' J ds → WS K mg pv F held E D' (f ds e') → P J H') : WI K mg pv F held σ P E (m e) := by
  cases q : m e with
  | st => rw [q] at h; exact h.elim
  | ok r e' => rw [q] at h; exact fun J F' H' as' s c it => k r e' J F' H' as' s c it h
  | ex x e' => rw [q] at h; exact h
theorem ss_for {L : List Nat} {wi : TI} {tg : TG} {tb : TS} {mi : M (List D)} {g : Tg} {mb : M Fl} (hi : SI K mg E wi mi) (hg : SG K mg L tg g) (hb : SS K mg E tb mb) : SS K mg E (tFor wi tg tb) (dFor mi g mb) := by
  intro pv F H σ e as held D' c w
  refine hi pv F H σ e as held _ c (WI.bindS w fun ds e1 J F1 H1 as1 s1 c1 it w1 => ?_)
  refine ⟨fun i m σ H => m = ds.length - i ∧ ∃ F e as, Same F1 F ∧ Cf K mg pv F H σ e as held ∧ WS K mg pv F held E D' (loopF g mb (ds.drop i) e), ⟨_, rfl, F1, e1, as1, Same.refl _, c1, WS.mono s1 w1⟩, ?_⟩
  rintro i m σ2 H2 ⟨rfl, F2, e2, as2, s2, c2, w2⟩
  by_cases hlt : i < ds.length
  · refine .inr ⟨it.go i F2 H2 s2 c2.s hlt, fun σ' H' => ∃ F e as, Same F1 F ∧ Cf K mg pv F H' σ' e as held ∧ WS K mg pv F held E D' (loopF g mb (ds.drop (i + 1)) e), fun σ' H' ⟨F3, e3, as3, s3, c3, w3⟩ => ⟨ds.length - (i + 1), by omega, rfl, F3, e3, as3, s3, c3, w3⟩, fun x H' y => ?_⟩
    obtain ⟨F3, d, s3, s3', gg, hd, rd⟩ := it.yld i F2 H2 x H' s2 c2.s hlt y
    have c3 : Cf K mg pv F3 H' σ2 e2 as2 held := ⟨s3', c2.r, gg _ c2.g⟩
    have e4 : ds.drop i = d :: ds.drop (i + 1) := by
      have hdd : ds[i] = d := by rw [List.getElem?_eq_getElem hlt] at hd; exact Option.some.inj hd
      rw [List.drop_eq_getElem_cons hlt, hdd]
    rw [e4] at w2
    have w2' : WS K mg pv F2 held E D' (match g d e2 with
      | none => .st
      | some e1 => (match mb e1 with
        | .ok .nx e2 => loopF g mb (ds.drop (i + 1)) e2
        | .ok .ct e2 => loopF g mb (ds.drop (i + 1)) e2
        | .ok .bk e2 => .ok .nx e2
        | .ok (.rt r) e2 => .ok (.rt r) e2
        | .ex x e2 => .ex x e2
        | .st => .st)) := w2
    cases q1 : g d e2 with
    | none => rw [q1] at w2'; exact w2'.elim
    | some e3 =>
      rw [q1] at w2'
      refine hg pv F3 H' σ2 e2 as2 held x d e3 _ c3 rd q1 fun σ4 as4 _ c4 => ?_
      refine hb pv F3 H' σ4 e3 as4 held _ c4 ?_
      simp only at w2'
      cases q2 : mb e3 with
      | st => rw [q2] at w2'; exact w2'.elim
      | ex x e5 => rw [q2] at w2'; exact WX.mono s3 w2'
      | ok f e5 =>
        rw [q2] at w2'
        cases f with
        | nx => exact fun σ5 F5 H5 as5 s5 c5 => ⟨F5, e5, as5, (s2.trans s3).trans s5, c5, WS.mono (s3.trans s5) w2'⟩
        | ct => exact fun σ5 F5 H5 as5 s5 c5 => ⟨F5, e5, as5, (s2.trans s3).trans s5, c5, WS.mono (s3.trans s5) w2'⟩
        | bk => exact fun σ5 F5 H5 as5 s5 c5 => w2' σ5 F5 H5 as5 (s3.trans s5) c5
        | rt r => exact fun v σ5 F5 H5 as5 tr5 s5 c5 rr => w2' v σ5 F5 H5 as5 tr5 (s3.trans s5) c5 rr
  · refine .inl ⟨it.stop i F2 H2 s2 c2.s (by omega), ?_⟩
    rw [List.drop_eq_nil_of_le (by omega)] at w2
    exact w2 σ2 F2 H2 as2 (Same.refl _) c2
end
end VF
set_option maxRecDepth 100000
set_option maxHeartbeats 4000000
namespace VF
set_option autoImplicit false
open PySem PySem.Spec PyProof.Rows L2
open AT (cells cellsL er ers)
section
variable {K : PySem.W.Frag} {mg : Str → Option Value} {pv : List (Nat × V)} {F F' H H' : Hp} {σ : L2.St} {e e' : Env} {as as' : List (Option AT)} {held tr ts us : List AT} {E : XS}
def wipeE : List Nat → Env → Env
  | [], e => e
  | v :: vs, e => (wipeE vs e).clr v
theorem wipeE_pn : ∀ (vs : List Nat) (e : Env), (wipeE vs e).pn = e.pn
  | [], _ => rfl
  | _ :: vs, e => wipeE_pn vs e
theorem Cf.wipe1 {v : Nat} (c : Cf K mg pv F H σ e as us) (hv : v ∉ e.pn) : Cf K mg pv F H (σ.set v none) (e.clr v) (as.set v none) us := by
  refine ⟨c.s, ⟨?_, by rw [List.length_set, List.length_set]; exact c.r.len, fun j u hj => ?_, fun p hp => ?_⟩, ?_⟩
  · show e.sl.set v none = _
    rw [List.map_set, c.r.sl]; rfl
  · by_cases q : j = v
    · subst q
      have hlt : j < as.length := by simpa using (List.getElem?_eq_some_iff.mp hj).1
      rw [List.getElem?_set_self hlt] at hj
      cases hj
    · rw [List.getElem?_set_ne (Ne.symm q)] at hj ⊢
      exact c.r.at_ j u hj
  · obtain ⟨h1, h2⟩ := c.r.pin p hp
    refine ⟨h1, ?_⟩
    have ne : v ≠ p.1 := fun q => hv (by rw [q]; exact h1)
    rw [List.getElem?_set_ne ne]
    exact h2
  · cases z : as[v]? with
    | none =>
      rw [List.set_eq_of_length_le (List.getElem?_eq_none_iff.mp z)]
      exact c.g
    | some o =>
      cases o with
      | none =>
        have hlt : v < as.length := (List.getElem?_eq_some_iff.mp z).1
        have e0 : as[v] = none := by rw [List.getElem?_eq_getElem hlt] at z; exact Option.some.inj z
        rw [← e0, List.set_getElem_self]
        exact c.g
      | some t => exact (c.take z).tail
def wipeA : List Nat → List (Option AT) → List (Option AT)
  | [], as => as
  | v :: vs, as => (wipeA vs as).set v none
theorem Cf.wipe : ∀ {vs : List Nat} {e : Env} {as : List (Option AT)}, Cf K mg pv F H σ e as us → (∀ v ∈ vs, v ∉ e.pn) → Cf K mg pv F H (wipe σ vs) (wipeE vs e) (wipeA vs as) us
  | [], _, _, c, _ => c
  | v :: vs, e, as, c, h => (Cf.wipe (vs := vs) c fun u hu => h u (List.mem_cons_of_mem _ hu)).wipe1 (by rw [wipeE_pn]; exact h v List.mem_cons_self)
theorem wipe_wipe : ∀ (vs : List Nat) (σ : L2.St), wipe (wipe σ vs) vs = wipe σ vs := by
  intro vs σ
  have key : ∀ (us ws : List Nat), (∀ v ∈ ws, v ∈ us) → wipe (wipe σ ws) us = wipe σ us := fun us ws => by
    induction ws with
    | nil => intro _; rfl
    | cons w ws ih =>
      intro h
      show wipe ((wipe σ ws).set w none) us = _
      rw [wipe_set (h w List.mem_cons_self), ih fun v hv => h v (List.mem_cons_of_mem _ hv)]
  exact key vs vs fun _ h => h
def noPn (own : List Nat) (e : Env) : Bool := own.all fun v => !e.pn.contains v
theorem noPn_ok {own : List Nat} (h : noPn own e = true) : ∀ v ∈ own, v ∉ e.pn := fun v hv q => by
  have := List.all_eq_true.mp h v hv
  rw [List.contains_iff_mem.mpr q] at this
  cases this
def restE : List Nat → Env → Env → Option Env
  | [], _, e1 => some e1
  | v :: vs, e0, e1 => if vs.contains v = true then none else if isClr e1 v = true then (match e0.sl[v]? with
    | some none => restE vs e0 e1
    | some (some (.fz d)) => restE vs e0 (e1.setS v (.fz d))
    | _ => none) else none
theorem Cf.rest {e0 : Env} : ∀ {own : List Nat} {σ : L2.St} {e1 e2 : Env} {as1 : List (Option AT)}, Cf K mg pv F H (L2.wipe σ own) e1 as1 us → (∀ (v : Nat) (d : D), v ∈ own → e0.sl[v]? = some (some (.fz d)) → ∃ u, σ[v]? = some (some u) ∧ Rep K mg F u d) → restE own e0 e1 = some e2 →
    ∃ as2, Cf K mg pv F H σ e2 as2 us
  | [], σ, e1, e2, as1, c, _, q => by
    have q' : some e1 = some e2 := q
    cases q'
    exact ⟨as1, c⟩
  | v :: vs, σ, e1, e2, as1, c, h, q => by
    unfold restE at q
    by_cases h1 : vs.contains v = true
    · rw [if_pos h1] at q; cases q
    rw [if_neg h1] at q
    have hv : v ∉ vs := fun z => h1 (List.contains_iff_mem.mpr z)
    by_cases h2 : isClr e1 v = true
    · rw [if_pos h2] at q
      have hc := isClr_ok h2
      have ha : as1[v]? = some none := by
        rw [c.r.sl, List.getElem?_map] at hc
        cases z : as1[v]? with
        | none => rw [z] at hc; cases hc
        | some o => cases o with
          | none => rfl
          | some u => rw [z] at hc; cases hc
      have weak : ∀ (j : Nat) (u : V), (L2.wipe σ (v :: vs))[j]? = some (some u) → (L2.wipe σ vs)[j]? = some (some u) := fun j u hj => by
        have hj' : ((L2.wipe σ vs).set v none)[j]? = some (some u) := hj
        by_cases z : j = v
        · subst z
          have hlt : j < ((L2.wipe σ vs).set j none).length := (List.getElem?_eq_some_iff.mp hj').1
          rw [List.getElem?_set_self (by simpa using hlt)] at hj'
          cases hj'
        · rwa [List.getElem?_set_ne (Ne.symm z)] at hj'
      have ln : (L2.wipe σ vs).length = as1.length := by
        have := c.r.len
        rw [show L2.wipe σ (v :: vs) = (L2.wipe σ vs).set v none from rfl, List.length_set] at this
        exact this
      have c1 : Cf K mg pv F H (L2.wipe σ vs) e1 as1 us := ⟨c.s, ⟨c.r.sl, ln, fun j u hj => weak j _ (c.r.at_ j u hj), fun p hp => ⟨(c.r.pin p hp).1, weak _ _ (c.r.pin p hp).2⟩⟩, c.g⟩
      cases z : e0.sl[v]? with
      | none => rw [z] at q; cases q
      | some o =>
        cases o with
        | none =>
          rw [z] at q
          exact Cf.rest c1 (fun u d hu => h u d (List.mem_cons_of_mem _ hu)) q
        | some s =>
          cases s with
          | fz d =>
            rw [z] at q
            obtain ⟨u, hu, ru⟩ := h v d List.mem_cons_self z
            have hlt : v < as1.length := (List.getElem?_eq_some_iff.mp ha).1
            have hsv : (L2.wipe σ vs)[v]? = some (some u) := by rw [wipe_out hv]; exact hu
            have c2 : Cf K mg pv F H (L2.wipe σ vs) (e1.setS v (.fz d)) (as1.set v (some (.fz u d))) us := by
              refine ⟨c1.s, ⟨?_, by rw [List.length_set]; exact ln, fun j w hj => ?_, c1.r.pin⟩, ?_⟩
              · show e1.sl.set v (some (.fz d)) = _
                rw [List.map_set, c1.r.sl]; rfl
              · by_cases zz : j = v
                · subst zz
                  rw [List.getElem?_set_self hlt] at hj
                  cases hj
                  exact hsv
                · rw [List.getElem?_set_ne (Ne.symm zz)] at hj
                  exact c1.r.at_ j w hj
              · exact (c1.g.fz ru).perm ((opts_put (.fz u d) ha).append_right us)
            exact Cf.rest c2 (fun u d hu => h u d (List.mem_cons_of_mem _ hu)) q
          | _ => rw [z] at q; cases q
    · rw [if_neg h2] at q; cases q
theorem Cf.relistH {p : Addr} {xs ys zs junk : List AT} (c : Cf K mg pv F H σ e as (.ol p xs :: us)) (pm : (xs ++ us).Perm (junk ++ (ys ++ zs))) : Cf K mg pv F (upd H p (.lst (vals ys))) σ e as (.ol p ys :: zs) := by
  have g : Good K mg F H (.ol p xs :: (opts as ++ us)) := c.g.perm (List.perm_middle (l₁ := opts as) (l₂ := us) (a := AT.ol p xs))
  have g2 : Good K mg F (upd H p (.lst (vals ys))) (.ol p ys :: (opts as ++ zs)) := g.relist (junk := junk) ((pswap _ _ _).trans ((pm.append_left _).trans ((pswap _ _ _).trans (List.Perm.append_left _ (pswap _ _ _)))))
  exact ⟨same_own c.s g.cell.2, c.r, g2.perm (List.perm_middle (l₁ := opts as) (l₂ := zs) (a := AT.ol p ys)).symm⟩
theorem atoms_snoc : ∀ {vs : List V} {ds : List D} {v : V} {d : D}, vs.length = ds.length → atoms (vs ++ [v]) (ds ++ [d]) = atoms vs ds ++ [.fz v d]
  | [], [], _, _, _ => rfl
  | v :: vs, d :: ds, _, _, h => by
    show AT.fz v d :: atoms (vs ++ _) (ds ++ _) = AT.fz v d :: (atoms vs ds ++ _)
    rw [atoms_snoc (by simpa using h)]
  | [], _ :: _, _, _, h => by cases h
  | _ :: _, [], _, _, h => by cases h
def loopC (own : List Nat) (g : Tg) (tt : M Bool) (te : M RV) : List D → List D → M (List D)
  | [], acc => fun e => .ok acc e
  | d :: ds, acc => fun e => match g d e with
    | none => .st
    | some e1 => (match tt e1 with
      | .ok true e2 => (match te e2 with
        | .ok r e3 => (match frzR r e3 with
          | some (y, e4) => if (decide (acc.length < sizeLine) && noPn own e4) = true then loopC own g tt te ds (acc ++ [y]) (wipeE own e4) else .st
          | none => .st)
        | _ => .st)
      | .ok false e2 => if noPn own e2 = true then loopC own g tt te ds acc (wipeE own e2) else .st
      | _ => .st)
def dComp (own : List Nat) (it : M (List D)) (g : Tg) (tt : M Bool) (te : M RV) : M RV := it.bind fun ds e0 => if noPn own e0 = true then (match loopC own g tt te ds [] (wipeE own e0) with
  | .ok acc e1 => (match restE own e0 e1 with
    | some e2 => .ok (.own (.ol (acc.map .fz))) e2
    | none => .st)
  | _ => .st) else .st
theorem WI.bindE {f : List D → M RV} {m : M (List D)} {Q : VK} (h : WE K mg pv F held σ Q E ((m e).bind f)) {P : It → Hp → Prop}
    (k : ∀ ds e' J F' H' as', Same F F' → Cf K mg pv F' H' σ e' as' held → ItOk K mg F' J ds → WE K mg pv F held σ Q E (f ds e') → P J H') : WI K mg pv F held σ P E (m e) := by
  cases q : m e with
  | st => rw [q] at h; exact h.elim
  | ok r e' => rw [q] at h; exact fun J F' H' as' s c it => k r e' J F' H' as' s c it h
  | ex x e' => rw [q] at h; exact h
def dYes : M Bool := fun e => .ok true e
theorem st_yes : ST K mg E tYes dYes := fun pv F H σ e as held Q c w => w F H as (Same.refl _) c
theorem se_comp {L own : List Nat} {wi : TI} {tg : TG} {tt : TT} {te : TE} {mi : M (List D)} {g : Tg} {mt : M Bool} {me : M RV} (hi : SI K mg E wi mi) (hg : SG K mg L tg g) (hL : ∀ i ∈ L, i ∈ own) (ht : ST K mg E0 tt mt) (he : SE K mg E0 te me) :
    SE K mg E (tLc wi tg tt te own) (dComp own mi g mt me) := by
  intro pv F H σ e as held Q c w
  refine hi pv F H σ e as held _ c (WI.bindE w fun ds e1 J F1 H1 as1 s1 c1 it w1 => ?_)
  intro D hD
  by_cases hp : noPn own e1 = true
  · rw [if_pos hp] at w1
    cases q : loopC own g mt me ds [] (wipeE own e1) with
    | st => rw [q] at w1; exact w1.elim
    | ex _ _ => rw [q] at w1; exact w1.elim
    | ok accF eF =>
      rw [q] at w1
      cases q2 : restE own e1 eF with
      | none => simp only [q2] at w1; exact w1.elim
      | some e2 =>
        simp only [q2] at w1
        have c0 : Cf K mg pv F1 (upd H1 D (.lst [])) σ e1 as1 (.ol D (atoms [] []) :: held) := by
          refine ⟨same_own c1.s (c1.s.free hD), c1.r, ?_⟩
          exact (Good.new (xs := []) c1.g c1.s hD).perm (List.perm_middle (l₁ := opts as1) (l₂ := held)).symm
        have cw := c0.wipe (vs := own) (noPn_ok hp)
        refine ⟨fun i m H => m = ds.length - i ∧ ∃ F e as va acc, Same F1 F ∧ Cf K mg pv F H (wipe σ own) e as (.ol D (atoms va acc) :: held) ∧ Reps K mg F va acc ∧ loopC own g mt me (ds.drop i) acc e = .ok accF eF,
          ⟨_, rfl, F1, _, _, [], [], Same.refl _, cw, trivial, q⟩, ?_⟩
        rintro i m H2 ⟨rfl, F2, e3, as3, va, acc, s2, c2, ra, q3⟩
        by_cases hlt : i < ds.length
        · refine .inr ⟨it.go i F2 H2 s2 c2.s hlt, fun H' => ∃ F e as va acc, Same F1 F ∧ Cf K mg pv F H' (wipe σ own) e as (.ol D (atoms va acc) :: held) ∧ Reps K mg F va acc ∧ loopC own g mt me (ds.drop (i + 1)) acc e = .ok accF eF,
            fun H' ⟨F, e, as, va, acc, z1, z2, z3, z4⟩ => ⟨ds.length - (i + 1), by omega, rfl, F, e, as, va, acc, z1, z2, z3, z4⟩, fun x H' y => ?_⟩
          obtain ⟨F3, d, s3, s3', gg, hd, rd⟩ := it.yld i F2 H2 x H' s2 c2.s hlt y
          have c3 : Cf K mg pv F3 H' (wipe σ own) e3 as3 (.ol D (atoms va acc) :: held) := ⟨s3', c2.r, gg _ c2.g⟩
          have e4 : ds.drop i = d :: ds.drop (i + 1) := by
            have hdd : ds[i] = d := by rw [List.getElem?_eq_getElem hlt] at hd; exact Option.some.inj hd
            rw [List.drop_eq_getElem_cons hlt, hdd]
          rw [e4] at q3
          unfold loopC at q3
          cases q4 : g d e3 with
          | none => simp only [q4] at q3; cases q3
          | some e5 =>
            simp only [q4] at q3
            refine hg pv F3 H' _ e3 as3 _ x d e5 _ c3 rd q4 fun σ4 as4 hw c4 => ?_
            refine ⟨(hw own hL).trans (wipe_wipe own σ), ?_⟩
            refine ht pv F3 H' σ4 e5 as4 _ _ c4 ?_
            cases q5 : mt e5 with
            | st => simp only [q5] at q3; cases q3
            | ex _ _ => simp only [q5] at q3; cases q3
            | ok b e6 =>
              simp only [q5] at q3
              intro F5 H5 as5 s5 c5
              have hwσ : wipe σ4 own = wipe σ own := (hw own hL).trans (wipe_wipe own σ)
              cases b with
              | false =>
                simp only at q3
                rw [if_neg (by decide)]
                by_cases hp2 : noPn own e6 = true
                · rw [if_pos hp2] at q3
                  have c6 := c5.wipe (vs := own) (noPn_ok hp2)
                  rw [hwσ] at c6
                  exact ⟨F5, _, _, va, acc, (s2.trans s3).trans s5, c6, Reps.same (s3.trans s5) ra, q3⟩
                · rw [if_neg hp2] at q3; cases q3
              | true =>
                simp only at q3
                rw [if_pos rfl]
                refine he pv F5 H5 σ4 e6 as5 _ _ c5 ?_
                cases q6 : me e6 with
                | st => simp only [q6] at q3; cases q3
                | ex _ _ => simp only [q6] at q3; cases q3
                | ok r e7 =>
                  simp only [q6] at q3
                  intro y6 F6 H6 as6 tr6 s6 c6 rr6
                  cases q7 : frzR r e7 with
                  | none => simp only [q7] at q3; cases q3
                  | some pr =>
                    obtain ⟨dy, e8⟩ := pr
                    simp only [q7] at q3
                    obtain ⟨F7, as7, s7, c7, ry⟩ := c6.frzR rr6 q7
                    have rva : Reps K mg F7 va acc := Reps.same (((s3.trans s5).trans s6).trans s7) ra
                    by_cases hp2 : (decide (acc.length < sizeLine) && noPn own e8) = true
                    · rw [if_pos hp2] at q3
                      obtain ⟨hp3, hp4⟩ := Bool.and_eq_true_iff.mp hp2
                      have hcell : H6 D = some (.lst va) := by
                        have gg : Good K mg F7 H6 (.ol D (atoms va acc) :: (opts as7 ++ held)) := c7.g.perm (List.perm_middle (l₁ := opts as7) (l₂ := held) (a := AT.ol D (atoms va acc)))
                        have := gg.cell.1
                        rwa [vals_atoms rva] at this
                      refine ⟨va, hcell, by rw [rva.length]; exact of_decide_eq_true hp3, ?_⟩
                      have rsn : Reps K mg F7 (va ++ [y6]) (acc ++ [dy]) := rva.append ⟨ry, trivial⟩
                      have c8 : Cf K mg pv F7 (upd H6 D (.lst (va ++ [y6]))) σ4 e8 as7 (.ol D (atoms (va ++ [y6]) (acc ++ [dy])) :: held) := by
                        have c8 := (c7.fzs ry).perm (List.Perm.swap (AT.ol D (atoms va acc)) (AT.fz y6 dy) held)
                        have c9 := c8.relistH (ys := atoms va acc ++ [.fz y6 dy]) (zs := held) (junk := []) (by simp)
                        rw [← atoms_snoc rva.length, vals_atoms rsn] at c9
                        exact c9
                      have c10 := c8.wipe (vs := own) (noPn_ok hp4)
                      rw [hwσ] at c10
                      exact ⟨F7, _, _, va ++ [y6], acc ++ [dy], ((((s2.trans s3).trans s5).trans s6).trans s7), c10, rsn, q3⟩
                    · rw [if_neg hp2] at q3; cases q3
        · refine .inl ⟨it.stop i F2 H2 s2 c2.s (by omega), ?_⟩
          rw [List.drop_eq_nil_of_le (by omega)] at q3
          unfold loopC at q3
          have q3' : R.ok acc e3 = R.ok accF eF := q3
          cases q3'
          obtain ⟨as4, c4⟩ := c2.rest (e0 := e1) (fun v d hv hz => by
            obtain ⟨t, ht, et⟩ := c1.r.slotOf hz
            have hσ := c1.r.at_ v t ht
            cases t with
            | fz u d' =>
              have ed : d' = d := by simpa [er] using et
              subst ed
              have ok : Rep K mg F1 u d' := Oks.mem.mp c1.g.ok _ (List.mem_append_left _ (mem_opts ht))
              exact ⟨u, hσ, Rep.same s2 ok⟩
            | ol _ _ => simp [er] at et
            | oo _ _ _ _ _ _ => simp [er] at et
            | od _ _ _ => simp [er] at et) q2
          refine w1 (.ref D) F2 H2 as4 [.ol D (atoms va accF)] (s1.trans s2) c4 ⟨_, rfl, rfl, ?_⟩
          show SV.ol (ers (atoms va accF)) = _
          rw [ers_atoms ra]
  · rw [if_neg hp] at w1; exact w1.elim
end
end VF
set_option maxRecDepth 100000
set_option maxHeartbeats 4000000
namespace VF
set_option autoImplicit false
open PySem PySem.Spec PyProof.Rows L2
open AT (cells cellsL er ers)
def fI (g : Int → Int → Int) : D → D → Option D := fun a b => match a, b with
  | .int i, .int j => some (.int (g i j))
  | _, _ => none
def fB (g : Int → Int → Bool) : D → D → Option D := fun a b => match a, b with
  | .int i, .int j => some (.bl (g i j))
  | _, _ => none
def inB (i : Int) (k : Nat) : Bool := decide (-(2 ^ k) < i ∧ i < 2 ^ k)
def fMul : D → D → Option D := fun a b => match a, b with
  | .int i, .int j => if (inB i 64 || inB j 64) = true then some (.int (i * j)) else none
  | _, _ => none
def fMod : D → D → Option D := fun a b => match a, b with
  | .int i, .int j => if 0 < j then some (.int (i % j)) else none
  | _, _ => none
def fDiv : D → D → Option D := fun a b => match a, b with
  | .int i, .int j => if 0 < j ∧ j < 1073741824 then some (.int (i / j)) else none
  | _, _ => none
def fPow : D → D → Option D := fun a b => match a, b with
  | .int i, .int j => if 0 ≤ j ∧ j ≤ 1000000 ∧ i.natAbs < 2 ^ 64 then some (.int (i ^ j.toNat)) else none
  | _, _ => none
section
variable {K : PySem.W.Frag} {mg : Str → Option Value}
theorem opd_I {g : Int → Int → Int} : OpD (rI0 fun i j => .int (g i j)) K mg (fI g) := by
  intro H x y a b d ra rb q
  cases a <;> first | (cases q; done) | (cases b <;> first | (cases q; done) | skip)
  rename_i i j
  cases q
  have e1 : x = .int i := ra
  have e2 : y = .int j := rb
  exact ⟨_, rfl, fun Q k => ⟨i, j, e1, e2, k⟩⟩
theorem opd_B {g : Int → Int → Bool} : OpD (rI0 fun i j => .bl (g i j)) K mg (fB g) := by
  intro H x y a b d ra rb q
  cases a <;> first | (cases q; done) | (cases b <;> first | (cases q; done) | skip)
  rename_i i j
  cases q
  have e1 : x = .int i := ra
  have e2 : y = .int j := rb
  exact ⟨_, rfl, fun Q k => ⟨i, j, e1, e2, k⟩⟩
theorem opd_C {C : Int → Int → Prop} {g : Int → Int → Int} {f : D → D → Option D} (h : ∀ a b d, f a b = some d → ∃ i j, a = .int i ∧ b = .int j ∧ C i j ∧ d = .int (g i j)) : OpD (rI C fun i j => .int (g i j)) K mg f := by
  intro H x y a b d ra rb q
  obtain ⟨i, j, rfl, rfl, c, rfl⟩ := h a b d q
  have e1 : x = .int i := ra
  have e2 : y = .int j := rb
  exact ⟨_, rfl, fun Q k => ⟨i, j, e1, e2, c, k⟩⟩
theorem opd_mul : OpD (rI CMul fun i j => .int (i * j)) K mg fMul := opd_C fun a b d q => by
  unfold fMul at q
  split at q
  · rename_i i j
    split at q
    · rename_i h
      cases q
      refine ⟨i, j, rfl, rfl, ?_, rfl⟩
      rcases Bool.or_eq_true_iff.mp h with h | h
      · exact .inl (of_decide_eq_true h)
      · exact .inr (of_decide_eq_true h)
    · cases q
  · cases q
theorem opd_mod : OpD (rI (fun _ j => 0 < j) fun i j => .int (i % j)) K mg fMod := opd_C fun a b d q => by
  unfold fMod at q
  split at q
  · rename_i i j
    split at q
    · rename_i h
      cases q
      exact ⟨i, j, rfl, rfl, h, rfl⟩
    · cases q
  · cases q
theorem opd_div : OpD (rI CDiv fun i j => .int (i / j)) K mg fDiv := opd_C fun a b d q => by
  unfold fDiv at q
  split at q
  · rename_i i j
    split at q
    · rename_i h
      cases q
      exact ⟨i, j, rfl, rfl, h, rfl⟩
    · cases q
  · cases q
theorem opd_pow : OpD (rI CPow fun i j => .int (i ^ j.toNat)) K mg fPow := opd_C fun a b d q => by
  unfold fPow at q
  split at q
  · rename_i i j
    split at q
    · rename_i h
      cases q
      exact ⟨i, j, rfl, rfl, h, rfl⟩
    · cases q
  · cases q
mutual
def toP : D → Option PyData
  | .non => some .none
  | .bl b => some (.bool b)
  | .int i => some (.int i)
  | .str s => some (.str s)
  | .lst ds => (toPs ds).map .list
  | .tup ds => (toPs ds).map .tuple
  | _ => none
def toPs : List D → Option (List PyData)
  | [] => some []
  | d :: ds => match toP d, toPs ds with
    | some p, some ps => some (p :: ps)
    | _, _ => none
end
mutual
theorem dp_of {H : Hp} : ∀ (d : D) {v : V} {p : PyData}, Rep K mg H v d → toP d = some p → Dp K H v p
  | .non, v, p, r, q => by
    have e : v = .non := r
    cases (show some PyData.none = some p from q); subst e; exact .non
  | .bl b, v, p, r, q => by
    have e : v = .bl b := r
    cases (show some (PyData.bool b) = some p from q); subst e; exact .bl b
  | .int i, v, p, r, q => by
    have e : v = .int i := r
    cases (show some (PyData.int i) = some p from q); subst e; exact .int i
  | .str s, v, p, r, q => by
    have e : v = .str s := r
    cases (show some (PyData.str s) = some p from q); subst e; exact .str s
  | .lst ds, v, p, ⟨a, vs, e, h1, h2⟩, q => by
    have q' : (toPs ds).map PyData.list = some p := q
    cases z : toPs ds with
    | none => rw [z] at q'; cases q'
    | some ps => rw [z] at q'; cases q'; subst e; exact .lst (SqL.of h1) (dps_of ds h2 z)
  | .tup ds, v, p, ⟨a, vs, e, h1, h2⟩, q => by
    have q' : (toPs ds).map PyData.tuple = some p := q
    cases z : toPs ds with
    | none => rw [z] at q'; cases q'
    | some ps => rw [z] at q'; cases q'; subst e; exact .tup h1 (dps_of ds h2 z)
  | .ty _, _, _, _, q => nomatch (show (none : Option PyData) = some _ from q)
  | .dct _ _, _, _, _, q => nomatch (show (none : Option PyData) = some _ from q)
  | .obj _ _ _, _, _, _, q => nomatch (show (none : Option PyData) = some _ from q)
  | .scr _, _, _, _, q => nomatch (show (none : Option PyData) = some _ from q)
theorem dps_of {H : Hp} : ∀ (ds : List D) {vs : List V} {ps : List PyData}, Reps K mg H vs ds → toPs ds = some ps → DpAll K H vs ps
  | [], [], ps, _, q => by cases (show some ([] : List PyData) = some ps from q); exact .nil
  | d :: ds, v :: vs, ps, ⟨h1, h2⟩, q => by
    have q' : (match toP d, toPs ds with | some p, some ps => some (p :: ps) | _, _ => none) = some ps := q
    cases z1 : toP d with
    | none => rw [z1] at q'; cases q'
    | some p => cases z2 : toPs ds with
      | none => rw [z1, z2] at q'; cases q'
      | some ps2 => rw [z1, z2] at q'; cases q'; exact .cons (dp_of d h1 z1) (dps_of ds h2 z2)
  | [], _ :: _, _, h, _ => h.elim
  | _ :: _, [], _, h, _ => h.elim
end
def shp (p : PyData) : Bool := p.plain && decide (p.depth ≤ 64)
theorem shp_ok {p : PyData} (h : shp p = true) : p.plain = true ∧ p.depth ≤ 64 := by
  obtain ⟨a, b⟩ := Bool.and_eq_true_iff.mp h
  exact ⟨a, of_decide_eq_true b⟩
def rEqP (K : PySem.W.Frag) : R2 := fun x y H Q => ∃ d e, Dp K H x d ∧ Dp K H y e ∧ shp d = true ∧ shp e = true ∧ Q (.bl (PyData.eqv d e)) H
def rInP (K : PySem.W.Frag) : R2 := fun x y H Q => ∃ d ds, Dp K H x d ∧ Dp K H y (.list ds) ∧ shp d = true ∧ shp (.list ds) = true ∧ Q (.bl (ds.any fun z => PyData.eqv z d)) H
def rNotInP (K : PySem.W.Frag) : R2 := fun x y H Q => ∃ d ds, Dp K H x d ∧ Dp K H y (.list ds) ∧ shp d = true ∧ shp (.list ds) = true ∧ Q (.bl (!ds.any fun z => PyData.eqv z d)) H
section
variable {X : Cx}
theorem op_eqP (hu : X.A.units + 64 < cLine) : OpR X (compareOp .Eq) (rEqP X.K) := by
  intro pins s σ H x y v u Q I rx ry h
  obtain ⟨d, e, hd, he, sd, se, q⟩ := h
  obtain ⟨as, r1⟩ := Dp.reads I d x v hd rx
  obtain ⟨bs, r2⟩ := Dp.reads I e y u he ry
  have s1 := shp_ok sd
  have s2 := shp_ok se
  exact SeqAt.eq_plain r1 r2 s1.1 s2.1 (by omega) ⟨.bl _, H, I, rfl, q⟩
theorem op_inP (hu : X.A.units + 65 < cLine) : OpR X (compareOp .In) (rInP X.K) := by
  intro pins s σ H x y v u Q I rx ry h
  obtain ⟨d, ds, hd, he, sd, se, q⟩ := h
  obtain ⟨as, r1⟩ := Dp.reads I d x v hd rx
  obtain ⟨bs, r2⟩ := Dp.reads I (.list ds) y u he ry
  have s1 := shp_ok sd
  have s2 := shp_ok se
  exact SeqAt.in_list_data r2 r1 (by simpa only [PyData.plain] using s2.1) s1.1 (by omega) ⟨.bl _, H, I, rfl, q⟩
theorem op_notInP (hu : X.A.units + 65 < cLine) : OpR X (compareOp .NotIn) (rNotInP X.K) := by
  intro pins s σ H x y v u Q I rx ry h
  obtain ⟨d, ds, hd, he, sd, se, q⟩ := h
  obtain ⟨as, r1⟩ := Dp.reads I d x v hd rx
  obtain ⟨bs, r2⟩ := Dp.reads I (.list ds) y u he ry
  have s1 := shp_ok sd
  have s2 := shp_ok se
  exact SeqAt.notIn_list_data r2 r1 (by simpa only [PyData.plain] using s2.1) s1.1 (by omega) ⟨.bl _, H, I, rfl, q⟩
end
def eqD (a b : D) : Option Bool := match toP a, toP b with
  | some p, some q => if (shp p && shp q) = true then some (PyData.eqv p q) else none
  | _, _ => none
def fEq : D → D → Option D := fun a b => (eqD a b).map .bl
def fNe : D → D → Option D := fun a b => (eqD a b).map fun k => .bl (!k)
theorem eqD_some {a b : D} {k : Bool} (h : eqD a b = some k) : ∃ p q, toP a = some p ∧ toP b = some q ∧ shp p = true ∧ shp q = true ∧ PyData.eqv p q = k := by
  unfold eqD at h
  cases z1 : toP a with
  | none => rw [z1] at h; cases h
  | some p => cases z2 : toP b with
    | none => rw [z1, z2] at h; cases h
    | some q =>
      rw [z1, z2] at h
      simp only at h
      split at h
      · rename_i hh
        obtain ⟨h1, h2⟩ := Bool.and_eq_true_iff.mp hh
        exact ⟨p, q, rfl, rfl, h1, h2, Option.some.inj h⟩
      · cases h
theorem opd_eq : OpD (rEqP K) K mg fEq := by
  intro H x y a b d ra rb q
  unfold fEq at q
  cases z : eqD a b with
  | none => rw [z] at q; cases q
  | some k =>
    rw [z] at q; cases q
    obtain ⟨p, q, h1, h2, h3, h4, h5⟩ := eqD_some z
    exact ⟨.bl k, rfl, fun Q hk => ⟨p, q, dp_of a ra h1, dp_of b rb h2, h3, h4, by rw [h5]; exact hk⟩⟩
def fIsN : D → D → Option D := fun a b => match b with
  | .non => (match a with
    | .non => some (.bl true)
    | _ => some (.bl false))
  | _ => none
def fNotN : D → D → Option D := fun a b => match b with
  | .non => (match a with
    | .non => some (.bl false)
    | _ => some (.bl true))
  | _ => none
theorem rep_ne_non {H : Hp} {v : V} {a : D} (h : Rep K mg H v a) (n : a ≠ .non) : v ≠ .non := by
  intro e
  subst e
  cases a with
  | non => exact n rfl
  | bl b => cases (show V.non = .bl b from h)
  | int b => cases (show V.non = .int b from h)
  | str b => cases (show V.non = .str b from h)
  | ty b => cases (show V.non = .ty b from h)
  | lst ds => obtain ⟨_, _, e, _⟩ := h; cases e
  | tup ds => obtain ⟨_, _, e, _⟩ := h; cases e
  | dct ks ds => obtain ⟨_, _, e, _⟩ := h; cases e
  | obj c ns ds => obtain ⟨_, _, _, _, e, _⟩ := h; cases e
  | scr ns => obtain ⟨_, e, _⟩ := h; cases e
  | hl => obtain ⟨_, e⟩ := h; cases e
theorem opd_isN : OpD (fun x y H Q => y = .non ∧ Q (.bl (decide (x = .non))) H) K mg fIsN := by
  intro H x y a b d ra rb q
  cases b <;> first | (cases q; done) | skip
  have e2 : y = .non := rb
  by_cases n : a = .non
  · subst n
    have e1 : x = .non := ra
    cases q
    exact ⟨.bl true, rfl, fun Q k => ⟨e2, by rw [e1]; exact k⟩⟩
  · have hx := rep_ne_non ra n
    have q' : d = .bl false := by
      cases a <;> first | exact absurd rfl n | (cases q; rfl)
    subst q'
    exact ⟨.bl false, rfl, fun Q k => ⟨e2, by rw [decide_eq_false hx]; exact k⟩⟩
theorem opd_notN : OpD (fun x y H Q => y = .non ∧ Q (.bl (!decide (x = .non))) H) K mg fNotN := by
  intro H x y a b d ra rb q
  cases b <;> first | (cases q; done) | skip
  have e2 : y = .non := rb
  by_cases n : a = .non
  · subst n
    have e1 : x = .non := ra
    cases q
    exact ⟨.bl false, rfl, fun Q k => ⟨e2, by rw [e1]; exact k⟩⟩
  · have hx := rep_ne_non ra n
    have q' : d = .bl true := by
      cases a <;> first | exact absurd rfl n | (cases q; rfl)
    subst q'
    exact ⟨.bl true, rfl, fun Q k => ⟨e2, by rw [decide_eq_false hx]; exact k⟩⟩
def flatD : D → Bool
  | .non => true
  | .bl _ => true
  | .int _ => true
  | .str _ => true
  | _ => false
def eqF : D → D → Bool
  | .non, .non => true
  | .bl a, .bl b => a == b
  | .bl a, .int b => (if a then 1 else 0) == b
  | .int a, .bl b => a == (if b then 1 else 0)
  | .int a, .int b => a == b
  | .str a, .str b => a == b
  | _, _ => false
def inD (a b : D) : Option Bool := match b with
  | .lst ds => if (flatD a && ds.all flatD) = true then some (ds.any fun y => eqF y a) else (match toP a, toPs ds with
    | some p, some ps => if (shp p && shp (.list ps)) = true then some (ps.any fun z => PyData.eqv z p) else none
    | _, _ => none)
  | .tup ds => if (flatD a && ds.all flatD) = true then some (ds.any fun y => eqF y a) else none
  | .str z => (match a with
    | .str y => some (!(Builtin.Str.occurrences z y 0 z.length 1).isEmpty)
    | _ => none)
  | _ => none
def fIn : D → D → Option D := fun a b => (inD a b).map .bl
def fNotIn : D → D → Option D := fun a b => (inD a b).map fun k => .bl (!k)
theorem flat_rep {H : Hp} {v : V} {a : D} (h : Rep K mg H v a) (f : flatD a = true) : flatV v = true := by
  cases a <;> first | (cases f; done) | (cases (show v = _ from h); rfl)
theorem eqF_rep {H : Hp} {v w : V} {a b : D} (h : Rep K mg H v a) (h' : Rep K mg H w b) (f : flatD a = true) (f' : flatD b = true) : eqV v w = eqF a b := by
  cases a <;> first | (cases f; done) | skip
  all_goals (cases b <;> first | (cases f'; done) | skip)
  all_goals (cases (show v = _ from h); cases (show w = _ from h'); rfl)
theorem flats_rep {H : Hp} : ∀ {vs : List V} {ds : List D}, Reps K mg H vs ds → ds.all flatD = true → vs.all flatV = true
  | [], [], _, _ => rfl
  | v :: vs, d :: ds, ⟨h1, h2⟩, f => by
    obtain ⟨f1, f2⟩ := Bool.and_eq_true_iff.mp (show (flatD d && ds.all flatD) = true from f)
    show (flatV v && vs.all flatV) = true
    rw [flat_rep h1 f1, flats_rep h2 f2]; rfl
  | [], _ :: _, h, _ => h.elim
  | _ :: _, [], h, _ => h.elim
theorem inV_rep {H : Hp} {x : V} {a : D} (hx : Rep K mg H x a) (fx : flatD a = true) : ∀ {vs : List V} {ds : List D}, Reps K mg H vs ds → ds.all flatD = true → inV x vs = ds.any fun y => eqF y a
  | [], [], _, _ => rfl
  | v :: vs, d :: ds, ⟨h1, h2⟩, f => by
    obtain ⟨f1, f2⟩ := Bool.and_eq_true_iff.mp (show (flatD d && ds.all flatD) = true from f)
    show (eqV v x || inV x vs) = (eqF d a || _)
    rw [eqF_rep h1 hx f1 fx, inV_rep hx fx h2 f2]
  | [], _ :: _, h, _ => h.elim
  | _ :: _, [], h, _ => h.elim
def rInA (K : PySem.W.Frag) : R2 := fun x y H Q => rIn K false x y H Q ∨ rInP K x y H Q ∨ (∃ i j, x = .str i ∧ y = .str j ∧ Q (.bl (!(Builtin.Str.occurrences j i 0 j.length 1).isEmpty)) H)
def rNotInA (K : PySem.W.Frag) : R2 := fun x y H Q => rIn K true x y H Q ∨ rNotInP K x y H Q ∨ (∃ i j, x = .str i ∧ y = .str j ∧ Q (.bl (!(!(Builtin.Str.occurrences j i 0 j.length 1).isEmpty))) H)
theorem op_inA {X : Cx} (hu : X.A.units + 65 < cLine) : OpR X (compareOp .In) (rInA X.K) := op_in_seq.or ((op_inP hu).or op_in_str)
theorem op_notInA {X : Cx} (hu : X.A.units + 65 < cLine) : OpR X (compareOp .NotIn) (rNotInA X.K) := op_notIn_seq.or ((op_notInP hu).or op_notin_str)
theorem inD_ok {H : Hp} {x y : V} {a b : D} {k : Bool} (ra : Rep K mg H x a) (rb : Rep K mg H y b) (q : inD a b = some k) : ∀ Q : VK, (Q (.bl k) H → rInA K x y H Q) ∧ (Q (.bl (!k)) H → rNotInA K x y H Q) := by
  intro Q
  cases b with
  | lst ds =>
    obtain ⟨p, vs, e, h1, h2⟩ := rb
    unfold inD at q
    simp only at q
    split at q
    · rename_i h
      obtain ⟨f1, f2⟩ := Bool.and_eq_true_iff.mp h
      have ek : (ds.any fun y => eqF y a) = k := Option.some.inj q
      have ei := inV_rep ra f1 h2 f2
      rw [ek] at ei
      exact ⟨fun hk => .inl ⟨p, vs, e, .inl (SqL.of h1), flat_rep ra f1, flats_rep h2 f2, by rw [ei]; exact hk⟩, fun hk => .inl ⟨p, vs, e, .inl (SqL.of h1), flat_rep ra f1, flats_rep h2 f2, by rw [ei]; exact hk⟩⟩
    · cases z1 : toP a with
      | none => rw [z1] at q; cases q
      | some pa =>
        cases z2 : toPs ds with
        | none => rw [z1, z2] at q; cases q
        | some ps =>
          rw [z1, z2] at q
          simp only at q
          split at q
          · rename_i h
            obtain ⟨f1, f2⟩ := Bool.and_eq_true_iff.mp h
            have ek : (ps.any fun z => PyData.eqv z pa) = k := Option.some.inj q
            subst e
            have d1 := dp_of a ra z1
            have d2 : Dp K H (.ref p) (.list ps) := .lst (SqL.of h1) (dps_of ds h2 z2)
            exact ⟨fun hk => .inr (.inl ⟨pa, ps, d1, d2, f1, f2, by rw [ek]; exact hk⟩), fun hk => .inr (.inl ⟨pa, ps, d1, d2, f1, f2, by rw [ek]; exact hk⟩)⟩
          · cases q
  | tup ds =>
    obtain ⟨p, vs, e, h1, h2⟩ := rb
    unfold inD at q
    simp only at q
    split at q
    · rename_i h
      obtain ⟨f1, f2⟩ := Bool.and_eq_true_iff.mp h
      have ek : (ds.any fun y => eqF y a) = k := Option.some.inj q
      have ei := inV_rep ra f1 h2 f2
      rw [ek] at ei
      exact ⟨fun hk => .inl ⟨p, vs, e, .inr h1, flat_rep ra f1, flats_rep h2 f2, by rw [ei]; exact hk⟩, fun hk => .inl ⟨p, vs, e, .inr h1, flat_rep ra f1, flats_rep h2 f2, by rw [ei]; exact hk⟩⟩
    · cases q
  | str z =>
    cases a with
    | str w =>
      have e1 : x = .str w := ra
      have e2 : y = .str z := rb
      have ek : (!(Builtin.Str.occurrences z w 0 z.length 1).isEmpty) = k := Option.some.inj q
      exact ⟨fun hk => .inr (.inr ⟨w, z, e1, e2, by rw [ek]; exact hk⟩), fun hk => .inr (.inr ⟨w, z, e1, e2, by rw [ek]; exact hk⟩)⟩
    | _ => cases q
  | _ => cases q
theorem opd_in : OpD (rInA K) K mg fIn := by
  intro H x y a b d ra rb q
  unfold fIn at q
  cases z : inD a b with
  | none => rw [z] at q; cases q
  | some k => rw [z] at q; cases q; exact ⟨.bl k, rfl, fun Q hk => (inD_ok ra rb z Q).1 hk⟩
theorem opd_notIn : OpD (rNotInA K) K mg fNotIn := by
  intro H x y a b d ra rb q
  unfold fNotIn at q
  cases z : inD a b with
  | none => rw [z] at q; cases q
  | some k => rw [z] at q; cases q; exact ⟨.bl (!k), rfl, fun Q hk => (inD_ok ra rb z Q).2 hk⟩
def lenD : List D → Option D
  | [.lst ds] => some (.int (ds.length : Nat))
  | [.tup ds] => some (.int (ds.length : Nat))
  | [.scr ns] => some (.int (ns.length : Nat))
  | [.str z] => if z.length ≤ sizeLine then some (.int (z.length : Nat)) else none
  | _ => none
theorem cbd_len : CbD (fun xs H Q => ∃ x n, xs = [x] ∧ LenV K x H n ∧ Q (.int n) H) K mg lenD := by
  intro H xs as d r q
  match as, r with
  | [a], r =>
    obtain ⟨v, e, rv⟩ := reps1 r
    subst e
    cases a with
    | lst ds =>
      obtain ⟨p, vs, e, h1, h2⟩ := rv
      subst e
      cases q
      exact ⟨_, rfl, fun Q k => ⟨_, ds.length, rfl, .inl ⟨vs, SqL.of h1, h2.length.symm⟩, k⟩⟩
    | tup ds =>
      obtain ⟨p, vs, e, h1, h2⟩ := rv
      subst e
      cases q
      exact ⟨_, rfl, fun Q k => ⟨_, ds.length, rfl, .inr ⟨vs, h1, h2.length.symm⟩, k⟩⟩
    | scr ns =>
      obtain ⟨p, e, h1⟩ := rv
      subst e
      cases q
      exact ⟨_, rfl, fun Q k => ⟨_, ns.length, rfl, .inl ⟨_, h1, (List.length_map _).symm⟩, k⟩⟩
    | str z =>
      have e : v = .str z := rv
      subst e
      have q' : (if z.length ≤ sizeLine then some (D.int (z.length : Nat)) else none) = some d := q
      split at q'
      · rename_i h
        cases q'
        exact ⟨_, rfl, fun Q k => ⟨_, z.length, rfl, ⟨h, rfl⟩, k⟩⟩
      · cases q'
    | _ => cases q
  | [], _ => simp [lenD] at q
  | _ :: _ :: _, _ => simp [lenD] at q
def intD : List D → Option D
  | [.int i] => some (.int i)
  | [.bl b] => some (.int (if b then 1 else 0))
  | _ => none
theorem cbd_int : CbD (fun xs H Q => (∃ i, xs = [.int i] ∧ Q (.int i) H) ∨ ∃ k, xs = [.bl k] ∧ Q (.int (if k then 1 else 0)) H) K mg intD := by
  intro H xs as d r q
  match as, r with
  | [a], r =>
    obtain ⟨v, e, rv⟩ := reps1 r
    subst e
    cases a with
    | int i => cases q; exact ⟨_, rfl, fun Q k => .inl ⟨i, by rw [show v = .int i from rv], k⟩⟩
    | bl b => cases q; exact ⟨_, rfl, fun Q k => .inr ⟨b, by rw [show v = .bl b from rv], k⟩⟩
    | _ => cases q
  | [], _ => simp [intD] at q
  | _ :: _ :: _, _ => simp [intD] at q
def intsOf : List D → Option (List Int)
  | [] => some []
  | .int i :: ds => (intsOf ds).map (i :: ·)
  | _ => none
theorem intsOf_map (ns : List Int) : intsOf (ns.map .int) = some ns := by
  induction ns with
  | nil => rfl
  | cons n ns ih => show (intsOf (ns.map .int)).map (n :: ·) = _; rw [ih]; rfl
def intsL : List D → Option (List Int)
  | [.lst ds] => intsOf ds
  | _ => none
def sumD (as : List D) : Option D := (intsL as).map fun ns => .int ns.sum
def tyName : D → Option String
  | .non => some "NoneType"
  | .bl _ => some "bool"
  | .int _ => some "int"
  | .str _ => some "str"
  | .lst _ => some "list"
  | .tup _ => some "tuple"
  | .dct _ _ => some "dict"
  | _ => none
def isiD : List D → Option D
  | [x, .ty n] => (match tyName x with
    | some t => (kitB t n).map .bl
    | none => none)
  | _ => none
def truD : D → Option Bool
  | .non => some false
  | .bl b => some b
  | .int i => some (i != 0)
  | .str y => if y.length ≤ sizeLine then some ((y.length : Int) != 0) else none
  | .lst ds => some !ds.isEmpty
  | .tup ds => some !ds.isEmpty
  | .dct ks _ => some !ks.isEmpty
  | _ => none
theorem isEmpty_len {α β : Type} {xs : List α} {ys : List β} (h : xs.length = ys.length) : xs.isEmpty = ys.isEmpty := by
  cases xs <;> cases ys <;> first | rfl | cases h
theorem truD_ok {H : Hp} {v : V} {d : D} {k : Bool} (r : Rep K mg H v d) (q : truD d = some k) : TruV K v H k := by
  cases d with
  | non => cases q; rw [show v = .non from r]; exact rfl
  | bl b => cases q; rw [show v = .bl _ from r]; exact rfl
  | int b => cases q; rw [show v = .int b from r]; exact rfl
  | str b =>
    rw [show v = .str b from r]
    have q' : (if b.length ≤ sizeLine then some ((b.length : Int) != 0) else none) = some k := q
    split at q'
    · rename_i h; cases q'; exact ⟨h, rfl⟩
    · cases q'
  | lst ds => obtain ⟨p, vs, e, h1, h2⟩ := r; cases q; subst e; exact .inl ⟨vs, SqL.of h1, by rw [isEmpty_len h2.length]⟩
  | tup ds => obtain ⟨p, vs, e, h1, h2⟩ := r; cases q; subst e; exact .inr (.inl ⟨vs, h1, by rw [isEmpty_len h2.length]⟩)
  | dct ks ds =>
    obtain ⟨p, vs, e, h1, h3, h2⟩ := r; cases q; subst e
    refine .inr (.inr ⟨_, h1, ?_⟩)
    rw [isEmpty_len (xs := ks.zip vs) (ys := ks) (by rw [List.length_zip]; omega)]
  | _ => cases q
end
end VF
set_option maxRecDepth 100000
set_option maxHeartbeats 4000000
namespace VF
set_option autoImplicit false
open PySem PySem.Spec PyProof.Rows L2
open AT (cells cellsL er ers)
section
variable {K : PySem.W.Frag} {mg : Str → Option Value} {E : XS}
theorem SE.imp {t t' : TE} {m : M RV} (h : SE K mg E t m) (k : ∀ σ H Q, t σ H Q → t' σ H Q) : SE K mg E t' m := fun pv F H σ e as held Q c w => k _ _ _ (h pv F H σ e as held Q c w)
def blOf : D → Option Bool
  | .bl b => some b
  | _ => none
def dChain (f g : D → D → Option D) (a b c : M RV) : M RV := a.bind fun r => b.bind fun q => fun e => match view e r, view e q with
  | some x, some y => (match (f x y).bind blOf with
    | some true => (c e).bind fun p e => (match view e q, view e p with
      | some y, some z => (match g y z with
        | some d => .ok (.fz d) e
        | none => .st)
      | _, _ => .st)
    | some false => .ok (.fz (.bl false)) e
    | none => .st)
  | _, _ => .st
theorem blOf_some {d : Option D} {k : Bool} (h : d.bind blOf = some k) : d = some (.bl k) := by
  cases d with
  | none => cases h
  | some d => cases d with
    | bl b => cases h; rfl
    | _ => cases h
def dIfE (t : M Bool) (a b : M RV) : M RV := t.bind fun k => match k with
  | true => a
  | false => b
def dBl (a : M RV) (k : Bool → M RV) : M RV := a.bind fun r => fun e => match (view e r).bind blOf with
  | some b => k b e
  | none => .st
theorem se_bl {ta : TE} {ma : M RV} {k : Bool → M RV} {tk : Bool → TE} (ha : SE K mg E ta ma) (hk : ∀ b, SE K mg E (tk b) (k b)) : SE K mg E (fun σ H Q => ta σ H fun x H1 => ∃ c, x = .bl c ∧ tk c σ H1 Q) (dBl ma k) := by
  intro pv F H σ e as held Q c w
  refine ha pv F H σ e as held _ c (WE.bindE (W := WE K mg pv F held σ Q E) (fun z => z) w (fun _ _ z => z) fun r1 e1 v1 F1 H1 as1 tr1 s1 c1 rr1 w1 => ?_)
  cases q : (view e1 r1).bind blOf with
  | none => simp only [q] at w1; exact w1.elim
  | some b =>
    simp only [q] at w1
    have p1 := c1.seen rr1 (fun t ht => List.mem_append_left _ ht) (blOf_some q)
    exact ⟨b, p1, hk b pv F1 H1 σ e1 as1 held Q c1.drop (WE.mono s1 w1)⟩
def dAndV (a b : M RV) : M RV := dBl a fun c => match c with
  | true => b
  | false => dC (.bl false)
def dOrV (a b : M RV) : M RV := dBl a fun c => match c with
  | true => dC (.bl true)
  | false => b
def dNotV (a : M RV) : M RV := dBl a fun c => dC (.bl (!c))
theorem se_andV {ta tb : TE} {ma mb : M RV} (ha : SE K mg E ta ma) (hb : SE K mg E tb mb) : SE K mg E (tAndV ta tb) (dAndV ma mb) := by
  refine (se_bl (tk := fun c => if c = true then tb else tC (.bl false)) ha fun b => ?_).imp fun σ H Q h => ?_
  · cases b with
    | true => rw [if_pos rfl]; exact hb
    | false => rw [if_neg (by decide)]; exact se_c
  · revert h
    have key : (fun (x : V) H1 => ∃ c, x = .bl c ∧ (if c = true then tb else tC (.bl false)) σ H1 Q) = (fun x H1 => ∃ c, x = .bl c ∧ if c = true then tb σ H1 Q else Q (.bl false) H1) := by
      funext x H1
      refine propext ⟨fun ⟨c, h1, h2⟩ => ⟨c, h1, ?_⟩, fun ⟨c, h1, h2⟩ => ⟨c, h1, ?_⟩⟩
      · cases c with
        | true => rw [if_pos rfl] at h2 ⊢; exact h2
        | false => rw [if_neg (by decide)] at h2 ⊢; exact h2
      · cases c with
        | true => rw [if_pos rfl] at h2 ⊢; exact h2
        | false => rw [if_neg (by decide)] at h2 ⊢; exact h2
    intro h
    show ta σ H (fun x H1 => ∃ c, x = .bl c ∧ if c = true then tb σ H1 Q else Q (.bl false) H1)
    rw [← key]; exact h
def dTru (a : M RV) : M Bool := a.bind fun r => fun e => match (view e r).bind truD with
  | some b => .ok b e
  | none => .st
theorem st_tru {ta : TE} {ma : M RV} (ha : SE K mg E ta ma) : ST K mg E (fun σ H Q => ta σ H fun x H' => ∃ k, TruV K x H' k ∧ Q k H') (dTru ma) := by
  intro pv F H σ e as held Q c w
  refine ha pv F H σ e as held _ c (WE.bindE (W := WT K mg pv F held σ Q E) (fun z => z) w (fun _ _ z => z) fun r1 e1 v1 F1 H1 as1 tr1 s1 c1 rr1 w1 => ?_)
  cases q1 : view e1 r1 with
  | none => simp only [q1] at w1; exact w1.elim
  | some x =>
    simp only [q1] at w1
    have p1 := c1.seen rr1 (fun t ht => List.mem_append_left _ ht) q1
    cases q2 : truD x with
    | none => simp only [Option.bind, q2] at w1; exact w1.elim
    | some b =>
      simp only [Option.bind, q2] at w1
      exact ⟨b, truD_ok p1 q2, w1 F1 H1 as1 s1 c1.drop⟩
end
section
variable {X : Cx} {E : XS} {a b c : Expr} {ma mb mc : M RV} {pos : Pos}
theorem v_var {i : Nat} {x : Str} {p : Pos} (hN : X.N[i]? = some x) (hv : Vis X.env.scope x) (hd : (x == ("__debug__" : Str)) = false := by decide) (hcd : (x == ("__classdict__" : Str)) = false := by decide) : VE X E (.Name x p) (dVar i) := .mk (pe_var hN hv hd hcd) se_var
theorem v_int {i : Int} {j} : VE X E (.Constant (.int i) j pos) (dC (.int i)) := .mk pe_int se_c
theorem v_bl {k : Bool} {j} : VE X E (.Constant (.bool k) j pos) (dC (.bl k)) := .mk pe_bl se_c
theorem v_non {j} : VE X E (.Constant .none j pos) (dC .non) := .mk pe_non se_c
theorem v_sub (ha : VE X E a ma) (hb : VE X E b mb) : VE X E (.BinOp a .Sub b pos) (dOp (fI (· - ·)) ma mb) := .mk (pe_op op_sub ha hb) (se_op opd_I se_w se_w)
theorem v_mul (ha : VE X E a ma) (hb : VE X E b mb) : VE X E (.BinOp a .Mult b pos) (dOp fMul ma mb) := .mk (pe_op op_mul ha hb) (se_op opd_mul se_w se_w)
theorem v_mod (ha : VE X E a ma) (hb : VE X E b mb) : VE X E (.BinOp a .Mod b pos) (dOp fMod ma mb) := .mk (pe_op op_mod ha hb) (se_op opd_mod se_w se_w)
theorem v_div (ha : VE X E a ma) (hb : VE X E b mb) : VE X E (.BinOp a .FloorDiv b pos) (dOp fDiv ma mb) := .mk (pe_op op_fdiv ha hb) (se_op opd_div se_w se_w)
theorem v_pow (ha : VE X E a ma) (hb : VE X E b mb) : VE X E (.BinOp a .Pow b pos) (dOp fPow ma mb) := .mk (pe_op op_pow ha hb) (se_op opd_pow se_w se_w)
theorem v_addI (ha : VE X E a ma) (hb : VE X E b mb) : VE X E (.BinOp a .Add b pos) (dOp (fI (· + ·)) ma mb) := .mk (pe_op op_add ha hb) (se_op opd_I se_w se_w)
theorem v_eq (hu : X.A.units + 64 < cLine) (ha : VE X E a ma) (hb : VE X E b mb) : VE X E (.Compare a [.Eq] [b] pos) (dOp fEq ma mb) := .mk (pe_cmpR (op_eqP hu) ha hb (nomark _)) (se_op opd_eq se_w se_w)
theorem t_lt (ha : VE X E a ma) (hb : VE X E b mb) : VT X E (.Compare a [.Lt] [b] pos) (dT (dOp (fB fun i j => decide (i < j)) ma mb)) := .mk (pt_cmpR op_lt ha hb (nomark _)) (st_test (se_op opd_B se_w se_w))
theorem t_gt (ha : VE X E a ma) (hb : VE X E b mb) : VT X E (.Compare a [.Gt] [b] pos) (dT (dOp (fB fun i j => decide (j < i)) ma mb)) := .mk (pt_cmpR op_gt ha hb (nomark _)) (st_test (se_op opd_B se_w se_w))
theorem t_ge (ha : VE X E a ma) (hb : VE X E b mb) : VT X E (.Compare a [.GtE] [b] pos) (dT (dOp (fB fun i j => decide (j ≤ i)) ma mb)) := .mk (pt_cmpR op_ge ha hb (nomark _)) (st_test (se_op opd_B se_w se_w))
theorem t_eq (hu : X.A.units + 64 < cLine) (ha : VE X E a ma) (hb : VE X E b mb) : VT X E (.Compare a [.Eq] [b] pos) (dT (dOp fEq ma mb)) := .mk (pt_cmpR (op_eqP hu) ha hb (nomark _)) (st_test (se_op opd_eq se_w se_w))
theorem t_isN (ha : VE X E a ma) (hb : VE X E b mb) : VT X E (.Compare a [.Is] [b] pos) (dT (dOp fIsN ma mb)) := .mk (pt_cmpR op_isN ha hb (nomark _)) (st_test (se_op opd_isN se_w se_w))
theorem t_notN (ha : VE X E a ma) (hb : VE X E b mb) : VT X E (.Compare a [.IsNot] [b] pos) (dT (dOp fNotN ma mb)) := .mk (pt_cmpR op_notN ha hb (nomark _)) (st_test (se_op opd_notN se_w se_w))
theorem t_in (hu : X.A.units + 65 < cLine) (ha : VE X E a ma) (hb : VE X E b mb) (hm : behindInMarks .In b = false) : VT X E (.Compare a [.In] [b] pos) (dT (dOp fIn ma mb)) := .mk (pt_cmpR (op_inA hu) ha hb hm) (st_test (se_op opd_in se_w se_w))
theorem t_notIn (hu : X.A.units + 65 < cLine) (ha : VE X E a ma) (hb : VE X E b mb) (hm : behindInMarks .NotIn b = false) : VT X E (.Compare a [.NotIn] [b] pos) (dT (dOp fNotIn ma mb)) := .mk (pt_cmpR (op_notInA hu) ha hb hm) (st_test (se_op opd_notIn se_w se_w))
theorem t_tru (ha : VE X E a ma) (he : ∀ whole, isTrue a X.env whole = (do let v ← whole; standAt a.pos; holding [v] (truthy v)) := by intro _; rfl) : VT X E a (dTru ma) := .mk (pt_truth ha he) (st_tru se_w)
variable {es : List Expr} {ta tb : M Bool} {mr : M (List RV)} {rest : List Expr}
def VW (X : Cx) (E : XS) (e : Expr) (m : M Bool) : Prop := PW X e (wT X.K X.mg E m)
theorem VW.mk {e : Expr} {t : TT} {m : M Bool} (h : PW X e t) (s : ST X.K X.mg E t m) : VW X E e m := ⟨fun wh pins s0 σ H Q I ⟨pv, F, e0, as, held, c, w⟩ => h.run wh pins s0 σ H Q I (s pv F H σ e0 as held Q c w)⟩
theorem VW.t {e : Expr} {m : M Bool} (h : VW X E e m) : VT X E e m := PW.pt h
theorem w_and1 (ha : VT X E a ta) : VW X E (.BoolOp .And [a] pos) ta := pw_and1 ha
theorem w_or1 (ha : VT X E a ta) : VW X E (.BoolOp .Or [a] pos) ta := pw_or1 ha
theorem w_and (ha : VT X E a ta) (hb : VW X E (.BoolOp .And (b :: rest) pos) tb) : VW X E (.BoolOp .And (a :: b :: rest) pos) (dAnd ta tb) := .mk (pw_and ha hb) (st_and st_w st_w)
theorem w_or (ha : VT X E a ta) (hb : VW X E (.BoolOp .Or (b :: rest) pos) tb) : VW X E (.BoolOp .Or (a :: b :: rest) pos) (dOr ta tb) := .mk (pw_or ha hb) (st_or st_w st_w)
theorem t_not (ha : VT X E a ta) : VT X E (.UnaryOp .Not a pos) (dNot ta) := .mk (pt_not ha) (st_not st_w)
theorem v_one {op} (h : VE X E a ma) : VE X E (.BoolOp op [a] pos) ma := pe_one h
theorem v_and (ha : VE X E a ma) (hb : VE X E (.BoolOp .And (b :: rest) pos) mb) : VE X E (.BoolOp .And (a :: b :: rest) pos) (dAndV ma mb) := .mk (pe_and ha hb) (se_andV se_w se_w)
theorem a_nil : VA X E [] dNil := .mk pa_nil sa_nil
theorem a_cons (ha : VE X E a ma) (hr : VA X E es mr) (hs : starEach (a :: es) X.env = (false, eval a X.env) :: starEach es X.env := by rfl) : VA X E (a :: es) (dCons ma mr) := .mk (pa_cons ha hr hs) (sa_cons se_w sa_w)
theorem v_lst (ha : VA X E es mr) : VE X E (.List es pos) (dLst mr) := .mk (pe_lst ha) (se_lst sa_w)
theorem v_tup {x1} (ha : VA X E es mr) : VE X E (.Tuple es x1 pos) (dTup mr) := .mk (pe_tup ha) (se_tup sa_w)
theorem v_ix (ha : VE X E a ma) (hb : VE X E b mb) (hs : PlainIx b) : VE X E (.Subscript a b pos) (dIx ma mb) := .mk (pe_ix ix_seq ha hb hs) (se_ix se_w se_w)
theorem v_len {p : Pos} {es : List Expr} {mr : M (List RV)} (hg : Gl X "len") (hm : X.mg "len" = none) (ha : VA X E (a :: es) mr) (he : starEach (a :: es) X.env = (false, eval a X.env) :: starEach es X.env := by rfl) (hpl : (backTo pos (starEach es X.env)).any (·.1) = false := by rfl) :
    VE X E (.Call (.Name "len" p) (a :: es) [] pos) (dCB lenD mr) := .mk (pe_callB call_len hg hm (by decide +kernel) ha (by decide) (by decide) he hpl) (se_cb cbd_len sa_w)
theorem v_callInt {p : Pos} {es : List Expr} {mr : M (List RV)} (hg : Gl X "int") (hm : X.mg "int" = none) (ha : VA X E (a :: es) mr) (he : starEach (a :: es) X.env = (false, eval a X.env) :: starEach es X.env := by rfl) (hpl : (backTo pos (starEach es X.env)).any (·.1) = false := by rfl) :
    VE X E (.Call (.Name "int" p) (a :: es) [] pos) (dCB intD mr) := .mk (pe_callTy call_int1 hg hm (by decide +kernel) ha (by decide) (by decide) he hpl) (se_cb cbd_int sa_w)
theorem v_call {CX : CXT} {k : Nat} {f : Addr} {fd : FuncData} {ps : List Str} {x : Str} {p : Pos} {md : List Bool} {φ : Fn} (F : FnOk X.prog X.w X.K X.mg X.base CX k f fd ps (spF X.K X.mg md.length φ)) (hr : Room k X.A) (hg : Gl X x) (hm : X.mg x = some (.ref f)) (hk : PySem.W.keepIn X.K (.ref f) = true) (hb : Binds X.K fd ps []) (hx : ∀ σ, PassesAt CX X σ fun cls d H => E cls d σ H)
    (ha : VA X E (a :: es) mr) (hdb : (x == ("__debug__" : Str)) = false := by decide) (he : starEach (a :: es) X.env = (false, eval a X.env) :: starEach es X.env := by rfl) (hpl : (backTo pos (starEach es X.env)).any (·.1) = false := by rfl) :
    VE X E (.Call (.Name x p) (a :: es) [] pos) (dCall md φ mr) := .mk (pe_callS F hr hg hm hk hb hx ha hdb he hpl) (se_call sa_w)
theorem v_callB {CX : CXT} {k n : Nat} {f : Addr} {fd : FuncData} {ps : List Str} {x : Str} {p : Pos} {φ : Fn} (F : FnOk X.prog X.w X.K X.mg X.base CX k f fd ps (spF X.K X.mg n φ)) (hr : Room k X.A) (hg : Gl X x) (hm : X.mg x = some (.ref f)) (hk : PySem.W.keepIn X.K (.ref f) = true) (hb : Binds X.K fd ps []) (hx : ∀ σ, PassesAt CX X σ fun cls d H => E cls d σ H)
    (ha : VA X E (a :: es) mr) (hdb : (x == ("__debug__" : Str)) = false := by decide) (he : starEach (a :: es) X.env = (false, eval a X.env) :: starEach es X.env := by rfl) (hpl : (backTo pos (starEach es X.env)).any (·.1) = false := by rfl) :
    VE X E (.Call (.Name x p) (a :: es) [] pos) (dCallB n φ mr) := .mk (pe_callS F hr hg hm hk hb hx ha hdb he hpl) (se_callB sa_w)
theorem v_app {i : Nat} {x : Str} {p p1 : Pos} (hN : X.N[i]? = some x) (hv : Vis X.env.scope x) (ha : VE X E a ma) (hs : starEach [a] X.env = (false, eval a X.env) :: starEach [] X.env := by rfl) (hd : (x == ("__debug__" : Str)) = false := by decide) (hcd : (x == ("__classdict__" : Str)) = false := by decide)
    (h : ∀ {to : TE} {t : TA}, PE X (.Name x p) to → PA X [a] t → PE X (.Call (.Attribute (.Name x p) "append" p1) [a] [] pos) (tBM X.K "list" rAppend to t)) : VE X E (.Call (.Attribute (.Name x p) "append" p1) [a] [] pos) (dApp i ma) :=
  .mk (h (pe_var hN hv hd hcd) (pa_cons ha pa_nil hs)) (se_app se_w)
end
section
variable {X : Cx} {E : XS} {s : Stmt} {ss rest : List Stmt} {m m' : M Fl} {e a b c : Expr} {me ma mb : M RV} {mc : M Bool} {pos : Pos}
theorem b_nil : VB X E [] dNext := .mk pss_nil ss_next
theorem b_cons (h1 : VS X E s m) (h2 : VB X E rest m') : VB X E (s :: rest) (dSeq m m') := .mk (pss_cons h1 h2) (ss_seq ss_w ss_w)
theorem b_one (h1 : VS X E s m) : VB X E [s] m := pss_one h1
theorem s_if {x y : List Stmt} (hc : VT X E c mc) (ha : VB X E x m) (hb : VB X E y m') : VS X E (.If c x y pos) (dIf mc m m') := .mk (ps_if hc ha hb) (ss_if st_w ss_w ss_w)
theorem s_ret (he : VE X E e me) : VS X E (.Return (some e) pos) (dRet me) := .mk (ps_ret he) (ss_ret se_w)
theorem s_expr (he : VE X E e me) (hs : swapsWith e none pos.line X.env = pure false := by rfl) : VS X E (.Expr e pos) (dDrop me) := .mk (ps_expr he hs) (ss_drop se_w)
theorem s_set {i : Nat} {x : Str} {p : Pos} (hN : X.N.Nodup) (hi : X.N[i]? = some x) (hx : Loc X.env.scope x) (he : VE X E e me) (hs : swapsWith e (some (.Name x p)) pos.line X.env = pure false := by rfl) (hf : X.fn x = true ∨ X.env.scope.names.lookup x = some .local := by first | exact .inl rfl | exact .inr rfl | assumption) :
    VS X E (.Assign [.Name x p] e pos) (dSet i me) := .mk (ps_set hN hi hx he hs hf) (ss_set se_w)
theorem s_aug {i : Nat} {x : Str} {p : Pos} {op : Operator} {f : Int → Int → Int} (ho : PIp X op (ipI f)) (hN : X.N.Nodup) (hi : X.N[i]? = some x) (hx : Loc X.env.scope x) (he : VE X E e me) (hf : X.fn x = true ∨ X.env.scope.names.lookup x = some .local := by first | exact .inl rfl | exact .inr rfl | assumption) :
    VS X E (.AugAssign (.Name x p) op e pos) (dAug i f me) := .mk (ps_aug hN hi hx he ho hf) (ss_aug se_w)
theorem s_setIx {j : Nat} {x : Str} {p p1 : Pos} (hN : X.N[j]? = some x) (hv : Vis X.env.scope x) (hb : VE X E b mb) (ha : VE X E a ma)
    (hg : ∀ {to ti : TE}, PE X (.Name x p) to → PE X b ti → PG X (.Subscript (.Name x p) b p1) (gSub to ti rSetL))
    (hs : swapsWithSole [.Subscript (.Name x p) b p1] a pos.line X.env = pure false := by rfl) (hw : swappedStores [.Subscript (.Name x p) b p1] a X.env = pure none := by rfl)
    (h1 : (assignEach [.Subscript (.Name x p) b p1] X.env).map (·.2) = [assign (.Subscript (.Name x p) b p1) X.env] := by rfl) (hd : (x == ("__debug__" : Str)) = false := by decide) (hcd : (x == ("__classdict__" : Str)) = false := by decide) :
    VS X E (.Assign [.Subscript (.Name x p) b p1] a pos) (dSetIx j mb ma) := .mk (ps_asg ha (hg (pe_var hN hv hd hcd) hb) hs hw h1) (ss_setIx se_w se_w)
def VI (X : Cx) (E : XS) (tg it : Expr) (m : M (List D)) : Prop := ∃ t, PI X tg it t ∧ SI X.K X.mg E t m
def wG (K : PySem.W.Frag) (mg : Str → Option Value) (L : List Nat) (g : Tg) : TG := fun v σ H Q => ∃ pv F e as held d e', Cf K mg pv F H σ e as held ∧ Rep K mg F v d ∧ g d e = some e' ∧ ∀ σ' as', (∀ vs, (∀ i ∈ L, i ∈ vs) → wipe σ' vs = wipe σ vs) → Cf K mg pv F H σ' e' as' held → Q σ' H
theorem sg_w {K : PySem.W.Frag} {mg : Str → Option Value} {L : List Nat} {g : Tg} : SG K mg L (wG K mg L g) g := fun pv F H σ e as held v d e' Q c r q k => ⟨pv, F, e, as, held, d, e', c, r, q, k⟩
def VG (X : Cx) (L : List Nat) (tg : Expr) (g : Tg) : Prop := PG X tg (wG X.K X.mg L g)
theorem VG.mk {L : List Nat} {tg : Expr} {t : TG} {g : Tg} (h : PG X tg t) (s : SG X.K X.mg L t g) : VG X L tg g := ⟨fun pins s0 σ H v u Q I r ⟨pv, F, e, as, held, d, e', c, rp, q, k⟩ => h.run pins s0 σ H v u Q I r (s pv F H σ e as held v d e' Q c rp q k)⟩
variable {tg it : Expr} {mi : M (List D)} {g : Tg} {L : List Nat} {mr : M (List RV)} {es : List Expr}
theorem i_any (he : VE X E e me) : VI X E tg e (dIt me) := ⟨_, pi_any he, si_any se_w⟩
theorem i_rng1 {p : Pos} (hg : Gl X "range") (hm : X.mg "range" = none) (ha : VA X E [a] mr) (hs : starEach [a] X.env = [(false, eval a X.env)] := by rfl) : VI X E tg (.Call (.Name "range" p) [a] [] pos) (dRng1 mr) := ⟨_, pi_range1 hg hm ha hs, si_rng1 sa_w⟩
theorem i_rng2 {p : Pos} (hg : Gl X "range") (hm : X.mg "range" = none) (ha : VA X E [a, b] mr) (hs : starEach [a, b] X.env = [(false, eval a X.env), (false, eval b X.env)] := by rfl) (hs2 : starEach [b] X.env = [(false, eval b X.env)] := by rfl) : VI X E tg (.Call (.Name "range" p) [a, b] [] pos) (dRng2 mr) := ⟨_, pi_range2 hg hm ha hs hs2, si_rng2 sa_w⟩
theorem i_enum {p tpos : Pos} {elts : List Expr} {kk : Nat} (hg : Gl X "enumerate") (hm : X.mg "enumerate" = none) (ha : VA X E [a] mr) (hs : starEach [a] X.env = [(false, eval a X.env)] := by rfl) : VI X E (.Tuple elts kk tpos) (.Call (.Name "enumerate" p) [a] [] pos) (dEnum mr) := ⟨_, pi_enum hg hm ha hs, si_enum sa_w⟩
theorem g_name {i : Nat} {x : Str} {p : Pos} (hN : X.N.Nodup) (hi : X.N[i]? = some x) (hx : Loc X.env.scope x) (hf : X.fn x = true ∨ X.env.scope.names.lookup x = some .local := by first | exact .inl rfl | exact .inr rfl | assumption) : VG X [i] (.Name x p) (gN i) := .mk (pg_name hN hi hx hf) sg_name
def VGs (X : Cx) (L : List Nat) (tgs : List Expr) (g : Tgs) : Prop := ∃ t, PGs X tgs t ∧ SGs X.K X.mg L t g
theorem gs_nil : VGs X [] [] gNo := ⟨_, pgs_nil, sgs_nil⟩
theorem gs_cons {L' : List Nat} {h : Tgs} (h1 : VG X L e g) (h2 : VGs X L' es h) (hs : (assignEach (e :: es) X.env).map (·.2) = assign e X.env :: (assignEach es X.env).map (·.2) := by rfl) : VGs X (L ++ L') (e :: es) (gCo g h) := by
  obtain ⟨u, p', s'⟩ := h2
  exact ⟨_, pgs_cons h1 p' hs, sgs_cons sg_w s'⟩
theorem g_tup {n k : Nat} {h : Tgs} (hc : X.calm = true) (h1 : VGs X L es h) (hn : (assignEach es X.env).length = n := by rfl) (hst : (assignEach es X.env).findIdx? (·.1) = none := by rfl) : VG X L (.Tuple es k pos) (gTp n h) := by
  obtain ⟨t, p, s⟩ := h1
  exact .mk (pg_tup hc p hn hst) (sg_tup s)
theorem s_for {body : List Stmt} (hp : PassesOwn (model X.prog X.w) X.A X.env X.xe) (hc : X.calm = true) (hi : VI X E tg it mi) (hg : VG X L tg g) (hb : VB X E body m) (hs : ∀ x, foldedSetIterable it X.env x = pure x := by intro _; rfl) : VS X E (.For tg it body [] pos) (dFor mi g m) := by
  obtain ⟨t, p, s⟩ := hi
  exact .mk (ps_for hp hc p hg hb hs) (ss_for s sg_w ss_w)
def VTs (X : Cx) (E : XS) (ifs : List Expr) (m : M Bool) : Prop := PTs X ifs (wT X.K X.mg E m)
theorem VTs.mk {ifs : List Expr} {t : TT} {m : M Bool} (h : PTs X ifs t) (s : ST X.K X.mg E t m) : VTs X E ifs m := ⟨fun pins s0 σ H Q I ⟨pv, F, e0, as, held, c, w⟩ => h.run pins s0 σ H Q I (s pv F H σ e0 as held Q c w)⟩
theorem ts_nil : VTs X E [] dYes := .mk pts_nil st_yes
theorem ts_one (h : VT X E c mc) : VTs X E [c] mc := pts_one h
theorem v_comp {elt : Expr} {ifs : List Expr} {scope sc : Scope} {own : List (Str × Nat)} {mt : M Bool} (hc : X.calm = true) (hN : X.N.Nodup) (hsc : X.env.scope = sc) (ok : BlkOk X.N sc scope own) (hL : ∀ i ∈ L, i ∈ own.map (·.2)) (hi : VI X E tg it mi)
    (hg : ∀ (s : Shared) (H : Hp) (C : Addr) (cl : List (Str × Addr)) (fp : List Addr), VG (X.blk s H scope (compEnvC scope cl C X.env) fp) L tg g) (ht : ∀ (s : Shared) (H : Hp) (C : Addr) (cl : List (Str × Addr)) (fp : List Addr), VTs (X.blk s H scope (compEnvC scope cl C X.env) fp) E0 ifs mt)
    (he : ∀ (s : Shared) (H : Hp) (C : Addr) (cl : List (Str × Addr)) (fp : List Addr), VE (X.blk s H scope (compEnvC scope cl C X.env) fp) E0 elt me) (hs : ∀ x, foldedSetIterable it X.env x = pure x := by intro _; rfl) :
    VE X E (.ListComp elt [⟨tg, it, ifs, 0⟩] scope pos) (dComp (own.map (·.2)) mi g mt me) := by
  subst hsc
  obtain ⟨t, p, s⟩ := hi
  exact .mk (pe_lc (g := wG X.K X.mg L g) (tt := wT X.K X.mg E0 mt) (te := wE X.K X.mg E0 me) hc hN p ok hg ht he hs) (se_comp s sg_w hL st_w se_w)
theorem s_setComp {i : Nat} {y : Str} {py spos : Pos} {elt : Expr} {ifs : List Expr} {scope sc : Scope} {own : List (Str × Nat)} {mt : M Bool} (hc : X.calm = true) (hN : X.N.Nodup) (hy : X.N[i]? = some y) (hyl : X.env.scope.names.lookup y = some .local)
    (hsw : swapsWith (.ListComp elt [⟨tg, it, ifs, 0⟩] scope pos) (some (.Name y py)) spos.line X.env = pure true) (hsc : X.env.scope = sc) (ok : BlkOk X.N sc scope own) (hL : ∀ i ∈ L, i ∈ own.map (·.2)) (hi : VI X E tg it mi)
    (hg : ∀ (s : Shared) (H : Hp) (C : Addr) (cl : List (Str × Addr)) (fp : List Addr), VG (X.blk s H scope (compEnvC scope cl C X.env) fp) L tg g) (ht : ∀ (s : Shared) (H : Hp) (C : Addr) (cl : List (Str × Addr)) (fp : List Addr), VTs (X.blk s H scope (compEnvC scope cl C X.env) fp) E0 ifs mt)
    (he : ∀ (s : Shared) (H : Hp) (C : Addr) (cl : List (Str × Addr)) (fp : List Addr), VE (X.blk s H scope (compEnvC scope cl C X.env) fp) E0 elt me) (hs : ∀ x, foldedSetIterable it X.env x = pure x := by intro _; rfl) :
    VS X E (.Assign [.Name y py] (.ListComp elt [⟨tg, it, ifs, 0⟩] scope pos) spos) (dSet i (dComp (own.map (·.2)) mi g mt me)) := by
  subst hsc
  obtain ⟨t, p, s⟩ := hi
  exact .mk (ps_setLc (g := wG X.K X.mg L g) (tt := wT X.K X.mg E0 mt) (te := wE X.K X.mg E0 me) hc hN hy hyl hsw p ok hg ht he hs) (ss_set (se_comp s sg_w hL st_w se_w))
end
end VF
set_option maxRecDepth 100000
set_option maxHeartbeats 4000000
namespace VF
set_option autoImplicit false
open PySem PySem.Spec PyProof.Rows L2
open AT (cells cellsL er ers)
theorem u64 {k : Nat} {A : Around} (r : Room k A) : A.units + 64 < cLine := by have := r.un; omega
theorem u65 {k : Nat} {A : Around} (r : Room k A) : A.units + 65 < cLine := by have := r.un; omega
theorem law_sp {K : PySem.W.Frag} {mg : Str → Option Value} {φ : Fn} {ns : List Int} {H : Hp} {a : Addr} {E : XK} (h : ∃ as', φ [.fz (.scr ns)] = .ok (.fz (.bl true)) as') (hS : SqL K H a (ns.map V.int)) : spF K mg 1 φ [.ref a] H (fun v _ => v = .bl true) E := by
  obtain ⟨as', h⟩ := h
  refine ⟨H, [.fz (.ref a) (.scr ns)], [], rfl, rfl, Same.refl _, ⟨fun c hc => absurd (show c ∈ ([] : List (Addr × HO)) from hc) List.not_mem_nil, ⟨⟨a, rfl, hS⟩, trivial⟩, List.nodup_nil⟩, ?_⟩
  rw [show ers [AT.fz (.ref a) (.scr ns)] = [SV.fz (.scr ns)] from rfl, h]
  intro v F' H' t ts' s s' e1 e2 _ _ g
  cases t with
  | fz u d =>
    have e3 : d = .bl true := by simpa [er] using e2
    subst e3
    have : u = .bl true := g.unfz.2
    rw [← e1]; exact this
  | ol _ _ => simp [er] at e2
  | oo _ _ _ _ _ _ => simp [er] at e2
  | od _ _ _ => simp [er] at e2
theorem passN {X : Cx} {E : L2.St → XK} : ∀ σ, PassesAt CX0 X σ (E σ) := fun _ _ _ _ _ _ _ c => False.elim c
end VF
set_option maxRecDepth 100000
set_option maxHeartbeats 4000000
namespace VF
set_option autoImplicit false
open PySem PySem.Spec PyProof.Rows L2
open AT (cells cellsL er ers)
variable {K : PySem.W.Frag} {mg : Str → Option Value} {E : XS}
def WO (K : PySem.W.Frag) (mg : Str → Option Value) (pv : List (Nat × V)) (F : Hp) (held : List AT) (σ : L2.St) (Q : Option Int → Hp → Prop) (E : XS) : R (Option Int) → Prop
  | .st => False
  | .ok o e' => ∀ F' H' as', Same F F' → Cf K mg pv F' H' σ e' as' held → Q o H'
  | .ex x e' => WX K mg pv F held E x e'
def SO (K : PySem.W.Frag) (mg : Str → Option Value) (E : XS) (t : TO) (m : M (Option Int)) : Prop :=
  ∀ (pv : List (Nat × V)) (F H : Hp) (σ : L2.St) (e : VF.Env) (as : List (Option AT)) (held : List AT) (Q : Option Int → Hp → Prop), Cf K mg pv F H σ e as held → WO K mg pv F held σ Q E (m e) → t σ H Q
theorem WO.bindO {pv : List (Nat × V)} {F : Hp} {held : List AT} {σ : L2.St} {e : VF.Env} {α : Type} {f : Option Int → M α} {m : M (Option Int)} {W : R α → Prop} (hs : ¬ W .st) (h : W ((m e).bind f)) {P : Option Int → Hp → Prop}
    (hx : ∀ x e', W (.ex x e') → WX K mg pv F held E x e')
    (k : ∀ b e' F' H' as', Same F F' → Cf K mg pv F' H' σ e' as' held → W (f b e') → P b H') : WO K mg pv F held σ P E (m e) := by
  cases q : m e with
  | st => rw [q] at h; exact absurd h hs
  | ok r e' => rw [q] at h; exact fun F' H' as' s c => k r e' F' H' as' s c h
  | ex x e' => rw [q] at h; exact hx x e' h
def dNoPart : M (Option Int) := fun e => .ok none e
def dPart (a : M RV) : M (Option Int) := a.bind fun r e => match view e r with
  | some (.int i) => .ok (some i) e
  | _ => .st
theorem so_none : SO K mg E tNoPart dNoPart := fun pv F H σ e as held Q c w => w F H as (Same.refl _) c
theorem so_some {t : TE} {m : M RV} (h : SE K mg E t m) : SO K mg E (tPart t) (dPart m) := by
  intro pv F H σ e as held Q c w
  refine h pv F H σ e as held _ c (WE.bindE (W := WO K mg pv F held σ Q E) (fun z => z) w (fun _ _ z => z) fun r1 e1 v1 F1 H1 as1 tr1 s1 c1 rr1 w1 => ?_)
  cases q1 : view e1 r1 with
  | none => simp only [q1] at w1; exact w1.elim
  | some x =>
    cases x with
    | int i =>
      simp only [q1] at w1
      have p1 := c1.seen rr1 (fun t ht => List.mem_append_left _ ht) q1
      exact ⟨i, p1, w1 F1 H1 as1 s1 c1.drop⟩
    | _ => simp only [q1] at w1; exact w1.elim
def cutD (ds : List D) (lo hi : Option Int) : List D := (ds.drop (HT.sIx ds.length 0 lo)).take (HT.sIx ds.length ds.length hi - HT.sIx ds.length 0 lo)
theorem reps_cut {F : Hp} {vs : List V} {ds : List D} (h : Reps K mg F vs ds) (lo hi : Option Int) : Reps K mg F (cutV vs lo hi) (cutD ds lo hi) := by
  unfold cutV cutD
  rw [h.length]
  exact (h.drop _).take _
def dSl (a : M RV) (l h : M (Option Int)) : M RV := a.bind fun r e => match frzR r e with
  | some (.lst ds, e1) => (l e1).bind fun lo e2 => (h e2).bind fun hi e3 => .ok (.own (.ol ((cutD ds lo hi).map .fz))) e3
  | _ => .st
theorem se_slice {te : TE} {tl th : TO} {ma : M RV} {ml mh : M (Option Int)} (ha : SE K mg E te ma) (hl : SO K mg E tl ml) (hh : SO K mg E th mh) : SE K mg E (tSl (rSlL K) te tl th) (dSl ma ml mh) := by
  intro pv F H σ e as held Q c w
  refine ha pv F H σ e as held _ c (WE.bindE (W := WE K mg pv F held σ Q E) (fun z => z) w (fun _ _ z => z) fun r e1 v1 F1 H1 as1 tr1 s1 c1 rr1 w1 => ?_)
  cases q : frzR r e1 with
  | none => simp only [q] at w1; exact w1.elim
  | some pr =>
    obtain ⟨d, e2⟩ := pr
    cases d with
    | lst ds =>
      simp only [q] at w1
      obtain ⟨F2, as2, s2, c2, rv⟩ := c1.frzR rr1 q
      refine hl pv F2 H1 σ e2 as2 held _ c2 (WO.bindO (W := WE K mg pv F held σ Q E) (fun z => z) w1 (fun _ _ z => WX.mono (s1.trans s2) z) fun lo e3 F3 H3 as3 s3 c3 w3 => ?_)
      refine hh pv F3 H3 σ e3 as3 held _ c3 (WO.bindO (W := WE K mg pv F held σ Q E) (fun z => z) w3 (fun _ _ z => WX.mono ((s1.trans s2).trans s3) z) fun hi e4 F4 H4 as4 s4 c4 w4 => ?_)
      obtain ⟨a, vs, e, h1, h2⟩ := Rep.same (s3.trans s4) rv
      refine ⟨a, vs, e, SqL.of (c4.s _ _ h1), fun p hp => ?_⟩
      obtain ⟨t, e1, e2', c5⟩ := c4.newL (reps_cut h2 lo hi) hp
      exact w4 (.ref p) F4 _ as4 [t] (((s1.trans s2).trans s3).trans s4) c5 ⟨t, rfl, e1, e2'⟩
    | _ => simp only [q] at w1; exact w1.elim
section
variable {X : Cx} {a b c : Expr} {ma mb mc : M RV} {pos : Pos}
theorem v_slTo {p2 : Pos} (ha : VE X E a ma) (hb : VE X E b mb) : VE X E (.Subscript a (.Slice none (some b) none p2) pos) (dSl ma dNoPart (dPart mb)) := .mk (pe_slice sl_list ha po_none (po_some hb)) (se_slice se_w so_none (so_some se_w))
end
end VF
set_option maxRecDepth 100000
set_option maxHeartbeats 4000000
namespace VF
set_option autoImplicit false
open PySem PySem.Spec PyProof.Rows L2
open AT (cells cellsL er ers)
section
variable {K : PySem.W.Frag} {mg : Str → Option Value} {E : XS}
def dAddL (a b : M RV) : M RV := a.bind fun r e => match frzR r e with
  | some (.lst ds, e1) => (b e1).bind fun q e2 => (match frzR q e2 with
    | some (.lst es, e3) => if ds.length + es.length ≤ sizeLine then .ok (.own (.ol ((ds ++ es).map .fz))) e3 else .st
    | _ => .st)
  | _ => .st
theorem se_addL {ta tb : TE} {ma mb : M RV} (ha : SE K mg E ta ma) (hb : SE K mg E tb mb) : SE K mg E (tOp rCat ta tb) (dAddL ma mb) := by
  intro pv F H σ e as held Q c w
  refine ha pv F H σ e as held _ c (WE.bindE (W := WE K mg pv F held σ Q E) (fun z => z) w (fun _ _ z => z) fun r e1 v1 F1 H1 as1 tr1 s1 c1 rr1 w1 => ?_)
  cases q : frzR r e1 with
  | none => simp only [q] at w1; exact w1.elim
  | some pr =>
    obtain ⟨d, e2⟩ := pr
    cases d with
    | lst ds =>
      simp only [q] at w1
      obtain ⟨F2, as2, s2, c2, rv⟩ := c1.frzR rr1 q
      refine hb pv F2 H1 σ e2 as2 held _ c2 (WE.bindE (W := WE K mg pv F held σ Q E) (fun z => z) w1 (fun _ _ z => WX.mono (s1.trans s2) z) fun r3 e3 v3 F3 H3 as3 tr3 s3 c3 rr3 w3 => ?_)
      cases q3 : frzR r3 e3 with
      | none => simp only [q3] at w3; exact w3.elim
      | some pr3 =>
        obtain ⟨d3, e4⟩ := pr3
        cases d3 with
        | lst es =>
          simp only [q3] at w3
          obtain ⟨F4, as4, s4, c4, rv4⟩ := c3.frzR rr3 q3
          by_cases hz : ds.length + es.length ≤ sizeLine
          · rw [if_pos hz] at w3
            obtain ⟨a, vs, e, h1, h2⟩ := Rep.same (s3.trans s4) rv
            obtain ⟨b, us, e', k1, k2⟩ := rv4
            refine ⟨a, b, vs, us, e, e', c4.s _ _ h1, c4.s _ _ k1, by rw [h2.length, k2.length]; exact hz, fun p hp => ?_⟩
            obtain ⟨t, g1, g2, c5⟩ := c4.newL (h2.append k2) hp
            exact w3 (.ref p) F4 _ as4 [t] (((s1.trans s2).trans s3).trans s4) c5 ⟨t, rfl, g1, g2⟩
          · rw [if_neg hz] at w3; exact w3.elim
        | _ => simp only [q3] at w3; exact w3.elim
    | _ => simp only [q] at w1; exact w1.elim
end
section
variable {X : Cx} {E : XS} {a b : Expr} {ma mb : M RV} {pos : Pos} {mr : M (List RV)}
theorem v_addL (ha : VE X E a ma) (hb : VE X E b mb) : VE X E (.BinOp a .Add b pos) (dAddL ma mb) := .mk (pe_op op_cat ha hb) (se_addL se_w se_w)
end
end VF
set_option maxRecDepth 100000
set_option maxHeartbeats 4000000
namespace VF
set_option autoImplicit false
open PySem PySem.Spec PyProof.Rows L2
open NdefX (NF NScope CellsAt startF envF ncx inv_startN)
section
variable {X : Cx} {pins : List (Addr × Obj)} {σ : L2.St} {H : Hp} {s : Shared} {a C u : Addr} {A : Around} {E : Value → Shared → Prop}
end
structure IniK (P : Program) (K : PySem.W.Frag) (mg : Str → Option Value) (C fI cc cda : Addr) (F : NF) : Prop where
  T : OexC K C
  lk : ∃ oc od dV kV doc pm an ct osl, K.lookup fI = some ⟨oc, od, .func (PySem.W.fnX F.name F.qual F.params F.body F.scope [(("__class__" : Str), cc)] dV kV doc pm an (.ref cda) ct), osl⟩
  hcd : PySem.W.codeIn K (.ref cda) F.qual = true
  code : ∃ ccl cdd vs ccs file tf, K.lookup cda = some ⟨ccl, cdd, .fields vs, ccs⟩ ∧ vs[2]? = some (.str file tf) ∧ ((P.main.file : Str) == file) = true
  cell : ∃ cl cld csl, K.lookup cc = some ⟨cl, cld, .cell (some (.ref C)), csl⟩
  isC : ∃ cd, PySem.W.clsIn K C = some cd
  sub : PySem.W.mroIn K C (.ref C) = some true
  sup : mg "super" = none
  top : (P.main.scope.names.lookup ("super" : Str)).isSome = false
  opq : PySem.W.nsIn K cStatics "thirdparty.any" = some none
  mro : PySem.W.ks_superIn K C C "__init__" = some (some (.builtin "ValueError.__init__"))
  subV : PySem.W.subIn K (.ref C) (.type "ValueError") = some true
  iC : PySem.W.findIn K (.ref C) "__init__" = some (some (.ref fI))
  tI : PySem.W.typeIn K (.ref fI) = some (.type "function")
  cl : F.cl = [(("__class__" : Str), cc)]
  c : F.c = cda
section
variable {X : Cx} {pins : List (Addr × Obj)} {σ : L2.St} {H : Hp} {s : Shared} {a C fI cc cda : Addr} {F : NF} {D : Ends} {e : Expr} {te : TE} {p0 p1 p2 pos pos' : Pos} {body : List Stmt} {ar : Arg}
end
section
variable {CX : CXT} {P : Program} {w : World} {K : PySem.W.Frag} {mg : Str → Option Value} {base : Heap} {N ps : List Str} {F : NF} {k : Nat} {sp : Sp} {C fI cc cda : Addr} {fd : FuncData} {e : Expr} {rest : List Stmt} {p0 p1 p2 pos pos' : Pos} {ar : Arg}
end
def okV (v : V) : Prop := v = .non ∨ (∃ i : Int, v = .int i ∧ i.natAbs.log2 < 1920) ∨ ∃ y : Str, v = .str y ∧ y.length ≤ 4000
def tPt (js : List Nat) : TE := fun σ H Q => (∀ j ∈ js, ∃ v, σ[j]? = some (some v) ∧ okV v) ∧ ∀ y : Str, y.length ≤ 4000 → Q (.str y) H
section
variable {X : Cx} {js : List Nat} {j : Nat} {x m : Str} {p pos : Pos} {kd : Nat}
inductive Pts (X : Cx) (js : List Nat) : List Expr → Prop
  | nil : Pts X js []
  | cons {e : Expr} {es : List Expr} (h : PE X e (tPt js)) (r : Pts X js es) : Pts X js (e :: es)
end
def spI1 (C : Addr) (f : Str) : Sp := fun vs H Q _ => ∃ (a : Addr) (y : V), vs = [.ref a, y] ∧ H a = some (exo a C none) ∧ okV y ∧ ∀ dx, H dx = none → dx ≠ a → Q .non (upd (upd H dx (exd dx [(f, y)])) a (exo a C (some dx)))
def spI2 (C : Addr) (f g : Str) : Sp := fun vs H Q _ => ∃ (a : Addr) (y z : V), vs = [.ref a, y, z] ∧ H a = some (exo a C none) ∧ okV y ∧ okV z ∧ ∀ dx, H dx = none → dx ≠ a → Q .non (upd (upd (upd H dx (exd dx [(f, y)])) a (exo a C (some dx))) dx (exd dx [(g, z), (f, y)]))
section
variable {CX : CXT} {P : Program} {w : World} {K : PySem.W.Frag} {mg : Str → Option Value} {base : Heap} {F : NF} {k : Nat} {C fI cc cda : Addr} {fd : FuncData} {e v1 v2 : Expr} {es : List Expr} {f g : Str} {p0 p1 p2 pos pos' q0 q1 q2 q3 r0 r1 r2 r3 jp : Pos} {ar : Arg}
end
end VF
set_option maxRecDepth 100000
set_option maxHeartbeats 4000000
namespace VF
set_option autoImplicit false
open PySem PySem.Spec PyProof.Rows L2
open AT (cells cellsL er ers)
section
variable {X : Cx} {K : PySem.W.Frag} {mg : Str → Option Value}
end
section
variable {X : Cx} {E : XS} {a b : Expr} {ma mb : M RV} {pos : Pos}
end
section
variable {X : Cx} {E : XS} {pos : Pos}
structure OwnX (K : PySem.W.Frag) (mg : Str → Option Value) (x : Str) (C : Addr) : Prop where
  g : mg x = some (.ref C)
  e : PySem.W.excIn K C He.veBase "ValueError.__new__" = true
  k : PySem.W.keepIn K (.ref C) = true
  s : PySem.W.subIn K (.ref C) (.type "BaseException") = some true
  t : PySem.W.typeIn K (.ref C) = some (.type "type")
def hIs (t : List (Str × Bool)) : Str → Option D := fun c => (t.lookup c).map D.bl
inductive TryT (K : PySem.W.Frag) (mg : Str → Option Value) (Cc : Value) : List (Str × Bool) → Prop
  | nil : TryT K mg Cc []
  | cons {x : Str} {b : Bool} {C : Addr} {t : List (Str × Bool)} (g : mg x = some (.ref C)) (e : ExcC K C) (k : PySem.W.kitOne K (.ref C) Cc = some b) (r : TryT K mg Cc t) : TryT K mg Cc ((x, b) :: t)
theorem TryT.at {K : PySem.W.Frag} {mg : Str → Option Value} {Cc : Value} {t : List (Str × Bool)} (T : TryT K mg Cc t) {x : Str} {v : D} {C : Addr} (h : hIs t x = some v) (g : mg x = some (.ref C)) :
    ExcC K C ∧ ∃ b, v = .bl b ∧ PySem.W.kitOne K (.ref C) Cc = some b := by
  induction T with
  | nil => cases h
  | @cons x' b C' t g' e k r ih =>
    unfold hIs at h ih
    rw [List.lookup_cons] at h
    by_cases q : (x == x') = true
    · rw [q] at h
      have q' : x = x' := eq_of_beq q
      subst q'
      have e2 : C' = C := by rw [g] at g'; cases g'; rfl
      subst e2
      cases h
      exact ⟨e, b, rfl, k⟩
    · rw [Bool.eq_false_iff.mpr q] at h
      exact ih h
end
def spI (C : Addr) : List Str → Sp
  | [f] => spI1 C f
  | [f, g] => spI2 C f g
  | _ => fun _ _ _ _ => False
structure ErrF (P : Program) (w : World) (K : PySem.W.Frag) (mg : Str → Option Value) (base : Heap) (x : Str) (C : Addr) (fs : List Str) : Prop where
  g : mg x = some (.ref C)
  T : OexC K C
  ini : ∃ fI fd, PySem.W.findIn K (.ref C) "__init__" = some (some (.ref fI)) ∧ PySem.W.typeIn K (.ref fI) = some (.type "function") ∧ Binds K fd (("self" : Str) :: fs) [] ∧ FnOk P w K mg base CX0 1 fI fd (("self" : Str) :: fs) (spI C fs)
section
variable {X : Cx} {E : XS} {pos : Pos}
end
theorem rd_x {F F' : Hp} (s : ∀ p o, F p = some o → (∀ fs, o ≠ .xd fs) → F' p = some o) {K : PySem.W.Frag} {a : Addr} {vs : List V} (h : SqT K F a vs) : SqT K F' a vs := by
  rcases h with h | h
  · rcases h with h | ⟨o, h⟩
    · exact .inl (.inl (s _ _ h fun _ z => nomatch z))
    · exact .inl (.inr ⟨o, s _ _ h fun _ z => nomatch z⟩)
  · exact .inr h
theorem rdl_x {F F' : Hp} (s : ∀ p o, F p = some o → (∀ fs, o ≠ .xd fs) → F' p = some o) {K : PySem.W.Frag} {a : Addr} {vs : List V} (h : SqL K F a vs) : SqL K F' a vs := by
  rcases h with h | h
  · rcases h with h | ⟨o, h⟩
    · exact .inl (.inl (s _ _ h fun _ z => nomatch z))
    · exact .inl (.inr ⟨o, s _ _ h fun _ z => nomatch z⟩)
  · exact .inr h
section
variable {K : PySem.W.Frag} {mg : Str → Option Value} {F F' H H' : Hp} {σ : L2.St} {pv : List (Nat × V)} {e : Env} {as : List (Option AT)} {held : List AT}
mutual
theorem rep_x (s : ∀ p o, F p = some o → (∀ fs, o ≠ .xd fs) → F' p = some o) : ∀ {d : D} {v : V}, Rep K mg F v d → Rep K mg F' v d
  | .non, _, h => h
  | .bl _, _, h => h
  | .int _, _, h => h
  | .str _, _, h => h
  | .ty _, _, h => h
  | .lst ds, _, ⟨p, vs, e, h1, h2⟩ => ⟨p, vs, e, s _ _ h1 (fun _ z => nomatch z), reps_x s h2⟩
  | .tup ds, _, ⟨p, vs, e, h1, h2⟩ => ⟨p, vs, e, rd_x s h1, reps_x s h2⟩
  | .dct ks ds, _, ⟨p, vs, e, h1, h3, h2⟩ => ⟨p, vs, e, s _ _ h1 (fun _ z => nomatch z), h3, reps_x s h2⟩
  | .obj c ns ds, _, ⟨p, C, dx, vs, e, h0, h1, h3, h2⟩ => ⟨p, C, dx, vs, e, h0, s _ _ h1 (fun _ z => nomatch z), h3, reps_x s h2⟩
  | .scr ns, _, ⟨p, e, h1⟩ => ⟨p, e, rdl_x s h1⟩
  | .hl, _, h => h
theorem reps_x (s : ∀ p o, F p = some o → (∀ fs, o ≠ .xd fs) → F' p = some o) : ∀ {ds : List D} {vs : List V}, Reps K mg F vs ds → Reps K mg F' vs ds
  | [], [], _ => trivial
  | _ :: _, _ :: _, ⟨h1, h2⟩ => ⟨rep_x s h1, reps_x s h2⟩
  | [], _ :: _, h => h.elim
  | _ :: _, [], h => h.elim
end
mutual
theorem ok_x (s : ∀ p o, F p = some o → (∀ fs, o ≠ .xd fs) → F' p = some o) : ∀ {t : AT}, Ok K mg F t → Ok K mg F' t
  | .fz _ _, h => rep_x s h
  | .ol _ xs, h => oks_x s h
  | .oo _ _ _ _ _ xs, ⟨h1, h2, h3⟩ => ⟨h1, h2, oks_x s h3⟩
  | .od _ _ xs, ⟨h2, h3⟩ => ⟨h2, oks_x s h3⟩
theorem oks_x (s : ∀ p o, F p = some o → (∀ fs, o ≠ .xd fs) → F' p = some o) : ∀ {ts : List AT}, Oks K mg F ts → Oks K mg F' ts
  | [], _ => trivial
  | _ :: _, ⟨h1, h2⟩ => ⟨ok_x s h1, oks_x s h2⟩
end
end
structure InSu (X : Cx) (a : Addr) (x : Exc) (C : Addr) : Prop where
  g : X.mg x.c = some (.ref C)
  ex : ∃ (oe : Obj) (od : Option Obj), (∀ pins σ H s, Inv X pins σ H s → PySem.W.InstAt s.heap a oe C od) ∧ ∀ f d, (x.ns.zip x.ds).lookup f = some d → ∃ (o : Obj) (u : Value) (v : V), od = some o ∧ imm d = some v ∧ RelV v u ∧ PySem.W.lookIn f o = some (some u)
def tAt (i : Nat) (a : Addr) (v : V) : TE := fun σ H Q => σ[i]? = some (some (.ref a)) ∧ Q v H
def SuE (X : Cx) (i : Nat) (e : Expr) (g : Exc → Option D) : Prop := ∀ (a : Addr) (x : Exc) (C : Addr) (pn : List (Addr × Obj)) (d : D), InSu (X.suite a pn) a x C → g x = some d → ∃ v, imm d = some v ∧ PE (X.suite a pn) e (tAt i a v)
def tRes (s : SV) (W : Ends) (H : Hp) : Prop := match s with
  | .fz (.tup ds) => ∃ vs, ds.mapM imm = some vs ∧ vs.length ≤ 1000 ∧ ∀ p, H p = none → W.rt (.ref p) (upd H p (.tup vs))
  | .fz d => ∃ v, imm d = some v ∧ W.rt v H
  | .ol [.fz d] => ∃ v, imm d = some v ∧ ∀ p, H p = none → W.rt (.ref p) (upd H p (.lst [v]))
  | _ => False
def tSuR (i : Nat) (a : Addr) (s : SV) : TS := fun W σ H => σ[i]? = some (some (.ref a)) ∧ tRes s W H
def SuB (X : Cx) (i : Nat) (ss : List Stmt) (h : Exc → Option SV) : Prop := ∀ (a : Addr) (x : Exc) (C : Addr) (pn : List (Addr × Obj)) (s : SV), InSu (X.suite a pn) a x C → h x = some s → PSs (X.suite a pn) ss (tSuR i a s)
def gSub (g h : Exc → Option D) : Exc → Option D := fun x => match g x, h x with
  | some (.int m), some (.int n) => some (.int (m - n))
  | _, _ => none
def gNil : Exc → Option (List D) := fun _ => some []
def gCons (g : Exc → Option D) (h : Exc → Option (List D)) : Exc → Option (List D) := fun x => match g x, h x with
  | some d, some ds => some (d :: ds)
  | _, _ => none
section
variable {X : Cx} {i : Nat} {pos p p1 p2 p3 : Pos} {n y f : Str} {e a b : Expr} {rest : List Expr}
inductive FldT (K : PySem.W.Frag) (mg : Str → Option Value) (f : Str) : List Str → Prop
  | nil : FldT K mg f []
  | cons {y : Str} {C : Addr} {t : List Str} (g : mg y = some (.ref C)) (xf : XfC K C) (no : PySem.W.findIn K (.ref C) f = some none) (r : FldT K mg f t) : FldT K mg f (y :: t)
theorem FldT.at {K : PySem.W.Frag} {mg : Str → Option Value} {t : List Str} (T : FldT K mg f t) {y : Str} {C : Addr} (h : y ∈ t) (g : mg y = some (.ref C)) : XfC K C ∧ PySem.W.findIn K (.ref C) f = some none := by
  induction T with
  | nil => cases h
  | @cons y' C' t g' xf no r ih =>
    rcases List.mem_cons.mp h with q | q
    · subst q
      rw [g] at g'
      cases g'
      exact ⟨xf, no⟩
    · exact ih q
inductive SuA (X : Cx) (i : Nat) : List Expr → (Exc → Option (List D)) → Prop
  | nil : SuA X i [] gNil
  | cons {e : Expr} {es : List Expr} {g : Exc → Option D} {h : Exc → Option (List D)} (he : SuE X i e g) (hs : ∀ env, starEach (e :: es) env = (false, eval e env) :: starEach es env) (r : SuA X i es h) : SuA X i (e :: es) (gCons g h)
end
section
variable {X : Cx} {pins : List (Addr × Obj)} {σ : L2.St} {H : Hp} {s : Shared}
end
section
variable {X : Cx} {E : XS}
end
end VF
set_option maxRecDepth 100000
set_option maxHeartbeats 4000000
namespace VF
set_option autoImplicit false
open PySem PySem.Spec PyProof.Rows L2
open AT (cells cellsL er ers)
def shownOk (p : PyData) : Bool := p.showable && (!p.hasDict && (decide (p.depth ≤ 60) && decide (p.shown.length ≤ sizeLine)))
def reprD : List D → Option D
  | [d] => (match toP d with
    | some p => if shownOk p = true then some (.str p.shown) else none
    | none => none)
  | _ => none
section
variable {X : Cx}
def rRepr (K : PySem.W.Frag) : List V → Hp → VK → Prop := fun xs H Q => ∃ v p, xs = [v] ∧ Dp K H v p ∧ shownOk p = true ∧ Q (.str p.shown) H
theorem call_reprD (hg : X.A.guards = some []) (hu : X.A.units + 64 < cLine) : CallR X (.builtin "repr") (rRepr X.K) := by
  intro pins s σ H xs us Q I r h
  obtain ⟨v, p, rfl, dp, ok, q⟩ := h
  obtain ⟨u, rfl, ru⟩ := vals1 r
  unfold shownOk at ok
  obtain ⟨h1, ok⟩ := Bool.and_eq_true_iff.mp ok
  obtain ⟨h2, ok⟩ := Bool.and_eq_true_iff.mp ok
  obtain ⟨h3, h4⟩ := Bool.and_eq_true_iff.mp ok
  have h2' : p.hasDict = false := by simpa using h2
  have h3' : p.depth ≤ 60 := of_decide_eq_true h3
  have h4' : p.shown.length ≤ sizeLine := of_decide_eq_true h4
  obtain ⟨as, rd⟩ := Dp.reads I p v u dp ru
  have big : ∀ a, u = .ref a → wpAny (model X.prog X.w) X.A (call (.builtin "repr") [u]) (EP X pins σ Q) X.xe s := fun a e => by
    subst e
    exact repr_of_reads' rd h1 (PyData.noDict_hsm h2') hg (by omega) (fun _ _ z => z) (fun h' u tk k => ⟨.str p.shown, H, I.kept (t' := tk) k, ⟨_, rfl⟩, q⟩) h4'
  cases dp with
  | non => cases ru; exact PySem.P.repr_of_none ⟨.str _, H, I.tok _, ⟨_, rfl⟩, q⟩
  | bl b => cases ru; exact PySem.P.repr_of_bool ⟨.str _, H, I.tok _, ⟨_, rfl⟩, q⟩
  | int i =>
    obtain ⟨t, rfl⟩ := ru
    exact PySem.P.repr_of_int (of_decide_eq_true h1) ⟨.str _, H, I.tok _, ⟨_, rfl⟩, q⟩
  | str x =>
    obtain ⟨t, rfl⟩ := ru
    exact PySem.P.repr_of_str ⟨.str _, H, I.tok _, ⟨_, rfl⟩, q⟩ h4'
  | lst _ _ => exact big _ ru
  | tup _ _ => exact big _ ru
end
section
variable {K : PySem.W.Frag} {mg : Str → Option Value}
theorem cbd_repr : CbD (rRepr K) K mg reprD := by
  intro H xs as d r q
  unfold reprD at q
  split at q
  · rename_i d0
    cases z : toP d0 with
    | none => rw [z] at q; cases q
    | some p =>
      rw [z] at q
      simp only at q
      by_cases ok : shownOk p = true
      · rw [if_pos ok] at q
        cases q
        cases xs with
        | nil => exact r.elim
        | cons x xs =>
          cases xs with
          | nil => exact ⟨.str p.shown, rfl, fun Q k => ⟨x, p, rfl, dp_of d0 r.1 z, ok, k⟩⟩
          | cons _ _ => exact r.2.elim
      · rw [if_neg ok] at q; cases q
  · cases q
end
section
variable {X : Cx} {E : XS} {a : Expr} {pos : Pos}
theorem v_repr {p : Pos} {es : List Expr} {mr : M (List RV)} (hgd : X.A.guards = some []) (hu : X.A.units + 64 < cLine) (hg : Gl X "repr") (hm : X.mg "repr" = none) (ha : VA X E (a :: es) mr) (he : starEach (a :: es) X.env = (false, eval a X.env) :: starEach es X.env := by rfl) (hpl : (backTo pos (starEach es X.env)).any (·.1) = false := by rfl) :
    VE X E (.Call (.Name "repr" p) (a :: es) [] pos) (dCB reprD mr) := .mk (pe_callB (call_reprD hgd hu) hg hm (by decide +kernel) ha (by decide) (by decide) he hpl) (se_cb cbd_repr sa_w)
end
def fEqS : D → D → Option D := fun a b => match a, b with
  | .str x, .str y => some (.bl (decide (x = y)))
  | _, _ => none
section
variable {X : Cx} {K : PySem.W.Frag} {mg : Str → Option Value}
theorem op_eqTx : OpR X (compareOp .Eq) (fun x y H Q => ∃ a b : Str, x = .str a ∧ y = .str b ∧ Q (.bl (decide (a = b))) H) := by
  intro pins s σ H x y v u Q I rx ry h
  obtain ⟨a, b, rfl, rfl, q⟩ := h
  obtain ⟨t, rfl⟩ := rx
  obtain ⟨t', rfl⟩ := ry
  refine PySem.P.eq_str (fin_bl I q ?_)
  by_cases c : a = b
  · subst c
    rw [decide_eq_true rfl, beq_self_eq_true]
  · have n : ¬ a.cps.toList = b.cps.toList := fun e => c (by
      cases a; cases b
      congr 1
      exact Array.toList_inj.mp e)
    rw [decide_eq_false c, beq_eq_false_iff_ne.mpr n]
theorem opd_eqS : OpD (fun x y H Q => ∃ a b : Str, x = .str a ∧ y = .str b ∧ Q (.bl (decide (a = b))) H) K mg fEqS := by
  intro H x y a b d ra rb q
  cases a <;> first | (cases b <;> cases q; done) | skip
  cases b <;> first | (cases q; done) | skip
  rename_i i j
  cases q
  exact ⟨.bl (decide (i = j)), rfl, fun Q k => ⟨i, j, ra, rb, k⟩⟩
end
section
variable {X : Cx} {E : XS} {a b : Expr} {ma mb : M RV} {pos : Pos}
theorem v_eqS (ha : VE X E a ma) (hb : VE X E b mb) : VE X E (.Compare a [.Eq] [b] pos) (dOp fEqS ma mb) := .mk (pe_cmpR op_eqTx ha hb (nomark _)) (se_op opd_eqS se_w se_w)
end
structure FnOkG (P : Program) (w : World) (K : PySem.W.Frag) (mg : Str → Option Value) (base : Heap) (k : Nat) (f : Addr) (fd : FuncData) (ps : List Str) (sp : Sp) : Prop where
  len : ∀ vs H Q, sp vs H Q L2.E0 → vs.length = ps.length
  run : ∀ (A : Around) (outer : List PySem.Env) (s : Shared) (H : Hp) (args : Args) (us : List Value) (vs : List V) (Q : VK), Room k A → A.guards = some [] → Env0 P w K mg base A outer s H → BindsTo s fd args (ps.zip us) → Vals vs us → sp vs H Q L2.E0 →
    codeAny (model P w) A (.call (.ref f) args) (CR CX0 outer P w H s Q L2.E0) s
theorem FnOkG.mono {P : Program} {w : World} {K : PySem.W.Frag} {mg : Str → Option Value} {base : Heap} {j k : Nat} {f : Addr} {fd : FuncData} {ps : List Str} {sp : Sp} (F : FnOkG P w K mg base j f fd ps sp) (h : j ≤ k) : FnOkG P w K mg base k f fd ps sp :=
  ⟨F.len, fun A outer s H args us vs Q hr => F.run A outer s H args us vs Q (hr.mono h)⟩
section
variable {X : Cx} {k : Nat} {f : Addr} {fd : FuncData} {ps : List Str} {sp : Sp} {x : Str} {p pos : Pos} {e : Expr} {es : List Expr} {t : TA}
theorem pe_callG (F : FnOkG X.prog X.w X.K X.mg X.base k f fd ps sp) (hr : Room k X.A) (hgd : X.A.guards = some []) (hg : Gl X x) (hm : X.mg x = some (.ref f)) (hk : PySem.W.keepIn X.K (.ref f) = true) (hb : Binds X.K fd ps [])
    (ha : PA X (e :: es) t) (hdb : (x == ("__debug__" : Str)) = false := by decide) (he : starEach (e :: es) X.env = (false, eval e X.env) :: starEach es X.env := by rfl) (hpl : (backTo pos (starEach es X.env)).any (·.1) = false := by rfl) :
    PE X (.Call (.Name x p) (e :: es) [] pos) (tCallS sp (fun σ cls d H => E0 cls d σ H) t) := by
  refine ⟨fun pins s σ H Q I h => wpAny_Call_Name_kw (ld_glob I hg hm ?_ hdb)⟩
  refine PySem.W.callWith_K (h₀ := X.base) I.ok.mod.kin hk (thn (ha.run pos pins s σ H _ I h) fun us s1 hh => ?_) he hpl
  obtain ⟨vs, H1, I1, rv, q⟩ := hh
  have q' : sp vs H1 Q L2.E0 := q
  refine ⟨I1.kIn, ?_⟩
  have hl : us.length = ps.length := by rw [← rv.length]; exact F.len _ _ _ q'
  have b := hb s1 us I1.kIn (by rw [List.append_nil]; exact hl)
  rw [List.append_nil] at b
  refine wpAny_call (codeAny_mono (F.run X.A X.stack s1 H1 ⟨us, []⟩ us vs Q hr hgd I1.env0 b rv q') fun r s' hq => ?_)
  cases r with
  | error _ => exact False.elim hq
  | ok fl =>
    cases fl with
    | ret u => exact I1.after hq
    | next => exact False.elim hq
    | brk => exact False.elim hq
    | cont => exact False.elim hq
end
section
variable {X : Cx} {a : Expr} {pos : Pos} {es : List Expr} {mr : M (List RV)}
theorem v_callBG {k n : Nat} {f : Addr} {fd : FuncData} {ps : List Str} {x : Str} {p : Pos} {φ : Fn} (F : FnOkG X.prog X.w X.K X.mg X.base k f fd ps (spF X.K X.mg n φ)) (hr : Room k X.A) (hgd : X.A.guards = some []) (hg : Gl X x) (hm : X.mg x = some (.ref f)) (hk : PySem.W.keepIn X.K (.ref f) = true) (hb : Binds X.K fd ps [])
    (ha : VA X E0 (a :: es) mr) (hdb : (x == ("__debug__" : Str)) = false := by decide) (he : starEach (a :: es) X.env = (false, eval a X.env) :: starEach es X.env := by rfl) (hpl : (backTo pos (starEach es X.env)).any (·.1) = false := by rfl) :
    VE X E0 (.Call (.Name x p) (a :: es) [] pos) (dCallB n φ mr) := .mk (pe_callG F hr hgd hg hm hk hb ha hdb he hpl) (se_callB sa_w)
end
end VF
set_option maxRecDepth 100000
set_option maxHeartbeats 4000000
namespace VF
set_option autoImplicit false
open PySem PySem.Spec PyProof.Rows L2
open AT (cells cellsL er ers)
theorem fn_okG {P : Program} {w : World} {K : PySem.W.Frag} {mg : Str → Option Value} {base : Heap} {x qual : Str} {params : Arguments} {body : List Stmt} {scope : Scope} {dvs : List V} {kws : List (Str × V)} {f : Addr} {fd : FuncData} {N ps : List Str} {k : Nat}
    (F : FunD K x qual params body scope dvs kws f fd) (S : FnScope N ps scope) (md : List Bool) (hl : md.length = ps.length) {m : M Fl} {n : Nat} (hN : N.length = n)
    (hb : ∀ (cdv : Value) (A : Around) (outer : List PySem.Env) (s : Shared) (H : Hp) (E : XK), Room k (A.deeper (envOfC qual scope s.heap.objs.size f cdv)) → A.guards = some [] → VB (cxOf CX0 P w K mg base N qual scope f cdv A outer s H E).nox E0 body m) :
    FnOkG P w K mg base (k + 1) f fd ps (spF K mg md.length (mkFn0 md n m)) := by
  subst hN
  obtain ⟨oc, od, dV, kV, doc, pm, an, cdv, ct, osl, rfl, lk, hcd, _, _⟩ := F.ex
  have hlen : ∀ vs H Q, spF K mg md.length (mkFn0 md N.length m) vs H Q L2.E0 → vs.length = ps.length := fun vs H Q h => by
    obtain ⟨_, ts, _, rfl, lt, _⟩ := h
    rw [← hl, ← lt]; exact List.length_map _
  refine ⟨hlen, fun A outer s H args us vs Q hr hgd e0 hbd rv h => ?_⟩
  have old : ∀ b o, base.get? b = some o → s.heap.get? b = some o := fun b o e => (e0.bs b o e).1
  have KX : K.In s.heap := e0.mod.kin.keeps old
  have kinds : ∀ y ∈ ps.zip us, scope.names.lookup y.1 = some .local ∨ (scope.names.lookup y.1 = some .cell ∧ ((cellsFrom (s.heap.objs.size + 1) scope.names []).lookup y.1).isSome = true) := fun ⟨y, z⟩ hy =>
    (S.par y (List.of_mem_zip hy).1).imp id fun q => ⟨q, PySem.W.cellsFrom_some _ _ _ (.inl q)⟩
  have h' : spF K mg md.length (mkFn md N.length m) vs H Q L2.E0 := by
    obtain ⟨F1, ts, held, e1, lt, s1, g, w1⟩ := h
    refine ⟨F1, ts, held, e1, lt, s1, g, ?_⟩
    unfold mkFn0 at w1
    cases q : mkFn md N.length m (ers ts) with
    | st => rw [q] at w1; exact w1
    | ok r as => rw [q] at w1; exact w1
    | ex x as => rw [q] at w1; exact w1.elim
  refine codeAny_call_function hr.depth (KX _ _ lk) rfl S.co S.gen rfl (PySem.W.codeRec_of KX hcd) (hbd _ _ _ _ ?_)
  refine wpAny_newFunctionEnv_cells S.kind kinds fun env he s1 y => ?_
  subst he
  refine ⟨(e0.mod.nolimit.keeps old).keeps y.toInCall.keep, codeAny_func ?_⟩
  have B := (hb cdv A outer s H L2.E0 (hr.deeper _) hgd).nox
  have I : Inv (cxOf CX0 P w K mg base N qual scope f cdv A outer s H L2.E0) [] (start N vs) H s1 := inv_start S hr.hd e0 (hlen _ _ _ h) rv y
  refine wpAny_mono (B.run [] s1 (start N vs) H _ I (body_ok (Ef := L2.E0) ss_w h')) (fun fl s' hs => ?_) fun _ _ hs => hs
  have fin : ∀ {σ' : L2.St} {H' : Hp} {v : V} {u : Value}, Inv (cxOf CX0 P w K mg base N qual scope f cdv A outer s H L2.E0) [] σ' H' s' → RelV v u → Q v H' → CE outer P w H s Q u s' :=
    fun {σ' H' v u} J r q => ⟨v, H', J.os, J.bare, J.base, J.hok, r, q⟩
  cases fl with
  | ret u => obtain ⟨v, σ', H', J, r, q⟩ := hs; exact fin J r q
  | next => obtain ⟨σ', H', J, q⟩ := hs; exact fin (v := .non) (u := .none) J rfl q
  | brk => obtain ⟨_, _, _, q⟩ := hs; exact q.elim
  | cont => obtain ⟨_, _, _, q⟩ := hs; exact q.elim
theorem law_coreG {P : Program} {w : World} {K : PySem.W.Frag} {mg mb : Str → Option Value} {k : Nat} {fa a : Addr} {fd : FuncData} {x : Str} {sp : Sp} {s : Shared} {vs : List Value} {H : Hp}
    (KX : K.In s.heap) (hns : s.heap.Ns mainGlobals mg) (hb : s.heap.Ns builtinsNs mb) (hbb : ∀ x : Str, x ≠ "__name__" → mb x = bootBuiltins x) (hlim : s.heap.NoLimit) (hg : s.gens = #[])
    (ha : s.heap.get? a = some { cls := .type "list", data := .seq vs.toArray }) (hr : Room k callerA)
    (F : ∀ base : Heap, K.In base → base.Ns mainGlobals mg → FnOkG P w K mg base k fa fd [x] sp) (hbind : BindsTo s fd ⟨[.ref a], []⟩ [(x, .ref a)])
    (hO : Only H) (hok : HOk P w H s.heap) (hA : ∀ b, H b ≠ none → b = a) (hK : H a ≠ none → K.lookup a = none) (hsp : sp [.ref a] H (fun v _ => v = .bl true) L2.E0) :
    codeAny (model P w) callerA (.call (.ref fa) ⟨[.ref a], []⟩) (fun r s' => r = .ok (.ret (.bool true)) ∧ OldK s.heap s'.heap ∧ s'.os = s.os ∧ AllBare s'.gens) s := by
  have off : ∀ {b : Addr} {o : Obj}, s.heap.get? b = some o → (∀ es, o.data ≠ .seq vs.toArray es) → H b = none := fun {b o} e n => by
    cases q : H b with
    | none => rfl
    | some u =>
      have eb := hA b (by rw [q]; exact Option.some_ne_none _)
      subst eb
      rw [ha] at e
      cases e
      exact absurd rfl (n _)
  have stays : ∀ {b : Addr} {m : Str → Option Value}, s.heap.Ns b m → (hidT s.heap H).Ns b m := fun {b m} ⟨o, es, ep, e, d, r⟩ => ⟨o, es, ep, hidT_get e (off e fun n z => by rw [d] at z; cases z), d, r⟩
  have kin : K.In (hidT s.heap H) := fun b o e => hidT_get (KX b o e) (by
    cases q : H b with
    | none => rfl
    | some u =>
      have eb := hA b (by rw [q]; exact Option.some_ne_none _)
      subst eb
      rw [hK (by rw [q]; exact Option.some_ne_none _)] at e
      cases e)
  have lim : (hidT s.heap H).NoLimit := by
    obtain ⟨mc, h1, h2⟩ := hlim
    exact ⟨mc, stays h1, h2⟩
  have e0 : Env0 P w K mg (hidT s.heap H) callerA [] s H := ⟨rfl, ⟨kin, stays hns, ⟨mb, stays hb, hbb⟩, lim⟩, fun b o e => of_hidT e, Nat.le_of_eq (hidT_size _ _), trivial, fun b h => absurd h List.not_mem_nil, hok, .of_eq hg⟩
  refine codeAny_mono ((F _ kin (stays hns)).run callerA [] s H ⟨[.ref a], []⟩ [.ref a] [.ref a] _ hr rfl e0 hbind (.cons rfl .nil) hsp) fun r s' h => ?_
  cases r with
  | error e => exact False.elim h
  | ok fl =>
    cases fl with
    | next => exact False.elim h
    | brk => exact False.elim h
    | cont => exact False.elim h
    | ret u =>
      obtain ⟨v, H', os, bare, un, hok', rv, q⟩ := h
      have q' : v = .bl true := q
      subst q'
      cases rv
      refine ⟨rfl, OldK.of_keep fun b o e => ?_, os, bare⟩
      cases z : H b with
      | none => exact un.keep b o e z (fun z => absurd z List.not_mem_nil) List.not_mem_nil
      | some u =>
        rcases hO b with z1 | ⟨ob, xs, z1⟩
        · rw [z] at z1; cases z1
        · obtain ⟨e1, _⟩ := hok b _ z1
          obtain ⟨e2, _⟩ := hok' b _ (un.frzs b ob _ z1)
          rw [e] at e1
          cases e1
          exact e2
theorem law_callG {P : Program} {w : World} {K : PySem.W.Frag} {mg mb : Str → Option Value} {k : Nat} {fa a : Addr} {fd : FuncData} {x : Str} {sp : Sp} {s : Shared} {vs : List Value} {ns : List Int}
    (KX : K.In s.heap) (hns : s.heap.Ns mainGlobals mg) (hb : s.heap.Ns builtinsNs mb) (hbb : ∀ x : Str, x ≠ "__name__" → mb x = bootBuiltins x) (hlim : s.heap.NoLimit) (hg : s.gens = #[])
    (ha : s.heap.get? a = some { cls := .type "list", data := .seq vs.toArray }) (hi : IntsAre vs ns) (hz : ns.length ≤ sizeLine) (hr : Room k callerA)
    (F : ∀ base : Heap, K.In base → base.Ns mainGlobals mg → FnOkG P w K mg base k fa fd [x] sp) (hbind : BindsTo s fd ⟨[.ref a], []⟩ [(x, .ref a)])
    (hsp : ∀ H : Hp, Only H → SqL K H a (ns.map V.int) → sp [.ref a] H (fun v _ => v = .bl true) L2.E0) :
    codeAny (model P w) callerA (.call (.ref fa) ⟨[.ref a], []⟩) (fun r s' => r = .ok (.ret (.bool true)) ∧ OldK s.heap s'.heap ∧ s'.os = s.os ∧ AllBare s'.gens) s := by
  have rv := vals_ints hi
  have core := fun (H : Hp) hO hok hA hK hS => law_coreG (sp := sp) (H := H) KX hns hb hbb hlim hg ha hr F hbind hO hok hA hK (hsp H hO hS)
  cases hk : K.lookup a with
  | some o =>
    have e := KX a o hk
    rw [ha] at e
    cases e
    exact core (fun _ => none) (fun _ => .inl rfl) (fun b u z => nomatch (show (none : Option HO) = some u from z)) (fun b z => absurd rfl z) (fun z => absurd rfl z)
      (.inr ⟨_, vs.toArray, _, hk, rfl, rfl, rfl, by rw [List.size_toArray, hi.length]; exact hz, by simpa using rv⟩)
  | none =>
    refine core (fun b => if b = a then some (.frz { cls := .type "list", data := .seq vs.toArray } (.lst (ns.map V.int))) else none) (fun b => ?_) (fun b u z => ?_) (fun b z => ?_) (fun _ => hk) (.inl (.inr ⟨{ cls := .type "list", data := .seq vs.toArray }, if_pos rfl⟩))
    · by_cases c : b = a
      · exact .inr ⟨_, _, if_pos c⟩
      · exact .inl (if_neg c)
    · by_cases c : b = a
      · cases (if_pos c).symm.trans z
        subst c
        exact ⟨ha, by rw [List.length_map]; exact hz, vs, _, rv, ha⟩
      · cases (if_neg c).symm.trans z
    · by_cases c : b = a
      · exact c
      · exact absurd (if_neg c) z
theorem walk_G {l : PySem.W.OpenLaw} {n k : Nat} {q : Program} {loose : List Str} {XP : (Str → Option Value) → Heap → Prop} {YP : World → Heap → Prop} {d : DefRec} {x : Str}
    (hn : l.most = some n) (hn2 : n ≤ sizeLine) (hdf : d.params.defaults = []) (hr : Room k callerA)
    (F : ∀ (w : World) (mg : Str → Option Value) (fa : Addr) (h : Heap), YP w h → h.Ns mainGlobals mg → mg d.name = some (.ref fa) →
      ∃ (K : PySem.W.Frag) (fd : FuncData) (sp : Sp), K.In h ∧ (∀ (s : Shared) (u : Value), BindsTo s fd ⟨[u], []⟩ [(x, u)]) ∧
        (∀ (H : Hp) (a : Addr) (ns : List Int), SqL K H a (ns.map V.int) → sp [.ref a] H (fun v _ => v = .bl true) L2.E0) ∧
        ∀ base : Heap, K.In base → base.Ns mainGlobals mg → FnOkG l.prog w K mg base k fa fd [x] sp) :
    PySem.W.WalkO q loose XP YP l.row.toRowW d [] (fun f vs => PySem.call f vs) :=
  Att.attach_call hn hdf fun w s₀ s₁ mg mb fa o pm cd doc a vs ns G Y ho hd hcd hmg hobj hints hlen hg => by
    obtain ⟨K, fd, sp, KX, hb, hsp, hF⟩ := F w mg fa _ Y G.T.g hmg
    exact law_callG KX G.T.g G.T.b G.T.builtins G.T.nolimit hg hobj hints (Nat.le_trans hlen hn2) hr hF (hb s₁ (.ref a)) fun H _ hS => hsp H a ns hS
end VF
set_option maxRecDepth 100000
set_option maxHeartbeats 4000000
namespace VF
set_option autoImplicit false
open PySem PySem.Spec PyProof.Rows L2
open AT (cells cellsL er ers)
section
variable {K : PySem.W.Frag} {mg : Str → Option Value} {F : Hp} {E : XS}
end
section
variable {X : Cx} {E : XS} {a b : Expr} {pos : Pos} {mr : M (List RV)}
end
end VF
set_option maxRecDepth 100000
set_option maxHeartbeats 4000000
namespace VF
set_option autoImplicit false
open PySem PySem.Spec PyProof.Rows L2
open NdefX (NF NScope)
section
variable {P : Program} {w : World} {K : PySem.W.Frag} {mg : Str → Option Value} {base : Heap} {C : Addr} {d : IniD} {x f g : Str} {v1 v2 : Expr} {es : List Expr} {p0 p1 p2 pos pos' q0 q1 q2 q3 r0 r1 r2 r3 jp : Pos} {ar : Arg}
end
inductive CatT (K : PySem.W.Frag) (mg : Str → Option Value) (c : Value) : List Str → Prop
  | nil : CatT K mg c []
  | cons {y : Str} {C : Addr} {t : List Str} (g : mg y = some (.ref C)) (m : PySem.W.exmOne K (.ref C) c = some true) (r : CatT K mg c t) : CatT K mg c (y :: t)
theorem CatT.at {K : PySem.W.Frag} {mg : Str → Option Value} {c : Value} {t : List Str} (T : CatT K mg c t) {y : Str} {C : Addr} (h : y ∈ t) (g : mg y = some (.ref C)) : PySem.W.exmOne K (.ref C) c = some true := by
  induction T with
  | nil => cases h
  | @cons y' C' t g' m r ih =>
    rcases List.mem_cons.mp h with q | q
    · subst q
      rw [g] at g'
      cases g'
      exact m
    · exact ih q
def gOn (t : List Str) (h : Exc → Option SV) : Exc → Option SV := fun x => if x.c ∈ t then h x else none
theorem CatT.hm {K : PySem.W.Frag} {mg : Str → Option Value} {c : Value} {t : List Str} (T : CatT K mg c t) (h : Exc → Option SV) : ∀ (y : Exc) (s : SV) (C : Addr), gOn t h y = some s → mg y.c = some (.ref C) → PySem.W.exmOne K (.ref C) c = some true := fun y s C q g => by
  unfold gOn at q
  by_cases z : y.c ∈ t
  · exact T.at z g
  · rw [if_neg z] at q; cases q
end VF
set_option maxRecDepth 100000
set_option maxHeartbeats 4000000
namespace VF
set_option autoImplicit false
open PySem PySem.Spec PyProof.Rows L2
section
variable {X : Cx} {E : XS} {a b : Expr} {ma mb : M RV} {pos : Pos}
end
end VF
set_option maxRecDepth 100000
set_option maxHeartbeats 4000000
namespace VF
set_option autoImplicit false
open PySem PySem.Spec PyProof.Rows L2
open AT (cells cellsL er ers)
section
variable {K : PySem.W.Frag} {mg : Str → Option Value} {pv : List (Nat × V)} {F F' H H' : Hp} {σ : L2.St} {e e' : Env} {as as' : List (Option AT)} {held tr ts us : List AT} {E : XS}
end
section
variable {X : Cx} {E : XS} {a : Expr} {ma : M RV} {pos : Pos}
end
end VF
set_option maxRecDepth 100000
set_option maxHeartbeats 4000000
namespace VF
set_option autoImplicit false
open PySem PySem.Spec PyProof.Rows L2
open AT (cells cellsL er ers)
section
variable {K : PySem.W.Frag} {mg : Str → Option Value} {pv : List (Nat × V)} {F F' H H' : Hp} {σ : L2.St} {e e' : Env} {as as' : List (Option AT)} {held tr ts us : List AT} {E : XS}
end
section
variable {X : Cx} {CX : CXT} {k : Nat} {f C : Addr} {fd : FuncData} {ps : List Str} {sp : Sp} {x : Str} {p pos : Pos} {e : Expr} {es : List Expr} {t : TA}
end
section
variable {X : Cx} {E : XS} {a : Expr} {pos : Pos} {es : List Expr} {mr : M (List RV)}
end
end VF
set_option maxRecDepth 100000
set_option maxHeartbeats 4000000
namespace VF
set_option autoImplicit false
open PySem PySem.Spec PyProof.Rows L2
open AT (cells cellsL er ers)
section
variable {K : PySem.W.Frag} {mg : Str → Option Value} {pv : List (Nat × V)} {F F' H H' : Hp} {σ : L2.St} {e e' : Env} {as as' : List (Option AT)} {held tr ts us : List AT} {E : XS}
def rI (op : Int → Int → Int) : V → V → Hp → VK → Prop := fun x y H Q => ∃ i j, x = .int i ∧ y = .int j ∧ Q (.int (op i j)) H
end
section
variable {X : Cx} {E : XS} {a : Expr} {ma : M RV} {pos : Pos}
end
end VF
set_option maxRecDepth 100000
set_option maxHeartbeats 4000000
namespace VF
set_option autoImplicit false
open PySem PySem.Spec PyProof.Rows L2
open AT (cells cellsL er ers)
def tLen (n : Nat) (tk : TA) : TA := fun σ H Q => tk σ H fun zs H2 => zs.length = n ∧ Q zs H2
def tAppN (n k : Nat) (t tk : TA) : TA := fun σ H Q => t σ H fun vs H1 => tk σ H1 fun zs H2 => vs.length = n ∧ zs.length = k ∧ Q (vs ++ zs) H2
def tPlus (t : TA) (dvs : List V) : TA := fun σ H Q => t σ H fun vs H1 => Q (vs ++ dvs) H1
structure VKw (X : Cx) (E : XS) (kws : List Keyword) (n : Nat) (m : M (List RV)) : Prop where
  go : ∃ tk, PK X kws tk ∧ SA X.K X.mg E (tLen n tk) m
structure VAK (X : Cx) (E : XS) (es : List Expr) (kws : List Keyword) (n k : Nat) (m : M (List RV)) : Prop where
  go : ∃ t tk, L2.PA X es t ∧ PK X kws tk ∧ SA X.K X.mg E (tAppN n k t tk) m
structure VAD (X : Cx) (E : XS) (es : List Expr) (dvs : List V) (m : M (List RV)) : Prop where
  go : ∃ t, L2.PA X es t ∧ SA X.K X.mg E (tPlus t dvs) m
section
variable {X : Cx} {E : XS} {a : Expr} {es : List Expr} {kws : List Keyword} {ma : M RV} {mr : M (List RV)} {nm : Option Str} {kpos pos : Pos} {n k : Nat} {dvs : List V}
end
section
variable {X : Cx} {CX : CXT} {k n : Nat} {f : Addr} {fd : FuncData} {ps ks : List Str} {sp : Sp} {x : Str} {p pos : Pos} {e : Expr} {es : List Expr} {kws : List Keyword} {t tk : TA} {dvs : List V} {ds : List Value}
variable {E : XS} {md : List Bool} {φ : Fn} {mr : M (List RV)}
end
section
variable {K : PySem.W.Frag} {x qual : Str} {params : Arguments} {body : List Stmt} {scope : Scope} {kws : List (Str × V)} {f : Addr} {fd : FuncData} {ps ks : List Str} {n : Nat}
end
end VF
set_option maxRecDepth 100000
set_option maxHeartbeats 4000000
namespace L2
open PySem PySem.Spec PyProof.Rows
section
variable {prog : Program} {w : World} {A : Around} {R : Result → Shared → Prop} {s : Shared} {elt : Expr} {gens : List Comprehension} {g : Comprehension} {scope : Scope} {pos : Pos} {it acc : Value} {env : Env} {k : Nat}
end
structure ClR where
  wi : TI
  g : TG
  tt : TT
  vs : List Nat
inductive ClOk (B : Cx) : List Nat → List ClR → List Comprehension → Prop
  | nil {own : List Nat} : ClOk B own [] []
  | cons {own : List Nat} {c : ClR} {g : Comprehension} {cs : List ClR} {gs : List Comprehension} : PI B g.target g.iter c.wi → PG B g.target c.g → PTs B g.ifs c.tt → (∀ env x, foldedSetIterable g.iter env x = pure x) → g.is_async = 0 → (∀ i ∈ c.vs, i ∈ own) → ClOk B c.vs cs gs → ClOk B own (c :: cs) (g :: gs)
section
variable {X : Cx}
end
end L2
set_option maxRecDepth 100000
set_option maxHeartbeats 4000000
namespace VF
set_option autoImplicit false
open PySem PySem.Spec PyProof.Rows L2
open AT (cells cellsL er ers)
structure ClM where
  mi : M (List D)
  g : Tg
  mt : M Bool
  vs : List Nat
section
variable {K : PySem.W.Frag} {mg : Str → Option Value}
inductive ClV (K : PySem.W.Frag) (mg : Str → Option Value) : List Nat → List ClR → List ClM → Prop
  | nil {own : List Nat} : ClV K mg own [] []
  | cons {own L : List Nat} {c : ClR} {m : ClM} {cs : List ClR} {ms : List ClM} : SI K mg E0 c.wi m.mi → SG K mg L c.g m.g → (∀ i ∈ L, i ∈ m.vs) → ST K mg E0 c.tt m.mt → c.vs = m.vs → (∀ i ∈ m.vs, i ∈ own) → ClV K mg m.vs cs ms → ClV K mg own (c :: cs) (m :: ms)
variable {pv : List (Nat × V)} {held : List AT}
end
section
def wI (K : PySem.W.Frag) (mg : Str → Option Value) (E : XS) (m : M (List D)) : TI := fun σ H R => ∃ pv F e as held, Cf K mg pv F H σ e as held ∧ WI K mg pv F held σ R E (m e)
theorem VI.w {X : Cx} {E : XS} {tg it : Expr} {m : M (List D)} (h : VI X E tg it m) : PI X tg it (wI X.K X.mg E m) := by
  obtain ⟨t, p, s⟩ := h
  exact ⟨fun pins s0 σ H R I ⟨pv, F, e, as, held, c, w⟩ => p.run pins s0 σ H R I (s pv F H σ e as held R c w)⟩
theorem VG.more {X : Cx} {L L' : List Nat} {tg : Expr} {g : Tg} (h : VG X L tg g) (hl : ∀ i ∈ L, i ∈ L') : VG X L' tg g :=
  ⟨fun pins s0 σ H v u Q I r ⟨pv, F, e, as, held, d, e', c, rp, q, k⟩ => h.run pins s0 σ H v u Q I r ⟨pv, F, e, as, held, d, e', c, rp, q, fun σ' as' hw c' => k σ' as' (fun vs hv => hw vs fun i hi => hv i (hl i hi)) c'⟩⟩
variable {X : Cx} {E : XS}
variable {tg it : Expr} {mi : M (List D)} {g : Tg} {L : List Nat} {me : M RV} {pos : Pos}
end
end VF
set_option maxRecDepth 100000
set_option maxHeartbeats 4000000
namespace VF
set_option autoImplicit false
open PySem PySem.Spec PyProof.Rows L2
open AT (cells cellsL er ers)
def AT.kids : AT → List AT
  | .fz _ _ => []
  | .ol _ xs => xs
  | .oo _ _ _ _ _ xs => xs
  | .od _ _ xs => xs
def AT.setKid (t : AT) (k : Nat) (u : AT) : AT := match t with
  | .fz v d => .fz v d
  | .ol p xs => .ol p (xs.set k u)
  | .oo p C dx c ns xs => .oo p C dx c ns (xs.set k u)
  | .od p ks xs => .od p ks (xs.set k u)
def AT.sub : List Nat → AT → Option AT
  | [], t => some t
  | k :: p, t => match t.kids[k]? with
    | some c => AT.sub p c
    | none => none
def AT.put : List Nat → AT → AT → AT
  | [], u, _ => u
  | k :: p, u, t => match t.kids[k]? with
    | some c => t.setKid k (AT.put p u c)
    | none => t
def SV.kids : SV → List SV
  | .fz _ => []
  | .ol xs => xs
  | .oo _ _ xs => xs
  | .od _ xs => xs
def SV.setKid (t : SV) (k : Nat) (u : SV) : SV := match t with
  | .fz d => .fz d
  | .ol xs => .ol (xs.set k u)
  | .oo c ns xs => .oo c ns (xs.set k u)
  | .od ks xs => .od ks (xs.set k u)
def SV.sub : List Nat → SV → Option SV
  | [], t => some t
  | k :: p, t => match t.kids[k]? with
    | some c => SV.sub p c
    | none => none
def SV.put : List Nat → SV → SV → SV
  | [], u, _ => u
  | k :: p, u, t => match t.kids[k]? with
    | some c => t.setKid k (SV.put p u c)
    | none => t
theorem perm_at {α : Type} : ∀ {xs : List α} {k : Nat} {c : α}, xs[k]? = some c → xs.Perm (c :: xs.eraseIdx k)
  | x :: xs, 0, c, h => by
    have e : x = c := by simpa using h
    subst e; exact List.Perm.refl _
  | x :: xs, k + 1, c, h => (((perm_at (xs := xs) (k := k) (by simpa using h)).cons x).trans (List.Perm.swap _ _ _))
theorem perm_setk {α : Type} : ∀ {xs : List α} {k : Nat} {c : α} (u : α), xs[k]? = some c → (xs.set k u).Perm (u :: xs.eraseIdx k)
  | x :: xs, 0, c, u, h => List.Perm.refl _
  | x :: xs, k + 1, c, u, h => (((perm_setk (xs := xs) (k := k) u (by simpa using h)).cons x).trans (List.Perm.swap _ _ _))
theorem vals_set {xs : List AT} {k : Nat} {c u : AT} (h : xs[k]? = some c) (e : u.val = c.val) : vals (xs.set k u) = vals xs := by
  unfold vals
  rw [List.map_set]
  refine List.ext_getElem? fun i => ?_
  rw [List.getElem?_set]
  split
  · rename_i q
    subst q
    split
    · rw [List.getElem?_map, h, Option.map_some, e]
    · rename_i hl
      rw [List.getElem?_eq_none_iff.mpr (by omega)]
  · rfl
theorem setKid_val (k : Nat) (u t : AT) : (t.setKid k u).val = t.val := by cases t <;> rfl
theorem put_val : ∀ {p : List Nat} {u t s : AT}, AT.sub p t = some s → u.val = s.val → (AT.put p u t).val = t.val
  | [], u, t, s, h, e => by cases h; exact e
  | k :: p, u, t, s, h, e => by
    unfold AT.sub at h
    unfold AT.put
    cases q : t.kids[k]? with
    | none => rfl
    | some c => exact setKid_val _ _ _
theorem kid_cells {t c : AT} {k : Nat} (h : t.kids[k]? = some c) : ∃ ctx, (cells t).Perm (ctx ++ cells c) ∧ ∀ u : AT, u.val = c.val → (cells (t.setKid k u)).Perm (ctx ++ cells u) := by
  have key : ∀ (xs : List AT) (root : Addr × HO), xs[k]? = some c → (root :: cellsL xs).Perm ((root :: cellsL (xs.eraseIdx k)) ++ cells c) ∧ ∀ u : AT, (root :: cellsL (xs.set k u)).Perm ((root :: cellsL (xs.eraseIdx k)) ++ cells u) := fun xs root hx => by
    have mv : ∀ u : AT, (cellsL (u :: xs.eraseIdx k)).Perm (cellsL (xs.eraseIdx k) ++ cells u) := fun u => List.perm_append_comm
    exact ⟨((cellsL_perm (perm_at hx)).trans (mv c)).cons root, fun u => ((cellsL_perm (perm_setk u hx)).trans (mv u)).cons root⟩
  cases t with
  | fz v d => simp [AT.kids] at h
  | ol p xs =>
    obtain ⟨h1, h2⟩ := key xs (p, .lst (vals xs)) h
    refine ⟨_, h1, fun u e => ?_⟩
    show ((p, HO.lst (vals (xs.set k u))) :: cellsL (xs.set k u)).Perm _
    rw [vals_set (xs := xs) (k := k) (c := c) h e]; exact h2 u
  | oo p C dx c' ns xs =>
    obtain ⟨h1, h2⟩ := key xs (p, .ins C dx (ns.zip (vals xs))) h
    refine ⟨_, h1, fun u e => ?_⟩
    show ((p, HO.ins C dx (ns.zip (vals (xs.set k u)))) :: cellsL (xs.set k u)).Perm _
    rw [vals_set (xs := xs) (k := k) (c := c) h e]; exact h2 u
  | od p ks xs =>
    obtain ⟨h1, h2⟩ := key xs (p, .dK (ks.zip (vals xs))) h
    refine ⟨_, h1, fun u e => ?_⟩
    show ((p, HO.dK (ks.zip (vals (xs.set k u)))) :: cellsL (xs.set k u)).Perm _
    rw [vals_set (xs := xs) (k := k) (c := c) h e]; exact h2 u
theorem sub_cells : ∀ {p : List Nat} {t s : AT}, AT.sub p t = some s → ∃ ctx, (cells t).Perm (ctx ++ cells s) ∧ ∀ u : AT, u.val = s.val → (cells (AT.put p u t)).Perm (ctx ++ cells u)
  | [], t, s, h => by cases h; exact ⟨[], List.Perm.refl _, fun u _ => List.Perm.refl _⟩
  | k :: p, t, s, h => by
    unfold AT.sub at h
    cases q : t.kids[k]? with
    | none => rw [q] at h; cases h
    | some c =>
      rw [q] at h
      obtain ⟨c1, a1, a2⟩ := kid_cells q
      obtain ⟨c2, b1, b2⟩ := sub_cells (p := p) h
      refine ⟨c1 ++ c2, ?_, fun u e => ?_⟩
      · rw [List.append_assoc]; exact a1.trans (b1.append_left c1)
      · unfold AT.put
        rw [q, List.append_assoc]
        exact (a2 _ (put_val h e)).trans ((b2 u e).append_left c1)
section
variable {K : PySem.W.Frag} {mg : Str → Option Value} {pv : List (Nat × V)} {F F' H H' : Hp} {σ : L2.St} {e e' : Env} {as as' : List (Option AT)} {held tr ts us : List AT} {E : XS}
theorem kid_ok {t c : AT} {k : Nat} (h : t.kids[k]? = some c) (ok : Ok K mg F t) : Ok K mg F c ∧ ∀ u : AT, Ok K mg F u → Ok K mg F (t.setKid k u) := by
  have key : ∀ xs : List AT, xs[k]? = some c → Oks K mg F xs → Ok K mg F c ∧ ∀ u : AT, Ok K mg F u → Oks K mg F (xs.set k u) := fun xs hx ok => ⟨Oks.mem.mp ok c (List.mem_of_getElem? hx), fun u hu => Oks.mem.mpr fun t ht => by
    rcases List.mem_or_eq_of_mem_set ht with z | z
    · exact Oks.mem.mp ok t z
    · rw [z]; exact hu⟩
  cases t with
  | fz v d => simp [AT.kids] at h
  | ol p xs => exact key xs h ok
  | oo p C dx c' ns xs => exact ⟨(key xs h ok.2.2).1, fun u hu => ⟨ok.1, by rw [List.length_set]; exact ok.2.1, (key xs h ok.2.2).2 u hu⟩⟩
  | od p ks xs => exact ⟨(key xs h ok.2).1, fun u hu => ⟨by rw [List.length_set]; exact ok.1, (key xs h ok.2).2 u hu⟩⟩
theorem sub_ok : ∀ {p : List Nat} {t s : AT}, AT.sub p t = some s → Ok K mg F t → Ok K mg F s ∧ ∀ u : AT, Ok K mg F u → Ok K mg F (AT.put p u t)
  | [], t, s, h, ok => by cases h; exact ⟨ok, fun u hu => hu⟩
  | k :: p, t, s, h, ok => by
    unfold AT.sub at h
    cases q : t.kids[k]? with
    | none => rw [q] at h; cases h
    | some c =>
      rw [q] at h
      obtain ⟨a1, a2⟩ := kid_ok q ok
      obtain ⟨b1, b2⟩ := sub_ok (p := p) h a1
      refine ⟨b1, fun u hu => ?_⟩
      unfold AT.put
      rw [q]
      exact a2 _ (b2 u hu)
theorem Good.part {p : List Nat} {t s u : AT} {as bs : List AT} (g : Good K mg F H (t :: us)) (h : AT.sub p t = some s) (hv : u.val = s.val) (hc : (cells s).Perm (cells u ++ cellsL as)) (hu : Ok K mg F u) (ha : Oks K mg F as) : Good K mg F H (AT.put p u t :: (as ++ us)) := by
  obtain ⟨ctx, h1, h2⟩ := sub_cells h
  have pm : (cellsL (t :: us)).Perm (cellsL (AT.put p u t :: (as ++ us))) := by
    show (cells t ++ cellsL us).Perm (cells (AT.put p u t) ++ cellsL (as ++ us))
    rw [cellsL_append, ← List.append_assoc]
    refine List.Perm.append_right _ ?_
    refine (h1.trans (hc.append_left ctx)).trans ?_
    rw [← List.append_assoc]
    exact ((h2 u hv).symm).append_right _
  refine ⟨fun c hc => g.at_ c (pm.mem_iff.mpr hc), ⟨(sub_ok h g.ok.1).2 u hu, Oks.append.mpr ⟨ha, g.ok.2⟩⟩, ((pm.map _).nodup_iff).mp g.nd⟩
theorem set_set {k : Nat} {t u w : AT} : (t.setKid k u).setKid k w = t.setKid k w := by
  cases t with
  | fz v d => rfl
  | ol a xs => show AT.ol a ((xs.set k u).set k w) = .ol a (xs.set k w); rw [List.set_set]
  | oo a C dx c' ns xs => show AT.oo a C dx c' ns ((xs.set k u).set k w) = .oo a C dx c' ns (xs.set k w); rw [List.set_set]
  | od a ks xs => show AT.od a ks ((xs.set k u).set k w) = .od a ks (xs.set k w); rw [List.set_set]
end
end VF
set_option maxRecDepth 100000
set_option maxHeartbeats 4000000
namespace VF
set_option autoImplicit false
open PySem PySem.Spec PyProof.Rows L2
open AT (cells cellsL er ers)
section
variable (K : PySem.W.Frag) (mg : Str → Option Value)
def WEj (j : Nat) (tj : AT) (pv : List (Nat × V)) (F : Hp) (held : List AT) (σ : L2.St) (Q : VK) (E : XS) : R RV → Prop
  | .st => False
  | .ok r e' => ∀ v F' H' as' tr, Same F F' → as'[j]? = some (some tj) → Cf K mg pv F' H' σ e' as' (tr ++ held) → RR σ v r tr → Q v H'
  | .ex x e' => WX K mg pv F held E x e'
def WAj (j : Nat) (tj : AT) (pv : List (Nat × V)) (F : Hp) (held : List AT) (σ : L2.St) (Q : List V → Hp → Prop) (E : XS) : R (List RV) → Prop
  | .st => False
  | .ok rs e' => ∀ vs F' H' as' tr, Same F F' → as'[j]? = some (some tj) → Cf K mg pv F' H' σ e' as' (tr ++ held) → RRs σ vs rs tr → Q vs H'
  | .ex x e' => WX K mg pv F held E x e'
def SEj (j : Nat) (E : XS) (t : TE) (m : M RV) : Prop := ∀ pv F H σ e as held tj Q, as[j]? = some (some tj) → Cf K mg pv F H σ e as held → WEj K mg j tj pv F held σ Q E (m e) → t σ H Q
def SAj (j : Nat) (E : XS) (t : TA) (m : M (List RV)) : Prop := ∀ pv F H σ e as held tj Q, as[j]? = some (some tj) → Cf K mg pv F H σ e as held → WAj K mg j tj pv F held σ Q E (m e) → t σ H Q
end
section
variable {K : PySem.W.Frag} {mg : Str → Option Value} {pv : List (Nat × V)} {F F' H H' : Hp} {σ : L2.St} {e e' : Env} {as as' : List (Option AT)} {held tr ts us : List AT} {E : XS}
theorem Cf.fill {j : Nat} {t : AT} (c : Cf K mg pv F H σ e as (t :: held)) (hc : isClr e j = true) (hv : σ[j]? = some (some t.val)) : Cf K mg pv F H σ (e.setS j (er t)) (as.set j (some t)) held ∧ (as.set j (some t))[j]? = some (some t) := by
  have hi := isClr_ok hc
  have hai : as[j]? = some none := by
    rw [c.r.sl, List.getElem?_map] at hi
    cases z : as[j]? with
    | none => rw [z] at hi; cases hi
    | some o => cases o with
      | none => rfl
      | some u => rw [z] at hi; cases hi
  have hlt : j < as.length := (List.getElem?_eq_some_iff.mp hai).1
  refine ⟨⟨c.s, ⟨?_, by rw [List.length_set]; exact c.r.len, fun i u hj => ?_, c.r.pin⟩, ?_⟩, by simp [hlt]⟩
  · show e.sl.set j (some (er t)) = _
    rw [List.map_set, c.r.sl]; rfl
  · by_cases z : i = j
    · subst z
      rw [List.getElem?_set_self hlt] at hj
      cases hj
      exact hv
    · rw [List.getElem?_set_ne (Ne.symm z)] at hj
      exact c.r.at_ i u hj
  · have g : Good K mg F H (t :: (opts as ++ held)) := c.g.perm (List.perm_middle (l₁ := opts as) (l₂ := held) (a := t))
    exact g.perm ((opts_put t hai).append_right held)
end
end VF
set_option maxRecDepth 100000
set_option maxHeartbeats 4000000
namespace VF
set_option autoImplicit false
open PySem PySem.Spec PyProof.Rows L2
open AT (cells cellsL er ers)
section
variable {K : PySem.W.Frag} {mg : Str → Option Value} {pv : List (Nat × V)} {F F' H H' : Hp} {σ : L2.St} {e e' : Env} {as as' : List (Option AT)} {held tr ts us : List AT} {E : XS}
end
section
variable {K : PySem.W.Frag} {mg : Str → Option Value} {F H : Hp} {σ : L2.St} {us : List AT}
end
end VF
set_option maxRecDepth 100000
set_option maxHeartbeats 4000000
namespace VF
set_option autoImplicit false
open PySem PySem.Spec PyProof.Rows L2
open AT (cells cellsL er ers)
def fIx (f : Str) (ns : List Str) : Option Nat := ns.findIdx? fun n => f == n
section
variable {K : PySem.W.Frag} {mg : Str → Option Value} {pv : List (Nat × V)} {F F' H H' : Hp} {σ : L2.St} {e e' : Env} {as as' : List (Option AT)} {held tr ts us : List AT} {E : XS}
end
end VF
set_option maxRecDepth 100000
set_option maxHeartbeats 4000000
namespace VF
set_option autoImplicit false
open PySem PySem.Spec PyProof.Rows L2
open AT (cells cellsL er ers)
structure VEj (X : Cx) (j : Nat) (E : XS) (e : Expr) (m : M RV) : Prop where
  go : ∃ t, PE X e t ∧ SEj X.K X.mg j E t m
structure VAj (X : Cx) (j : Nat) (E : XS) (es : List Expr) (m : M (List RV)) : Prop where
  go : ∃ t, L2.PA X es t ∧ SAj X.K X.mg j E t m
section
variable {X : Cx} {E : XS} {a : Expr} {es : List Expr} {ma : M RV} {mr : M (List RV)} {pos : Pos} {j : Nat}
variable {CX : CXT} {k : Nat} {f : Addr} {fd : FuncData} {ps : List Str} {x y : Str} {p p1 p2 : Pos} {md : List Bool} {φ : Fn} {φL : SV → Option D}
end
end VF
set_option maxRecDepth 100000
set_option maxHeartbeats 4000000
namespace VF
set_option autoImplicit false
open PySem PySem.Spec PyProof.Rows L2
open AT (cells cellsL er ers)
section
variable {K : PySem.W.Frag} {mg : Str → Option Value} {E : XS}
end
end VF
set_option maxRecDepth 100000
set_option maxHeartbeats 4000000
namespace VF
set_option autoImplicit false
open PySem PySem.Spec PyProof.Rows L2
open AT (cells cellsL er ers)
abbrev Key := L2.Key
section
variable {K : PySem.W.Frag} {mg : Str → Option Value} {pv : List (Nat × V)} {F F' H H' : Hp} {σ : L2.St} {e e' : Env} {as as' : List (Option AT)} {held tr ts us : List AT} {E : XS}
def tPs : List Key → List TE → List (TE × TE)
  | k :: ks, t :: ts => (tC (kV k), t) :: tPs ks ts
  | _, _ => []
def SPs (K : PySem.W.Frag) (mg : Str → Option Value) (E : XS) (ks : List Key) (ts : List TE) (m : M (List RV)) : Prop := ∀ pv F H σ e as held (Q : List (V × V) → Hp → Prop), Cf K mg pv F H σ e as held → WA K mg pv F held σ (fun vs H => vs.length = ks.length → Q ((ks.map kV).zip vs) H) E (m e) → tPairs (tPs ks ts) σ H Q
end
end VF
set_option maxRecDepth 100000
set_option maxHeartbeats 4000000
namespace VF
set_option autoImplicit false
open PySem PySem.Spec PyProof.Rows L2
open AT (cells cellsL er ers)
section
variable {K : PySem.W.Frag} {mg : Str → Option Value} {pv : List (Nat × V)} {F F' H H' : Hp} {σ : L2.St} {e e' : Env} {as as' : List (Option AT)} {held tr ts us : List AT} {E : XS}
end
structure VD (X : Cx) (E : XS) (pos : Pos) (keys : List (Option Expr)) (values : List Expr) (ks : List Key) (m : M (List RV)) : Prop where
  go : ∃ ts, PPs X pos keys values (tPs ks ts) ∧ SPs X.K X.mg E ks ts m
section
variable {X : Cx} {E : XS} {a : Expr} {es : List Expr} {ma : M RV} {mr : M (List RV)} {pos p1 : Pos} {j : Nat} {s : Str} {kd : Nat}
variable {CX : CXT} {k : Nat} {f : Addr} {fd : FuncData} {ps : List Str} {x y : Str} {p p2 p3 : Pos} {md : List Bool} {φ : Fn}
end
end VF
set_option maxRecDepth 100000
set_option maxHeartbeats 4000000
namespace VF
set_option autoImplicit false
open PySem PySem.Spec PyProof.Rows L2
open AT (cells cellsL er ers)
section
variable {K : PySem.W.Frag} {mg : Str → Option Value} {pv : List (Nat × V)} {F F' H H' : Hp} {σ σ' : L2.St} {e e' : Env} {as as' : List (Option AT)} {held tr ts us : List AT} {E : XS}
end
section
variable {X : Cx} {E : XS} {pos p : Pos} {j : Nat} {y : Str} {tg : Expr} {g : Tg} {L : List Nat} {m : M Fl}
end
end VF
set_option maxRecDepth 100000
set_option maxHeartbeats 4000000
namespace VF
set_option autoImplicit false
open PySem PySem.Spec PyProof.Rows L2
open AT (cells cellsL er ers)
open PySem.W (alike AllAlike Sortable dataLe dataLt EachIs)
section
variable {X : Cx}
end
def isTup1 : PyData → Bool
  | .tuple (_ :: _) => true
  | _ => false
def noTup : PyData → Bool
  | .none => false
  | .tuple _ => false
  | _ => true
section
variable {K : PySem.W.Frag} {mg : Str → Option Value}
end
section
variable {X : Cx} {E : XS} {a : Expr} {pos : Pos}
end
end VF
set_option maxRecDepth 100000
set_option maxHeartbeats 4000000
namespace VF
set_option autoImplicit false
open PySem PySem.Spec PyProof.Rows L2
section
variable {X : Cx} {E : XS} {pos : Pos}
theorem v_gint {x : Str} {i : Int} (hg : Gl X x) (hm : ∃ t, X.mg x = some (.int i t)) (hd : (x == ("__debug__" : Str)) = false := by decide) : VE X E (.Name x pos) (dC (.int i)) := by
  obtain ⟨t, e⟩ := hm
  exact .mk (pe_glob (v := .int i) hg e ⟨t, rfl⟩ hd) se_c
end
end VF
set_option maxRecDepth 100000
set_option maxHeartbeats 4000000
namespace VF
set_option autoImplicit false
open PySem PySem.Spec PyProof.Rows L2
open AT (cells cellsL er ers)
section
variable {X : Cx}
end
section
variable {K : PySem.W.Frag} {mg : Str → Option Value} {E : XS}
end
section
variable {X : Cx}
end
section
variable {K : PySem.W.Frag} {mg : Str → Option Value} {E : XS}
end
section
variable {K : PySem.W.Frag} {mg : Str → Option Value} {E : XS}
end
section
variable {X : Cx} {E : XS} {a b c : Expr} {ma mb mc : M RV} {pos : Pos} {mr : M (List RV)}
end
end VF
set_option maxRecDepth 100000
set_option maxHeartbeats 4000000
namespace VF
set_option autoImplicit false
open PySem PySem.Spec PyProof.Rows L2
open AT (cells cellsL er ers)
section
variable {K : PySem.W.Frag} {mg : Str → Option Value} {pv : List (Nat × V)} {F F' H H' : Hp} {σ : L2.St} {e e' : Env} {as as' : List (Option AT)} {held tr ts us : List AT} {E : XS}
end
def keepOne (r : RV) (e : Env) : Option (SV × Env) := match r with
  | .own s => some (s, e)
  | r => match frzR r e with
    | some (d, e1) => some (.fz d, e1)
    | none => none
def keepAll : List RV → Env → Option (List SV × Env)
  | [], e => some ([], e)
  | r :: rs, e => (match keepOne r e with
    | some (s, e1) => (match keepAll rs e1 with
      | some (ss, e2) => some (s :: ss, e2)
      | none => none)
    | none => none)
section
variable {K : PySem.W.Frag} {mg : Str → Option Value} {pv : List (Nat × V)} {H : Hp} {σ : L2.St} {E : XS}
theorem Cf.keepOne {v : V} {r : RV} {s : SV} {F : Hp} {e e' : Env} {as : List (Option AT)} {tr held : List AT} (c : Cf K mg pv F H σ e as (tr ++ held)) (h : RR σ v r tr) (q : keepOne r e = some (s, e')) :
    ∃ F' as' t, Same F F' ∧ Cf K mg pv F' H σ e' as' ([t] ++ held) ∧ t.val = v ∧ er t = s := by
  have fin : (match VF.frzR r e with | some (d, e1) => some (SV.fz d, e1) | none => none) = some (s, e') → ∃ F' as' t, Same F F' ∧ Cf K mg pv F' H σ e' as' ([t] ++ held) ∧ t.val = v ∧ er t = s := by
    intro q
    cases q1 : VF.frzR r e with
    | none => rw [q1] at q; cases q
    | some p =>
      obtain ⟨d, e1⟩ := p
      rw [q1] at q
      cases q
      obtain ⟨F', as', s1, c1, rp⟩ := c.frzR h q1
      exact ⟨F', as', .fz v d, s1, c1.fz rp, rfl, rfl⟩
  cases r with
  | own s0 =>
    have q' : some (s0, e) = some (s, e') := q
    cases q'
    obtain ⟨t, e1, e2, e3⟩ := h
    subst e1
    exact ⟨F, as, t, Same.refl _, c, e2, e3⟩
  | fz d => exact fin q
  | var i => exact fin q
theorem Cf.keepAll : ∀ {rs : List RV} {vs : List V} {ss : List SV} {F : Hp} {e e' : Env} {as : List (Option AT)} {tr held : List AT}, Cf K mg pv F H σ e as (tr ++ held) → RRs σ vs rs tr → keepAll rs e = some (ss, e') →
    ∃ F' as' ts, Same F F' ∧ Cf K mg pv F' H σ e' as' (ts ++ held) ∧ vals ts = vs ∧ ers ts = ss
  | [], [], ss, F, e, e', as, tr, held, c, h, q => by
    have e1 : tr = [] := h
    subst e1
    have q' : some (([] : List SV), e) = some (ss, e') := q
    cases q'
    exact ⟨F, as, [], Same.refl _, c, rfl, rfl⟩
  | r :: rs, v :: vs, ss, F, e, e', as, tr, held, c, ⟨t1, t2, e1, h1, h2⟩, q => by
    subst e1
    have q' : (match VF.keepOne r e with
      | some (s, e1) => (match VF.keepAll rs e1 with
        | some (ss, e2) => some (s :: ss, e2)
        | none => none)
      | none => none) = some (ss, e') := q
    cases q1 : VF.keepOne r e with
    | none => rw [q1] at q'; cases q'
    | some p =>
      obtain ⟨s, e1⟩ := p
      rw [q1] at q'
      cases q2 : VF.keepAll rs e1 with
      | none => simp only [q2] at q'; cases q'
      | some p2 =>
        obtain ⟨ss2, e2⟩ := p2
        simp only [q2] at q'
        cases q'
        have c1 : Cf K mg pv F H σ e as (t1 ++ (t2 ++ held)) := c.perm (by rw [List.append_assoc]; exact pswap _ _ _)
        obtain ⟨F1, as1, t, s1, c2, ev, et⟩ := c1.keepOne h1 q1
        obtain ⟨F2, as2, ts, s2, c3, evs, ets⟩ := Cf.keepAll (held := [t] ++ held) (c2.perm (pswap _ _ _)) h2 q2
        refine ⟨F2, as2, t :: ts, s1.trans s2, c3.perm (pswap ts [t] held), ?_, ?_⟩
        · show t.val :: vals ts = _
          rw [ev, evs]
        · show er t :: ers ts = _
          rw [et, ets]
  | [], _ :: _, _, _, _, _, _, _, _, _, h, _ => h.elim
  | _ :: _, [], _, _, _, _, _, _, _, _, h, _ => h.elim
end
section
variable {X : Cx} {E : XS} {a : Expr} {ma : M RV} {pos p1 p2 p3 : Pos} {j : Nat} {s y : Str} {kd : Nat}
end
end VF
set_option maxRecDepth 100000
set_option maxHeartbeats 4000000
namespace VF
set_option autoImplicit false
open PySem PySem.Spec PyProof.Rows L2
open AT (cells cellsL er ers)
section
variable {K : PySem.W.Frag} {mg : Str → Option Value} {pv : List (Nat × V)} {E : XS}
end
section
variable {X : Cx} {E : XS} {a : Expr} {es : List Expr} {mr : M (List RV)} {pos : Pos}
end
end VF
set_option maxRecDepth 100000
set_option maxHeartbeats 4000000
namespace VF
set_option autoImplicit false
open PySem PySem.Spec PyProof.Rows L2
open AT (cells cellsL er ers)
abbrev set0 (w : World) : Obj := { cls := .type "set", dict := none, data := .set #[] 0 (.fresh 0 0 (!w.params.followText "set-order")) }
section
variable {P : Program} {w : World} {A : Around} {E : Value → Shared → Prop} {s : Shared}
theorem at_new (hp : Heap) (w : World) : (hp.push (set0 w)).get? hp.objs.size = some (set0 w) := Heap.get?_push_size _ rfl
def Filled (w : World) (s0 s2 : Shared) (ns : List Int) : Prop :=
  ∃ hp t n, s2 = { s0 with heap := hp, toks := t } ∧ SetR w hp s0.heap.objs.size (fun j => decide (j ∈ ns)) n ∧ n ≤ ns.length ∧ ∀ b o, s0.heap.get? b = some o → hp.get? b = some o
set_option maxRecDepth 100000 in
theorem set_init_list {q : Addr} {vs : Array Value} (ns : List Int) {R : Result → Shared → Prop} (nh : A.handled = none) (ql : s.heap.IsList q vs) (ni : IntsAre vs.toList ns) (sm : ns.length + 1 < scanBound)
    (k : ∀ s2, Filled w s s2 ns → R (.ok (.ret .none)) s2) :
    codeAny (model P w) A (.call (.builtin "set.__init__") ⟨[.ref s.heap.objs.size, .ref q], []⟩) R { s with heap := s.heap.push (set0 w) } := by
  have isS : Shared.TypeIs { s with heap := s.heap.push (set0 w) } (.ref s.heap.objs.size) "set" := ⟨_, at_new _ w, rfl⟩
  have nv : vs.size = ns.length := by
    have z := IntsAre.length ni
    rwa [Array.length_toList] at z
  refine codeAny_call_builtin F.called_set.init.plain F.entry_set_init (check_set_init_1 isS ?_)
  obtain ⟨⟨oc, od, odata, osl⟩, oq, rfl, nl, rfl⟩ := id ql
  have oq2 : (s.heap.push (set0 w)).get? q = some { cls := .type "list", dict := od, data := .seq vs nl, slots := osl } := Heap.get?_push_of_some _ oq
  have ql2 : (s.heap.push (set0 w)).IsList q vs := ⟨_, oq2, rfl, nl, rfl⟩
  have no1 := F.sub_list_set
  have no2 := F.sub_list_frozenset
  have no3 : (Value.type "list" == Value.type "dict") = false := by decide
  unfold Builtin.«set.__init__» noKeywords Builtin.Frozenset.updateFrom
  generalize hIt : pyIter = It
  wp_walk
  subst hIt
  refine wpAny_pyIter_list ql2 ?_
  refine wpAny_bind (wpAny_runValue ?_)
  have lt : q < s.heap.objs.size := Heap.lt_size oq
  have nh3 : A.in1.in1.handled = none := by simp [nh]
  have sz : (s.heap.push (set0 w)).objs.size = s.heap.objs.size + 1 := Heap.size_push ..
  have nq : q ≠ (s.heap.push (set0 w)).objs.size := by rw [sz]; exact Nat.ne_of_lt (Nat.lt_succ_of_lt lt)
  have fr : s.heap.objs.size ∉ [(s.heap.push (set0 w)).objs.size, q] := fun z => by
    rw [sz] at z
    rcases List.mem_cons.mp z with z | z
    · exact absurd z (Nat.ne_of_lt (Nat.lt_succ_self _))
    · exact absurd (List.mem_singleton.mp z) (Nat.ne_of_gt lt)
  have at_ : ∀ (i : Nat) (v : Value), vs[i]? = some v → ∃ n t, ns[i]? = some n ∧ v = .int n t := fun i v hv => by
    have li : i < ns.length := by rw [← nv]; exact (Array.getElem?_eq_some_iff.mp hv).1
    obtain ⟨t, e⟩ := IntsAre.int_at ni i v (by rw [Array.getElem?_toList]; exact hv)
    exact ⟨ns[i], t, List.getElem?_eq_getElem li, by rw [e, List.getD_eq_getElem?_getD, List.getElem?_eq_getElem li]; rfl⟩
  refine set_update_ints ((Walks.list nh3 _ q nq vs).toS) s.heap.objs.size fr ns nv sm at_ (vs.size - 0) 0 _ (by omega) (Nat.zero_le _) ⟨⟨_, Heap.get?_push_size _ rfl, rfl, rfl⟩, ql2.push _⟩ ⟨0, Nat.le_refl 0, setR_new_at (Heap.get?_push_of_some _ (at_new _ w))⟩ fun s' n mv le R' => ?_
  obtain ⟨hp, g2, d2, t2, o2⟩ := s'
  obtain rfl : g2 = s.gens := mv.gens
  obtain rfl : d2 = s.drawn := mv.drawn
  obtain rfl : o2 = s.os := mv.os
  show wpAny _ _ _ _ _ _
  refine wpAny_pure (show wpAny _ _ (ret Value.none) _ _ _ from wpAny_pure (k _ ⟨hp, t2, n, rfl, R', by omega, fun b o e => ?_⟩))
  have lb : b < s.heap.objs.size := Heap.lt_size e
  refine mv.heap b o (fun z => ?_) (Heap.get?_push_of_some _ (Heap.get?_push_of_some _ e))
  rcases List.mem_cons.mp z with z | z
  · exact absurd z (Nat.ne_of_lt lb)
  · have z := List.mem_singleton.mp z
    rw [sz] at z
    exact absurd z (Nat.ne_of_lt (Nat.lt_succ_of_lt lb))
set_option maxRecDepth 100000 in
theorem call_set_ints {q : Addr} {vs : Array Value} (ns : List Int) {Q : Value → Shared → Prop} (nh : A.handled = none) (ql : s.heap.IsList q vs) (ni : IntsAre vs.toList ns) (sm : ns.length + 1 < scanBound)
    (k : ∀ s2, Filled w s s2 ns → Q (.ref s.heap.objs.size) s2) : wpAny (model P w) A (call (.type "set") [.ref q]) Q E s := by
  have fc := F.called_set
  obtain ⟨cc, ct, hm⟩ := fc.mro
  have a1 := fc.made
  have a2 := fc.sub
  have a3 := fc.notType
  have a4 := fc.canCreate
  have a5 := F.typeCall_set_1 (.ref q)
  refine wpAny_call (codeAny_of_tree (show wpAny _ _ (callAny (.type "set") _) _ _ _ from wpAny_pure ⟨Code.quiet_builtin _ (by decide +kernel), codeAny_builtin F.entry_type_call ?_⟩))
  rw [Around.under_plain (weight_type_call_type "set" [.ref q] []) rfl]
  repeat (any_goals (first | assumption | wp_step))
  refine codeAny_mono (code_set_led1 (w := w) (.ref q) (E := E) (Q₁ := fun z s₁ => z = .ref s.heap.objs.size ∧ s₁ = { s with heap := s.heap.push (set0 w) }) ⟨rfl, rfl⟩) fun z s₁ hz => ?_
  cases z with
  | error e => exact hz
  | ok fl =>
    cases fl with
    | ret z =>
      obtain ⟨rfl, rfl⟩ := hz
      have b1 := fc.init.lookup
      have b2 := fc.init.bind (.ref s.heap.objs.size)
      have b3 : Shared.TypeIs { s with heap := s.heap.push (set0 w) } (.ref s.heap.objs.size) "set" := ⟨_, at_new _ w, rfl⟩
      repeat (any_goals (first | assumption | wp_step))
      refine codeAny_mono (set_init_list (A := _) (R := wants (fun z s₂ => z = .none ∧ Filled w s s₂ ns) E) ns (by simp [nh]) ql ni sm fun s2 h2 => ⟨rfl, h2⟩) fun z s₂ hz => ?_
      cases z with
      | error e => exact hz
      | ok fl =>
        cases fl with
        | ret z =>
          obtain ⟨rfl, h2⟩ := hz
          repeat (any_goals (first | assumption | wp_step))
          exact k _ h2
        | _ => exact hz.elim
    | _ => exact hz.elim
end
section
variable {K : PySem.W.Frag} {mg : Str → Option Value} {E : XS}
end
section
variable {X : Cx} {E : XS} {a : Expr} {ma : M RV} {pos p1 p2 p3 : Pos}
end
end VF
set_option maxRecDepth 100000
set_option maxHeartbeats 4000000
namespace VF
set_option autoImplicit false
open PySem PySem.Spec PyProof.Rows L2
open AT (cells cellsL er ers)
section
variable {K : PySem.W.Frag} {mg : Str → Option Value} {pv : List (Nat × V)} {F0 F H : Hp} {σ : L2.St} {e : Env} {as : List (Option AT)} {held held0 : List AT} {E : XS}
end
section
variable {X : Cx} {E : XS} {a b c d k x : Expr} {ma mb mc md mk mx : M RV} {pos p1 p2 : Pos}
end
end VF
set_option maxRecDepth 100000
set_option maxHeartbeats 4000000
namespace VF
set_option autoImplicit false
open PySem PySem.Spec PyProof.Rows L2
open AT (cells cellsL er ers)
section
variable {X : Cx} {xA xB n : Str} {cA cB : Value} {i : Nat} {body rA rB : List Stmt} {sA sB : Stmt} {pA pB qA qB pos : Pos} {tb : L2.WX → TS} {tA tB : Addr → Value → Option Addr → TS} {Wo : L2.WX}
end
section
variable {X : Cx} {E : XS}
end
inductive CatF (K : PySem.W.Frag) (mg : Str → Option Value) (cA cB : Value) : List Str → Prop
  | nil : CatF K mg cA cB []
  | cons {y : Str} {C : Addr} {t : List Str} (g : mg y = some (.ref C)) (f : PySem.W.exmOne K (.ref C) cA = some false) (m : PySem.W.exmOne K (.ref C) cB = some true) (r : CatF K mg cA cB t) : CatF K mg cA cB (y :: t)
theorem CatF.at {K : PySem.W.Frag} {mg : Str → Option Value} {cA cB : Value} {t : List Str} (T : CatF K mg cA cB t) {y : Str} {C : Addr} (h : y ∈ t) (g : mg y = some (.ref C)) : PySem.W.exmOne K (.ref C) cA = some false ∧ PySem.W.exmOne K (.ref C) cB = some true := by
  induction T with
  | nil => cases h
  | @cons y' C' t g' f m r ih =>
    rcases List.mem_cons.mp h with q | q
    · subst q
      rw [g] at g'
      cases g'
      exact ⟨f, m⟩
    · exact ih q
theorem CatF.hm {K : PySem.W.Frag} {mg : Str → Option Value} {cA cB : Value} {t : List Str} (T : CatF K mg cA cB t) (h : Exc → Option SV) : ∀ (y : Exc) (s : SV) (C : Addr), gOn t h y = some s → mg y.c = some (.ref C) → PySem.W.exmOne K (.ref C) cA = some false ∧ PySem.W.exmOne K (.ref C) cB = some true := fun y s C q g => by
  unfold gOn at q
  by_cases z : y.c ∈ t
  · exact T.at z g
  · rw [if_neg z] at q; cases q
section
variable {X : Cx} {E : XS}
end
end VF
set_option maxRecDepth 100000
set_option maxHeartbeats 4000000
namespace VF
set_option autoImplicit false
open PySem PySem.Spec PyProof.Rows L2
open AT (cells cellsL er ers)
section
variable {K : PySem.W.Frag} {mg : Str → Option Value} {F : Hp} {E : XS}
end
end VF
set_option maxRecDepth 100000
set_option maxHeartbeats 4000000
namespace VF
set_option autoImplicit false
open PySem PySem.Spec PyProof.Rows L2
open AT (cells cellsL er ers)
section
variable {K : PySem.W.Frag} {mg : Str → Option Value} {E : XS}
end
section
variable {X : Cx} {E : XS} {a b c : Expr} {ma mb mc : M RV} {pos : Pos} {es : List Expr} {mr : M (List RV)}
end
end VF
set_option maxRecDepth 100000
set_option maxHeartbeats 4000000
namespace VF
set_option autoImplicit false
open PySem PySem.Spec PyProof.Rows L2
open AT (cells cellsL er ers)
instance {x : Str} {n : Int} : Decidable (MulOk x n) := by unfold MulOk; infer_instance
section
variable {X : Cx} {K : PySem.W.Frag} {mg : Str → Option Value} {E : XS}
end
section
variable {K : PySem.W.Frag} {mg : Str → Option Value} {E : XS}
end
section
variable {X : Cx} {E : XS} {a b : Expr} {ma mb : M RV} {pos : Pos}
end
section
variable {K : PySem.W.Frag} {mg : Str → Option Value} {E : XS}
end
end VF
set_option maxRecDepth 100000
set_option maxHeartbeats 4000000
namespace VF
set_option autoImplicit false
open PySem PySem.Spec PyProof.Rows L2
open AT (cells cellsL er ers)
section
variable {K : PySem.W.Frag} {mg : Str → Option Value} {E : XS}
end
inductive VJ (X : Cx) (E : XS) : List Expr → List (M RV) → Prop
  | nil : VJ X E [] []
  | cons {e : Expr} {m : M RV} {es : List Expr} {ms : List (M RV)} (h : VE X E e m) (r : VJ X E es ms) : VJ X E (e :: es) (m :: ms)
end VF
set_option maxRecDepth 100000
set_option maxHeartbeats 4000000
namespace VF
set_option autoImplicit false
open PySem PySem.Spec PyProof.Rows L2
open AT (cells cellsL er ers)
section
variable {K : PySem.W.Frag} {mg : Str → Option Value} {pv : List (Nat × V)} {F F' H H' : Hp} {σ : L2.St} {e e' : Env} {as as' : List (Option AT)} {held tr ts us : List AT} {E : XS}
end
section
variable {X : Cx} {E : XS} {pos : Pos}
end
end VF
set_option maxRecDepth 100000
set_option maxHeartbeats 4000000
namespace VF
set_option autoImplicit false
open PySem PySem.Spec PyProof.Rows L2
open AT (cells cellsL er ers)
section
variable {K : PySem.W.Frag} {mg : Str → Option Value} {pv : List (Nat × V)} {F F' H H' : Hp} {σ : L2.St} {e e' : Env} {as as' : List (Option AT)} {held tr ts us : List AT} {E : XS}
def okRepN (n : Nat) (k : Int) : Prop := -(2 ^ 63) ≤ k ∧ k < 2 ^ 63 ∧ n * k.toNat ≤ sizeLine
instance (n : Nat) (k : Int) : Decidable (okRepN n k) := by unfold okRepN; infer_instance
end
section
variable {X : Cx} {E : XS} {a b c : Expr} {ma mb mc : M RV} {pos : Pos}
end
end VF
set_option maxRecDepth 100000
set_option maxHeartbeats 4000000
namespace VF
set_option autoImplicit false
open PySem PySem.Spec PyProof.Rows L2
open AT (cells cellsL er ers)
section
variable {K : PySem.W.Frag} {mg : Str → Option Value} {pv : List (Nat × V)} {F F' H H' : Hp} {σ : L2.St} {e e' : Env} {as as' : List (Option AT)} {held tr ts us : List AT} {E : XS}
end
section
variable {X : Cx} {E : XS} {pos : Pos}
end
end VF
set_option maxRecDepth 100000
set_option maxHeartbeats 4000000
namespace VF
set_option autoImplicit false
open PySem L2
@[simp] theorem bind_ok {α β : Type} (a : α) (e : Env) (f : α → M β) : (R.ok a e).bind f = f a e := (rfl)
@[simp] theorem bind_st {α β : Type} (f : α → M β) : (R.st : R α).bind f = .st := (rfl)
@[simp] theorem mbind {α β : Type} (m : M α) (f : α → M β) (e : Env) : (m.bind f) e = (m e).bind f := (rfl)
@[simp] theorem ev_c (d : D) (e : Env) : dC d e = .ok (.fz d) e := (rfl)
def varR (i : Nat) (e : Env) : Option (Option SV) → R RV
  | some (some (.fz d)) => .ok (.fz d) e
  | some (some _) => .ok (.var i) e
  | _ => .st
@[simp] theorem ev_var (i : Nat) (l : List (Option SV)) (p : List Nat) : dVar i ⟨l, p⟩ = varR i ⟨l, p⟩ l[i]? := (rfl)
@[simp] theorem varR_fz (i : Nat) (e : Env) (d : D) : varR i e (some (some (.fz d))) = .ok (.fz d) e := (rfl)
@[simp] theorem varR_ol (i : Nat) (e : Env) (xs : List SV) : varR i e (some (some (.ol xs))) = .ok (.var i) e := (rfl)
@[simp] theorem ev_nil (e : Env) : dNil e = .ok [] e := (rfl)
@[simp] theorem ev_next (e : Env) : dNext e = .ok .nx e := (rfl)
@[simp] theorem ev_yes (e : Env) : dYes e = .ok true e := (rfl)
@[simp] theorem ev_cons (a : M RV) (b : M (List RV)) (e : Env) : dCons a b e = (a e).bind fun r e => (b e).bind fun rs e => .ok (r :: rs) e := (rfl)
@[simp] theorem view_fz (e : Env) (d : D) : view e (.fz d) = some d := (rfl)
@[simp] theorem view_own (e : Env) (s : SV) : view e (.own s) = some s.toD := (rfl)
@[simp] theorem view_var (i : Nat) (l : List (Option SV)) (p : List Nat) : view ⟨l, p⟩ (.var i) = (match l[i]? with
  | some (some s) => some s.toD
  | _ => none) := (rfl)
@[simp] theorem setS_mk (i : Nat) (l : List (Option SV)) (p : List Nat) (s : SV) : Env.setS ⟨l, p⟩ i s = ⟨l.set i (some s), p⟩ := (rfl)
@[simp] theorem clr_mk (i : Nat) (l : List (Option SV)) (p : List Nat) : Env.clr ⟨l, p⟩ i = ⟨l.set i none, p⟩ := (rfl)
def fzs (ds : List D) : List SV := ds.map .fz
def iDs (L : List Int) : List D := L.map .int
@[simp] theorem fzs_nil : fzs [] = [] := (rfl)
@[simp] theorem iDs_nil : iDs [] = [] := (rfl)
@[simp] theorem fzs_len (ds : List D) : (fzs ds).length = ds.length := by simp [fzs]
@[simp] theorem iDs_len (L : List Int) : (iDs L).length = L.length := by simp [iDs]
@[simp] theorem fzs_get (ds : List D) (i : Nat) : (fzs ds)[i]? = (ds[i]?).map .fz := by simp [fzs]
@[simp] theorem iDs_get (L : List Int) (i : Nat) : (iDs L)[i]? = (L[i]?).map .int := by simp [iDs]
@[simp] theorem fzs_snoc (ds : List D) (d : D) : fzs ds ++ [.fz d] = fzs (ds ++ [d]) := by simp [fzs]
@[simp] theorem iDs_snoc (L : List Int) (d : Int) : iDs L ++ [.int d] = iDs (L ++ [d]) := by simp [iDs]
@[simp] theorem fzs_set (ds : List D) (d : D) (i : Nat) : (fzs ds).set i (.fz d) = fzs (ds.set i d) := by simp [fzs, List.map_set]
@[simp] theorem iDs_set (L : List Int) (d : Int) (i : Nat) : (iDs L).set i (.int d) = iDs (L.set i d) := by simp [iDs, List.map_set]
@[simp] theorem fzs_erase (ds : List D) (i : Nat) : (fzs ds).eraseIdx i = fzs (ds.eraseIdx i) := (map_erase _ _ _).symm
@[simp] theorem iDs_erase (L : List Int) (i : Nat) : (iDs L).eraseIdx i = iDs (L.eraseIdx i) := (map_erase _ _ _).symm
@[simp] theorem intsOf_iDs (L : List Int) : intsOf (iDs L) = some L := intsOf_map L
@[simp] theorem toDs_map (ds : List D) : SV.toDs (fzs ds) = ds := by
  unfold fzs
  induction ds with
  | nil => rfl
  | cons d ds ih => show d :: SV.toDs (ds.map .fz) = _; rw [ih]
@[simp] theorem toD_fz (d : D) : SV.toD (.fz d) = d := (rfl)
@[simp] theorem toD_ol (ds : List D) : SV.toD (.ol (fzs ds)) = .lst ds := by show D.lst _ = _; rw [toDs_map]
@[simp] theorem toD_cons (x : SV) (xs : List SV) : SV.toD (.ol (x :: xs)) = .lst (x.toD :: SV.toDs xs) := (rfl)
@[simp] theorem toDs_cons (x : SV) (xs : List SV) : SV.toDs (x :: xs) = x.toD :: SV.toDs xs := (rfl)
@[simp] theorem toDs_nil : SV.toDs [] = [] := (rfl)
@[simp] theorem toD_nil : SV.toD (.ol []) = .lst [] := (rfl)
@[simp] theorem frz_fz (d : D) (e : Env) : frzR (.fz d) e = some (d, e) := (rfl)
@[simp] theorem frz_own (s : SV) (e : Env) : frzR (.own s) e = some (s.toD, e) := (rfl)
@[simp] theorem frz_var (i : Nat) (l : List (Option SV)) (p : List Nat) : frzR (.var i) ⟨l, p⟩ = (match l[i]? with
  | some (some s) => some (s.toD, ⟨l.set i (some (.fz s.toD)), p⟩)
  | _ => none) := (rfl)
@[simp] theorem frzs_nil (e : Env) : frzRs [] e = some ([], e) := (rfl)
@[simp] theorem frzs_cons (r : RV) (rs : List RV) (e : Env) : frzRs (r :: rs) e = (match frzR r e with
    | some (d, e1) => (match frzRs rs e1 with
      | some (ds, e2) => some (d :: ds, e2)
      | none => none)
    | none => none) := (rfl)
@[simp] theorem ev_op (f : D → D → Option D) (a b : M RV) (e : Env) : dOp f a b e = (a e).bind fun r e => (b e).bind fun q e => match view e r, view e q with
  | some x, some y => (match f x y with
    | some d => .ok (.fz d) e
    | none => .st)
  | _, _ => .st := (rfl)
@[simp] theorem ev_cb (f : List D → Option D) (a : M (List RV)) (e : Env) : dCB f a e = (a e).bind fun rs e => match rs.mapM (view e) with
  | some xs => (match f xs with
    | some d => .ok (.fz d) e
    | none => .st)
  | none => .st := (rfl)
@[simp] theorem ev_t (a : M RV) (e : Env) : dT a e = (a e).bind fun r e => match view e r with
  | some (.bl b) => .ok b e
  | _ => .st := (rfl)
@[simp] theorem ev_tru (a : M RV) (e : Env) : dTru a e = (a e).bind fun r e => match (view e r).bind truD with
  | some b => .ok b e
  | none => .st := (rfl)
@[simp] theorem ev_and (a b : M Bool) (e : Env) : dAnd a b e = (a e).bind fun c e => match c with
  | true => b e
  | false => .ok false e := by unfold dAnd M.bind; cases a e <;> (try rfl); rename_i c e; cases c <;> rfl
@[simp] theorem ev_or (a b : M Bool) (e : Env) : dOr a b e = (a e).bind fun c e => match c with
  | true => .ok true e
  | false => b e := by unfold dOr M.bind; cases a e <;> (try rfl); rename_i c e; cases c <;> rfl
@[simp] theorem ev_not (a : M Bool) (e : Env) : dNot a e = (a e).bind fun c e => .ok (!c) e := (rfl)
@[simp] theorem ev_if (c : M Bool) (a b : M Fl) (e : Env) : dIf c a b e = (c e).bind fun k e => match k with
  | true => a e
  | false => b e := by unfold dIf M.bind; cases c e <;> (try rfl); rename_i c e; cases c <;> rfl
@[simp] theorem ev_seq (a b : M Fl) (e : Env) : dSeq a b e = (a e).bind fun f e => match f with
  | .nx => b e
  | f => .ok f e := by unfold dSeq M.bind; cases a e <;> (try rfl); rename_i c e; cases c <;> rfl
@[simp] theorem ev_ret (a : M RV) (e : Env) : dRet a e = (a e).bind fun r e => .ok (.rt r) e := (rfl)
@[simp] theorem ev_drop (a : M RV) (e : Env) : dDrop a e = (a e).bind fun _ e => .ok .nx e := (rfl)
@[simp] theorem ev_set (i : Nat) (a : M RV) (e : Env) : dSet i a e = (a e).bind fun r e => match putR i r e with
  | some e' => .ok .nx e'
  | none => .st := (rfl)
@[simp] theorem put_fz (i : Nat) (d : D) (l : List (Option SV)) (p : List Nat) : putR i (.fz d) ⟨l, p⟩ = if i ∈ p then none else some ⟨l.set i (some (.fz d)), p⟩ := (rfl)
@[simp] theorem put_own (i : Nat) (s : SV) (l : List (Option SV)) (p : List Nat) : putR i (.own s) ⟨l, p⟩ = if i ∈ p then none else some ⟨l.set i (some s), p⟩ := (rfl)
@[simp] theorem put_var (i j : Nat) (l : List (Option SV)) (p : List Nat) : putR i (.var j) ⟨l, p⟩ = if i ∈ p then none else (match l[j]? with
    | some (some s) => some ⟨(l.set j (some (.fz s.toD))).set i (some (.fz s.toD)), p⟩
    | _ => none) := (rfl)
@[simp] theorem ev_ix (a b : M RV) (e : Env) : dIx a b e = (a e).bind fun r e => (b e).bind fun q e => match view e q with
  | some (.int i) => (match itemR e r i with
    | some d => .ok (.fz d) e
    | none => .st)
  | _ => .st := (rfl)
@[simp] theorem item_fz (e : Env) (d : D) (i : Int) : itemR e (.fz d) i = itemD d i := (rfl)
@[simp] theorem item_own (e : Env) (s : SV) (i : Int) : itemR e (.own s) i = itemS s i := (rfl)
@[simp] theorem item_var (j : Nat) (i : Int) (l : List (Option SV)) (p : List Nat) : itemR ⟨l, p⟩ (.var j) i = (match l[j]? with
    | some (some s) => itemS s i
    | _ => none) := (rfl)
@[simp] theorem itemS_fz (d : D) (i : Int) : itemS (.fz d) i = itemD d i := (rfl)
@[simp] theorem itemS_ol (xs : List SV) (i : Int) : itemS (.ol xs) i = kid xs i := (rfl)
@[simp] theorem itemD_lst (ds : List D) (i : Int) : itemD (.lst ds) i = atI ds i := (rfl)
@[simp] theorem itemD_tup (ds : List D) (i : Int) : itemD (.tup ds) i = atI ds i := (rfl)
@[simp] theorem kid_map (ds : List D) (i : Int) : kid (fzs ds) i = atI ds i := by
  unfold kid fzs
  rw [atI_map]
  cases atI ds i <;> rfl
@[simp] theorem fI_int (g : Int → Int → Int) (i j : Int) : fI g (.int i) (.int j) = some (.int (g i j)) := (rfl)
@[simp] theorem fB_int (g : Int → Int → Bool) (i j : Int) : fB g (.int i) (.int j) = some (.bl (g i j)) := (rfl)
@[simp] theorem fMul_int (i j : Int) : fMul (.int i) (.int j) = if (inB i 64 || inB j 64) = true then some (.int (i * j)) else none := (rfl)
@[simp] theorem fMod_int (i j : Int) : fMod (.int i) (.int j) = if 0 < j then some (.int (i % j)) else none := (rfl)
@[simp] theorem fDiv_int (i j : Int) : fDiv (.int i) (.int j) = if 0 < j ∧ j < 1073741824 then some (.int (i / j)) else none := (rfl)
@[simp] theorem lenD_lst (ds : List D) : lenD [.lst ds] = some (.int (ds.length : Nat)) := (rfl)
@[simp] theorem lenD_scr (ds : List Int) : lenD [.scr ds] = some (.int (ds.length : Nat)) := (rfl)
@[simp] theorem intD_int (i : Int) : intD [.int i] = some (.int i) := (rfl)
@[simp] theorem ev_setIx (j : Nat) (b a : M RV) (e : Env) : dSetIx j b a e = (a e).bind fun r e0 => match e0.sl[j]? with
  | some (some (.ol _)) => (b e0).bind fun q e => match view e q with
    | some (.int k) => (match frzR r e with
      | some (d, e1) => (match e1.sl[j]? with
        | some (some (.ol xs)) => (match ixN xs.length k with
          | some n => .ok .nx (e1.setS j (.ol (xs.set n (.fz d))))
          | none => .st)
        | _ => .st)
      | none => .st)
    | _ => .st
  | _ => .st := (rfl)
@[simp] theorem ev_app (i : Nat) (a : M RV) (e0 : Env) : dApp i a e0 = match e0.sl[i]? with
  | some (some (.ol _)) => (a e0).bind fun r e => match frzR r e with
    | some (d, e1) => (match e1.sl[i]? with
      | some (some (.ol xs)) => if xs.length < sizeLine then .ok (.fz .non) (e1.setS i (.ol (xs ++ [.fz d]))) else .st
      | _ => .st)
    | none => .st
  | _ => .st := (rfl)
theorem run_fn0 {md : List Bool} {n : Nat} {m : M Fl} {ss ss' : List SV} {f : Fl} {e e1 : Env} {r : SV} (ha : okArgs md ss = true) (h : m (env0 md n ss) = .ok f e) (hr : resOf f e = some (r, e1)) (ho : outs 0 md ss e1 = some ss') : mkFn0 md n m ss = .ok r ss' := by
  unfold mkFn0 mkFn
  rw [if_pos ha, h]
  simp only [hr, ho]
@[simp] theorem atI_nonneg {α : Type} (xs : List α) (i : Int) (h : 0 ≤ i) : atI xs i = xs[i.toNat]? := by
  unfold atI ixN
  rw [if_pos h]
  by_cases h2 : i < xs.length
  · rw [if_pos h2]; rfl
  · rw [if_neg h2]
    exact (List.getElem?_eq_none (by omega)).symm
@[simp] theorem ixN_ok {n : Nat} {k : Int} (h0 : 0 ≤ k) (h1 : k < n) : ixN n k = some k.toNat := by
  unfold ixN
  rw [if_pos h0, if_pos h1]
def fzOf : Option SV → Option D
  | some (.fz d) => some d
  | _ => none
@[simp] theorem fzOf_fz (d : D) : fzOf (some (.fz d)) = some d := (rfl)
@[simp] theorem fzOf_none : fzOf none = none := (rfl)
theorem kid_at (xs : List SV) (i : Int) : kid xs i = fzOf (atI xs i) := by
  unfold kid
  cases atI xs i with
  | none => rfl
  | some s => cases s <;> rfl
@[simp] theorem kid_cons (x : SV) (xs : List SV) (i : Int) (h : 0 ≤ i) : kid (x :: xs) i = fzOf (x :: xs)[i.toNat]? := by rw [kid_at, atI_nonneg _ _ h]
@[simp] theorem out_nil (i : Nat) (e : Env) : outs i [] [] e = some [] := (rfl)
@[simp] theorem out_false (i : Nat) (l : List Bool) (s : SV) (ss : List SV) (e : Env) : outs i (false :: l) (s :: ss) e = (match outs (i + 1) l ss e with
    | some r => some (s :: r)
    | none => none) := (rfl)
@[simp] theorem out_true (i : Nat) (l : List Bool) (s : SV) (ss : List SV) (l2 : List (Option SV)) (p : List Nat) : outs i (true :: l) (s :: ss) ⟨l2, p⟩ = (match l2[i]? with
    | some (some s) => (match outs (i + 1) l ss ⟨l2.set i none, p⟩ with
      | some r => some (s :: r)
      | none => none)
    | _ => none) := (rfl)
@[simp] theorem res_fz (d : D) (e : Env) : resOf (.rt (.fz d)) e = some (.fz d, e) := (rfl)
@[simp] theorem res_nx (e : Env) : resOf .nx e = some (.fz .non, e) := (rfl)
@[simp] theorem res_own (s : SV) (e : Env) : resOf (.rt (.own s)) e = some (s, e) := (rfl)
@[simp] theorem res_var (i : Nat) (l : List (Option SV)) (p : List Nat) : resOf (.rt (.var i)) ⟨l, p⟩ = (match l[i]? with
    | some (some s) => if i ∈ p then some (.fz s.toD, ⟨l.set i (some (.fz s.toD)), p⟩) else some (s, ⟨l.set i none, p⟩)
    | _ => none) := (rfl)
def d__law_draw : M Fl := (dSeq (dSet 2 (dIx (dVar 0) (dC (.int 1))))
  (dSeq (dSetIx 0 (dC (.int 1)) (dOp (fI (· + ·)) (dVar 2) (dC (.int 1))))
  (dSeq (dIf (dT (dOp (fB fun i j => decide (i < j)) (dVar 2) (dCB lenD (dCons (dIx (dVar 0) (dC (.int 0))) dNil)))) (dRet (dOp fMod (dCB intD (dCons (dIx (dIx (dVar 0) (dC (.int 0))) (dVar 2)) dNil)) (dVar 1))) dNext)
  (dRet (dC (.int 0))))))
def drawV (ds : List Int) (at_ : Nat) (many : Int) : Int := match ds[at_]? with
  | some d => d % many
  | none => 0
def box (ds : List Int) (at_ : Nat) : SV := .ol [.fz (.lst (iDs ds)), .fz (.int at_)]
theorem draw_ok (ds : List Int) (at_ : Nat) (many : Int) (hm : 0 < many) : mkFn0 [true, false] 3 d__law_draw [box ds at_, .fz (.int many)] = .ok (.fz (.int (drawV ds at_ many))) [box ds (at_ + 1), .fz (.int many)] := by
  cases h : ds[at_]? with
  | some d =>
    have h1 : (at_ : Int) < ds.length := by have := (List.getElem?_eq_some_iff.mp h).1; omega
    simp [mkFn0, mkFn, okArgs, env0, pinIx, d__law_draw, box, List.replicate, h, h1, hm, drawV]
  | none =>
    have h1 : ¬ (at_ : Int) < ds.length := by have := List.getElem?_eq_none_iff.mp h; omega
    simp [mkFn0, mkFn, okArgs, env0, pinIx, d__law_draw, box, List.replicate, h, h1, hm, drawV]
end VF
set_option maxRecDepth 100000
set_option maxHeartbeats 4000000
namespace VF
set_option autoImplicit false
open PySem L2
theorem loopF_inv {g : Tg} {body : M Fl} (P : Nat → Env → Prop) : ∀ (ds : List D) (k : Nat) (e : Env), P k e → (∀ (i : Nat) d e, ds[i]? = some d → P (k + i) e → ∃ e1 e2, g d e = some e1 ∧ (body e1 = .ok .nx e2 ∨ body e1 = .ok .ct e2) ∧ P (k + i + 1) e2) → ∃ e', loopF g body ds e = .ok .nx e' ∧ P (k + ds.length) e'
  | [], k, e, h0, _ => ⟨e, rfl, h0⟩
  | d :: ds, k, e, h0, hs => by
    obtain ⟨e1, e2, h1, h2, h3⟩ := hs 0 d e rfl h0
    obtain ⟨e', h4, h5⟩ := loopF_inv P ds (k + 1) e2 h3 fun i d' e' hd hp => by
      have := hs (i + 1) d' e' (by simpa using hd) (by rw [show k + (i + 1) = k + 1 + i by omega]; exact hp)
      rw [show k + (i + 1) + 1 = k + 1 + i + 1 by omega] at this
      exact this
    refine ⟨e', ?_, by rw [List.length_cons, show k + (ds.length + 1) = k + 1 + ds.length by omega]; exact h5⟩
    show (match g d e with
      | none => R.st
      | some e1 => (match body e1 with
        | .ok .nx e2 => loopF g body ds e2
        | .ok .ct e2 => loopF g body ds e2
        | .ok .bk e2 => .ok .nx e2
        | .ok (.rt r) e2 => .ok (.rt r) e2
        | .ex x e2 => .ex x e2
        | .st => .st)) = _
    rw [h1]
    rcases h2 with h2 | h2 <;> (simp only [h2]; exact h4)
theorem loopF_inv0 {g : Tg} {body : M Fl} (P : Nat → Env → Prop) (ds : List D) (e : Env) (h0 : P 0 e) (hs : ∀ (i : Nat) d e, ds[i]? = some d → P i e → ∃ e1 e2, g d e = some e1 ∧ (body e1 = .ok .nx e2 ∨ body e1 = .ok .ct e2) ∧ P (i + 1) e2) : ∃ e', loopF g body ds e = .ok .nx e' ∧ P ds.length e' := by
  have := loopF_inv (g := g) (body := body) P ds 0 e h0 fun i d e hd hp => by
    rw [Nat.zero_add] at hp ⊢
    exact hs i d e hd hp
  rwa [Nat.zero_add] at this
@[simp] theorem ev_it (a : M RV) (e : Env) : dIt a e = (a e).bind fun r e => match frzR r e with
  | some (d, e1) => (match walk d with
    | some ds => .ok ds e1
    | none => .st)
  | none => .st := (rfl)
@[simp] theorem walk_lst (ds : List D) : walk (.lst ds) = some ds := (rfl)
@[simp] theorem ev_rng1 (a : M (List RV)) (e : Env) : dRng1 a e = (a e).bind fun rs e => match rs.mapM (view e) with
  | some ds => (match oneI ds with
    | some j => if small62 j = true then .ok (rngD 0 j.toNat) e else .st
    | none => .st)
  | none => .st := (rfl)
@[simp] theorem ev_rng2 (a : M (List RV)) (e : Env) : dRng2 a e = (a e).bind fun rs e => match rs.mapM (view e) with
  | some ds => (match twoI ds with
    | some (i, j) => if (small62 i && small62 j) = true then .ok (rngD i (j - i).toNat) e else .st
    | none => .st)
  | none => .st := (rfl)
@[simp] theorem oneI_int (i : Int) : oneI [.int i] = some i := (rfl)
@[simp] theorem twoI_int (i j : Int) : twoI [.int i, .int j] = some (i, j) := (rfl)
@[simp] theorem small62_def (i : Int) : small62 i = decide (-(2 ^ 62) ≤ i ∧ i < 2 ^ 62) := (rfl)
@[simp] theorem inB_def (i : Int) (k : Nat) : inB i k = decide (-(2 ^ k) < i ∧ i < 2 ^ k) := (rfl)
@[simp] theorem gN_def (i : Nat) (d : D) (e : Env) : gN i d e = putR i (.fz d) e := (rfl)
@[simp] theorem ev_for (it : M (List D)) (g : Tg) (body : M Fl) (e : Env) : dFor it g body e = (it e).bind fun ds => loopF g body ds := (rfl)
@[simp] theorem ev_call (md : List Bool) (φ : Fn) (a : M (List RV)) (e : Env) : dCall md φ a e = (a e).bind fun rs e => match load md rs e with
  | some (ss, e1) => (match φ ss with
    | .st => .st
    | .ok r ss' => (match unload md rs ss' e1 with
      | some e2 => .ok (svR r) e2
      | none => .st)
    | .ex x ss' => (match unload md rs ss' e1 with
      | some e2 => .ex x e2
      | none => .st))
  | none => .st := (rfl)
@[simp] theorem ld_nil (e : Env) : load [] [] e = some ([], e) := (rfl)
@[simp] theorem ld_false (md : List Bool) (r : RV) (rs : List RV) (e : Env) : load (false :: md) (r :: rs) e = (match (match frzR r e with
    | some (d, e1) => some (SV.fz d, e1)
    | none => none) with
    | some (s, e1) => (match load md rs e1 with
      | some (ss, e2) => some (s :: ss, e2)
      | none => none)
    | none => none) := (rfl)
@[simp] theorem ld_true (md : List Bool) (i : Nat) (rs : List RV) (l : List (Option SV)) (p : List Nat) : load (true :: md) (.var i :: rs) ⟨l, p⟩ = (match (match l[i]? with
      | some (some s) => some (s, (⟨l.set i none, p⟩ : Env))
      | _ => none) with
    | some (s, e1) => (match load md rs e1 with
      | some (ss, e2) => some (s :: ss, e2)
      | none => none)
    | none => none) := (rfl)
@[simp] theorem ul_nil (e : Env) : unload [] [] [] e = some e := (rfl)
@[simp] theorem ul_false (md : List Bool) (r : RV) (rs : List RV) (s : SV) (ss : List SV) (e : Env) : unload (false :: md) (r :: rs) (s :: ss) e = unload md rs ss e := by cases r <;> rfl
@[simp] theorem ul_true (md : List Bool) (i : Nat) (rs : List RV) (s : SV) (ss : List SV) (e : Env) : unload (true :: md) (.var i :: rs) (s :: ss) e = if isClr e i = true then unload md rs ss (e.setS i s) else none := (rfl)
@[simp] theorem isClr_mk (l : List (Option SV)) (p : List Nat) (i : Nat) : isClr ⟨l, p⟩ i = (match l[i]? with
  | some none => true
  | _ => false) := (rfl)
@[simp] theorem svR_fz (d : D) : svR (.fz d) = .fz d := (rfl)
@[simp] theorem svR_ol (xs : List SV) : svR (.ol xs) = .own (.ol xs) := (rfl)
@[simp] theorem ev_callB (n : Nat) (φ : Fn) (a : M (List RV)) (e : Env) : dCallB n φ a e = (a e).bind fun rs e => match rs.mapM (view e) with
  | some ds => if ds.length = n then (match φ (ds.map .fz) with
    | .ok r _ => (match immS r with
      | some d => .ok (.fz d) e
      | none => .st)
    | .ex x _ => .ex x e
    | .st => .st) else .st
  | none => .st := (rfl)
@[simp] theorem immS_int (i : Int) : immS (.fz (.int i)) = some (.int i) := (rfl)
@[simp] theorem immS_bl (i : Bool) : immS (.fz (.bl i)) = some (.bl i) := (rfl)
@[simp] theorem immS_non : immS (.fz .non) = some .non := (rfl)
@[simp] theorem immS_str (s : Str) : immS (.fz (.str s)) = some (.str s) := (rfl)
@[simp] theorem ev_lst (a : M (List RV)) (e : Env) : dLst a e = (a e).bind fun rs e => match frzRs rs e with
  | some (ds, e') => if ds.length ≤ sizeLine then .ok (.own (.ol (fzs ds))) e' else .st
  | none => .st := (rfl)
@[simp] theorem size_pos : 0 ≤ sizeLine := Nat.zero_le _
theorem size_ge {n : Nat} (h : n ≤ 16777216) : n ≤ sizeLine := by rw [sizeLine_eq]; exact h
theorem size_gt {n : Nat} (h : n < 16777216) : n < sizeLine := by rw [sizeLine_eq]; exact h
def e18 : Int := 1000000000000000000
@[simp] theorem fPow_18 : fPow (.int 10) (.int 18) = some (.int e18) := by
  unfold fPow
  simp only
  rw [if_pos ⟨by decide, by decide, by decide⟩]
  rfl
@[simp] theorem blOf_bl (b : Bool) : blOf (.bl b) = some b := (rfl)
@[simp] theorem ev_chain (f g : D → D → Option D) (a b c : M RV) (e : Env) : dChain f g a b c e = (a e).bind fun r e => (b e).bind fun q e => match view e r, view e q with
  | some x, some y => (match (f x y).bind blOf with
    | some true => (c e).bind fun p e => (match view e q, view e p with
      | some y, some z => (match g y z with
        | some d => .ok (.fz d) e
        | none => .st)
      | _, _ => .st)
    | some false => .ok (.fz (.bl false)) e
    | none => .st)
  | _, _ => .st := (rfl)
def d__law_cell : M Fl := (dSeq (dIf (dT (dOp (fB fun i j => decide (i < j)) (dVar 1) (dCB lenD (dCons (dVar 0) dNil)))) (dRet (dIx (dVar 0) (dVar 1))) dNext)
  (dRet (dC (.int 0))))
def φ__law_cell : Fn := mkFn0 [false, false] 2 d__law_cell
@[simp] theorem itemD_scr (ns : List Int) (i : Int) : itemD (.scr ns) i = (atI ns i).map .int := (rfl)
theorem cell_ok (ns : List Int) (k : Nat) : ∃ c : Int, φ__law_cell [.fz (.scr ns), .fz (.int k)] = .ok (.fz (.int c)) [.fz (.scr ns), .fz (.int k)] := by
  cases h : ns[k]? with
  | some d =>
    have h1 : (k : Int) < ns.length := by have := (List.getElem?_eq_some_iff.mp h).1; omega
    exact ⟨d, by simp [φ__law_cell, mkFn0, mkFn, okArgs, env0, pinIx, d__law_cell, h, h1]⟩
  | none =>
    have h1 : ¬ (k : Int) < ns.length := by have := List.getElem?_eq_none_iff.mp h; omega
    exact ⟨0, by simp [φ__law_cell, mkFn0, mkFn, okArgs, env0, pinIx, d__law_cell, h, h1]⟩
theorem rng_at {lo : Int} {n i : Nat} {d : D} (h : (rngD lo n)[i]? = some d) : i < n ∧ d = .int (lo + i) := by
  unfold rngD at h
  rw [List.getElem?_map] at h
  cases q : (List.range n)[i]? with
  | none => rw [q] at h; cases h
  | some j =>
    rw [q] at h
    cases h
    have hlt : i < n := by simpa using (List.getElem?_eq_some_iff.mp q).1
    rw [List.getElem?_range hlt] at q
    cases q
    exact ⟨hlt, rfl⟩
@[simp] theorem rng_len (lo : Int) (n : Nat) : (rngD lo n).length = n := by simp [rngD]
def DgP (ns : List Int) (b : Nat) (e : Env) : Prop := ∃ (L : List Int) (v4 v5 v6 v7 : Option SV), L.length ≤ b ∧ e = ⟨[some (.fz (.scr ns)), some (.fz (.int 0)), some (.fz (.int 63)), some (.ol (fzs (iDs L))), v4, v5, v6, v7], []⟩
def dg1 : M Fl := dIf (dT (dOp (fB fun i j => decide (j < i)) (dVar 5) (dC (.int 0)))) (dSeq (dDrop (dApp 3 (dOp fMod (dCB intD (dCons (dVar 5) dNil)) (dC (.int 1000)))))
  (dSet 5 (dOp fDiv (dVar 5) (dC (.int 1000))))) dNext
def dg2 : M Fl := dSeq (dSet 7 (dOp fMod (dCB intD (dCons (dOp (fI (· + ·)) (dOp (fI (· + ·)) (dOp fMul (dVar 7) (dC (.int 16807))) (dOp fMul (dC (.int 7)) (dVar 6))) (dC (.int 1))) dNil)) (dC (.int 2147483647))))
  (dDrop (dApp 3 (dOp fMod (dCB intD (dCons (dOp fDiv (dVar 7) (dC (.int 997))) dNil)) (dC (.int 1000)))))
theorem dg2_ok (ns : List Int) (b : Nat) (hb : b ≤ 10000) (L : List Int) (c : Int) (v4 v5 v6 : Option SV) (hL : L.length ≤ b) : ∃ e', loopF (gN 6) dg2 (rngD 0 12) ⟨[some (.fz (.scr ns)), some (.fz (.int 0)), some (.fz (.int 63)), some (.ol (fzs (iDs L))), v4, v5, v6, some (.fz (.int c))], []⟩ = .ok .nx e' ∧ DgP ns (b + 60) e' := by
  have h := loopF_inv0 (g := gN 6) (body := dg2) (fun i e => ∃ (L : List Int) (c : Int) (v6 : Option SV), L.length ≤ b + i ∧ e = ⟨[some (.fz (.scr ns)), some (.fz (.int 0)), some (.fz (.int 63)), some (.ol (fzs (iDs L))), v4, v5, v6, some (.fz (.int c))], []⟩) (rngD 0 12) _ ⟨L, c, v6, hL, rfl⟩ (by
    rintro i d e hd ⟨L, c, v6, hL, rfl⟩
    obtain ⟨hi, rfl⟩ := rng_at hd
    have hz : L.length < sizeLine := size_gt (by omega)
    refine ⟨_, ⟨[some (.fz (.scr ns)), some (.fz (.int 0)), some (.fz (.int 63)), some (.ol (fzs (iDs (L ++ [((c * 16807 + 7 * (0 + (i : Nat)) + 1) % 2147483647) / 997 % 1000])))), v4, v5, some (.fz (.int (0 + (i : Nat)))), some (.fz (.int ((c * 16807 + 7 * (0 + (i : Nat)) + 1) % 2147483647)))], []⟩, rfl, .inl ?_, _, _, _, ?_, rfl⟩
    · simp [dg2, hz]
    · simp; omega)
  obtain ⟨e', h1, L', c', v6', h2, rfl⟩ := h
  exact ⟨_, h1, L', v4, v5, v6', _, by rw [rng_len] at h2; omega, rfl⟩
def dgT : M Fl := dIf (dT (dOp (fB fun i j => decide (j ≤ i)) (dVar 5) (dOp fPow (dC (.int 10)) (dC (.int 18))))) (dFor (dRng1 (dCons (dC (.int 60)) dNil)) (gN 6) dg1) (dSeq (dSet 7 (dOp fMod (dCB intD (dCons (dOp (fI (· + ·)) (dOp (fI (· + ·)) (dOp fMul (dVar 5) (dC (.int 48271))) (dOp fMul (dVar 4) (dC (.int 69621)))) (dC (.int 11))) dNil)) (dC (.int 2147483647))))
      (dFor (dRng1 (dCons (dC (.int 12)) dNil)) (gN 6) dg2))
def dgS : M Fl := dSet 7 (dOp fMod (dCB intD (dCons (dOp (fI (· + ·)) (dOp (fI (· + ·)) (dOp fMul (dVar 5) (dC (.int 48271))) (dOp fMul (dVar 4) (dC (.int 69621)))) (dC (.int 11))) dNil)) (dC (.int 2147483647)))
theorem dgS_ok (x1 x2 x3 x4 v6 v7 : Option SV) (c i : Int) : ∃ s : Int, dgS ⟨[x1, x2, x3, x4, some (.fz (.int i)), some (.fz (.int c)), v6, v7], []⟩ = .ok .nx ⟨[x1, x2, x3, x4, some (.fz (.int i)), some (.fz (.int c)), v6, some (.fz (.int s))], []⟩ := by
  refine ⟨(c * 48271 + i * 69621 + 11) % 2147483647, ?_⟩
  simp [dgS]
theorem t6 (ns : List Int) (b i : Nat) (hb : b ≤ 10000) (L : List Int) (v6 v7 : Option SV) (hL : L.length ≤ b) (c : Int) (hx : ¬ e18 ≤ c) : ∃ e', dgT ⟨[some (.fz (.scr ns)), some (.fz (.int 0)), some (.fz (.int 63)), some (.ol (fzs (iDs L))), some (.fz (.int i)), some (.fz (.int c)), v6, v7], []⟩ = .ok .nx e' ∧ DgP ns (b + 60) e' := by
  obtain ⟨s, hs⟩ := dgS_ok (some (.fz (.scr ns))) (some (.fz (.int 0))) (some (.fz (.int 63))) (some (.ol (fzs (iDs L)))) v6 v7 c i
  obtain ⟨e', h1, h2⟩ := dg2_ok ns b hb L s (some (.fz (.int i))) (some (.fz (.int c))) v6 hL
  refine ⟨e', ?_, h2⟩
  unfold dgS at hs
  unfold dgT
  rw [ev_if, ev_t, ev_op]
  simp [hx, hs, h1, -ev_set]
end VF
set_option maxRecDepth 100000
set_option maxHeartbeats 4000000
namespace VF
set_option autoImplicit false
open PySem L2
def plD : Nat → D → Bool
  | _, .non => true
  | _, .int _ => true
  | _, .str s => PyData.strOk s
  | n + 1, .lst ds => ds.all (plD n)
  | n + 1, .tup ds => ds.all (plD n)
  | _, _ => false
theorem pl_all {n : Nat} (ih : ∀ d, plD n d = true → ∃ p, toP d = some p ∧ p.canLay0 = true ∧ p.depth ≤ n) : ∀ ds : List D, ds.all (plD n) = true → ∃ ps, toPs ds = some ps ∧ PyData.canLayAll0 ps = true ∧ PyData.depthAll ps ≤ n
  | [], _ => ⟨[], rfl, rfl, by simp [PyData.depthAll]⟩
  | d :: ds, h => by
    rw [List.all_cons, Bool.and_eq_true] at h
    obtain ⟨p, h1, h2, h3⟩ := ih d h.1
    obtain ⟨ps, q1, q2, q3⟩ := pl_all ih ds h.2
    refine ⟨p :: ps, by unfold toPs; rw [h1, q1], by simp [PyData.canLayAll0, h2, q2], ?_⟩
    simp only [PyData.depthAll]
    omega
theorem pl_ok : ∀ (n : Nat) (d : D), plD n d = true → ∃ p, toP d = some p ∧ p.canLay0 = true ∧ p.depth ≤ n := by
  have base : ∀ (n : Nat) (s : Str), PyData.strOk s = true → ∃ p, toP (.str s) = some p ∧ p.canLay0 = true ∧ p.depth ≤ n := fun n s h => ⟨.str s, rfl, by simp [PyData.canLay0, h], by simp [PyData.depth]⟩
  intro n
  induction n with
  | zero =>
    intro d h
    cases d with
    | non => exact ⟨_, rfl, rfl, by simp [PyData.depth]⟩
    | int i => exact ⟨_, rfl, rfl, by simp [PyData.depth]⟩
    | str s => exact base _ s h
    | _ => cases h
  | succ n ih =>
    intro d h
    cases d with
    | non => exact ⟨_, rfl, rfl, by simp [PyData.depth]⟩
    | int i => exact ⟨_, rfl, rfl, by simp [PyData.depth]⟩
    | str s => exact base _ s h
    | lst ds =>
      obtain ⟨ps, h1, h2, h3⟩ := pl_all ih ds h
      exact ⟨.list ps, by show (toPs ds).map _ = _; rw [h1]; rfl, by simpa [PyData.canLay0] using h2, by simp only [PyData.depth]; omega⟩
    | tup ds =>
      obtain ⟨ps, h1, h2, h3⟩ := pl_all ih ds h
      exact ⟨.tuple ps, by show (toPs ds).map _ = _; rw [h1]; rfl, by simpa [PyData.canLay0] using h2, by simp only [PyData.depth]; omega⟩
    | _ => cases h
theorem pl_eqs {n m : Nat} (ih : ∀ a b p q, plD n a = true → plD m b = true → toP a = some p → toP b = some q → (PyData.eqv p q = true ↔ a = b)) : ∀ (as bs : List D) (ps qs : List PyData), as.all (plD n) = true → bs.all (plD m) = true → toPs as = some ps → toPs bs = some qs → (PyData.eqvAll ps qs = true ↔ as = bs)
  | [], [], ps, qs, _, _, q1, q2 => by cases q1; cases q2; simp [PyData.eqvAll]
  | [], b :: bs, ps, qs, _, hb, q1, q2 => by
    cases q1
    unfold toPs at q2
    split at q2
    · cases q2; simp [PyData.eqvAll]
    · cases q2
  | a :: as, [], ps, qs, ha, _, q1, q2 => by
    cases q2
    unfold toPs at q1
    split at q1
    · cases q1; simp [PyData.eqvAll]
    · cases q1
  | a :: as, b :: bs, ps, qs, ha, hb, q1, q2 => by
    rw [List.all_cons, Bool.and_eq_true] at ha hb
    unfold toPs at q1 q2
    split at q1
    · split at q2
      · rename_i p ps z1 z2 _ _ q qs z3 z4
        cases q1; cases q2
        simp only [PyData.eqvAll, Bool.and_eq_true, ih a b p q ha.1 hb.1 z1 z3, pl_eqs ih as bs ps qs ha.2 hb.2 z2 z4, List.cons.injEq]
      · cases q2
    · cases q1
theorem toP_lst (ds : List D) : toP (.lst ds) = (toPs ds).map .list := rfl
theorem toP_tup (ds : List D) : toP (.tup ds) = (toPs ds).map .tuple := rfl
theorem pl_eq : ∀ (n m : Nat) (a b : D) (p q : PyData), plD n a = true → plD m b = true → toP a = some p → toP b = some q → (PyData.eqv p q = true ↔ a = b) := by
  intro n
  induction n with
  | zero =>
    intro m a b p q ha hb ea eb
    cases a with
    | non => cases ea; cases b <;> first | (exfalso; revert hb; cases m <;> (intro hb; cases hb); done) | (cases eb; simp [PyData.eqv]; done) | (rw [toP_lst] at eb; cases z : toPs _ <;> rw [z] at eb <;> cases eb; simp [PyData.eqv]; done) | (rw [toP_tup] at eb; cases z : toPs _ <;> rw [z] at eb <;> cases eb; simp [PyData.eqv]; done)
    | int i => cases ea; cases b <;> first | (exfalso; revert hb; cases m <;> (intro hb; cases hb); done) | (cases eb; simp [PyData.eqv]; done) | (rw [toP_lst] at eb; cases z : toPs _ <;> rw [z] at eb <;> cases eb; simp [PyData.eqv]; done) | (rw [toP_tup] at eb; cases z : toPs _ <;> rw [z] at eb <;> cases eb; simp [PyData.eqv]; done)
    | str i => cases ea; cases b <;> first | (exfalso; revert hb; cases m <;> (intro hb; cases hb); done) | (cases eb; simp [PyData.eqv]; done) | (rw [toP_lst] at eb; cases z : toPs _ <;> rw [z] at eb <;> cases eb; simp [PyData.eqv]; done) | (rw [toP_tup] at eb; cases z : toPs _ <;> rw [z] at eb <;> cases eb; simp [PyData.eqv]; done)
    | _ => cases ha
  | succ n ih =>
    intro m a b p q ha hb ea eb
    cases a with
    | non => cases ea; cases b <;> first | (exfalso; revert hb; cases m <;> (intro hb; cases hb); done) | (cases eb; simp [PyData.eqv]; done) | (rw [toP_lst] at eb; cases z : toPs _ <;> rw [z] at eb <;> cases eb; simp [PyData.eqv]; done) | (rw [toP_tup] at eb; cases z : toPs _ <;> rw [z] at eb <;> cases eb; simp [PyData.eqv]; done)
    | int i => cases ea; cases b <;> first | (exfalso; revert hb; cases m <;> (intro hb; cases hb); done) | (cases eb; simp [PyData.eqv]; done) | (rw [toP_lst] at eb; cases z : toPs _ <;> rw [z] at eb <;> cases eb; simp [PyData.eqv]; done) | (rw [toP_tup] at eb; cases z : toPs _ <;> rw [z] at eb <;> cases eb; simp [PyData.eqv]; done)
    | str i => cases ea; cases b <;> first | (exfalso; revert hb; cases m <;> (intro hb; cases hb); done) | (cases eb; simp [PyData.eqv]; done) | (rw [toP_lst] at eb; cases z : toPs _ <;> rw [z] at eb <;> cases eb; simp [PyData.eqv]; done) | (rw [toP_tup] at eb; cases z : toPs _ <;> rw [z] at eb <;> cases eb; simp [PyData.eqv]; done)
    | lst as =>
      rw [toP_lst] at ea
      cases z1 : toPs as with
      | none => rw [z1] at ea; cases ea
      | some ps =>
        rw [z1] at ea; cases ea
        cases b with
        | lst bs =>
          rw [toP_lst] at eb
          cases z2 : toPs bs with
          | none => rw [z2] at eb; cases eb
          | some qs =>
            rw [z2] at eb; cases eb
            cases m with
            | zero => cases hb
            | succ m =>
              simp only [PyData.eqv, D.lst.injEq]
              exact pl_eqs (fun a b p q h1 h2 h3 h4 => ih m a b p q h1 h2 h3 h4) as bs ps qs ha hb z1 z2
        | tup bs => rw [toP_tup] at eb; cases z : toPs bs <;> rw [z] at eb <;> cases eb; simp [PyData.eqv]
        | _ => first | (exfalso; revert hb; cases m <;> (intro hb; cases hb); done) | (cases eb; simp [PyData.eqv]; done)
    | tup as =>
      rw [toP_tup] at ea
      cases z1 : toPs as with
      | none => rw [z1] at ea; cases ea
      | some ps =>
        rw [z1] at ea; cases ea
        cases b with
        | tup bs =>
          rw [toP_tup] at eb
          cases z2 : toPs bs with
          | none => rw [z2] at eb; cases eb
          | some qs =>
            rw [z2] at eb; cases eb
            cases m with
            | zero => cases hb
            | succ m =>
              simp only [PyData.eqv, D.tup.injEq]
              exact pl_eqs (fun a b p q h1 h2 h3 h4 => ih m a b p q h1 h2 h3 h4) as bs ps qs ha hb z1 z2
        | lst bs => rw [toP_lst] at eb; cases z : toPs bs <;> rw [z] at eb <;> cases eb; simp [PyData.eqv]
        | _ => first | (exfalso; revert hb; cases m <;> (intro hb; cases hb); done) | (cases eb; simp [PyData.eqv]; done)
    | _ => cases ha
theorem eqD_pl {a b : D} [Decidable (a = b)] (ha : plD 64 a = true) (hb : plD 64 b = true) : eqD a b = some (decide (a = b)) := by
  obtain ⟨p, h1, h2, h3⟩ := pl_ok 64 a ha
  obtain ⟨q, k1, k2, k3⟩ := pl_ok 64 b hb
  have e := pl_eq 64 64 a b p q ha hb h1 k1
  unfold eqD
  rw [h1, k1]
  simp only
  rw [if_pos (by simp [shp, PyData.plain_of_canLay0 _ h2, PyData.plain_of_canLay0 _ k2, h3, k3])]
  by_cases h : a = b
  · rw [e.mpr h, decide_eq_true h]
  · rw [decide_eq_false h]
    cases z : PyData.eqv p q with
    | true => exact absurd (e.mp z) h
    | false => rfl
theorem iDs_all (L : List Int) (n : Nat) : (iDs L).all (plD n) = true := by
  rw [List.all_eq_true]
  intro d hd
  obtain ⟨i, _, rfl⟩ := List.mem_map.mp hd
  cases n <;> rfl
theorem iDs_inj {a b : List Int} : iDs a = iDs b ↔ a = b := by
  constructor
  · intro h
    induction a generalizing b with
    | nil => cases b <;> simp_all [iDs]
    | cons x xs ih => cases b with
      | nil => simp [iDs] at h
      | cons y ys =>
        simp only [iDs, List.map_cons, List.cons.injEq, D.int.injEq] at h
        rw [h.1, ih h.2]
  · intro h; rw [h]
@[simp] theorem fEq_int (i j : Int) : fEq (.int i) (.int j) = some (.bl (decide (i = j))) := by
  have : Decidable (D.int i = D.int j) := if h : i = j then isTrue (by rw [h]) else isFalse (fun q => h (D.int.inj q))
  unfold fEq
  rw [eqD_pl rfl rfl]
  simp
@[simp] theorem fNe_int (i j : Int) : fNe (.int i) (.int j) = some (.bl (decide (i ≠ j))) := by
  have : Decidable (D.int i = D.int j) := if h : i = j then isTrue (by rw [h]) else isFalse (fun q => h (D.int.inj q))
  unfold fNe
  rw [eqD_pl rfl rfl]
  simp
@[simp] theorem fEq_iDs (a b : List Int) : fEq (.lst (iDs a)) (.lst (iDs b)) = some (.bl (decide (a = b))) := by
  have : Decidable (D.lst (iDs a) = D.lst (iDs b)) := if h : a = b then isTrue (by rw [h]) else isFalse (fun q => h (iDs_inj.mp (D.lst.inj q)))
  unfold fEq
  rw [eqD_pl (a := .lst (iDs a)) (b := .lst (iDs b)) (iDs_all a 63) (iDs_all b 63)]
  simp [iDs_inj]
@[simp] theorem fNe_iDs (a b : List Int) : fNe (.lst (iDs a)) (.lst (iDs b)) = some (.bl (decide (a ≠ b))) := by
  have : Decidable (D.lst (iDs a) = D.lst (iDs b)) := if h : a = b then isTrue (by rw [h]) else isFalse (fun q => h (iDs_inj.mp (D.lst.inj q)))
  unfold fNe
  rw [eqD_pl (a := .lst (iDs a)) (b := .lst (iDs b)) (iDs_all a 63) (iDs_all b 63)]
  simp [iDs_inj]
@[simp] theorem truD_bl (b : Bool) : truD (.bl b) = some b := (rfl)
@[simp] theorem truD_lst (ds : List D) : truD (.lst ds) = some !ds.isEmpty := (rfl)
@[simp] theorem truD_int (i : Int) : truD (.int i) = some (i != 0) := (rfl)
@[simp] theorem truD_non : truD .non = some false := (rfl)
@[simp] theorem iDs_emp (L : List Int) : (iDs L).isEmpty = L.isEmpty := by cases L <;> rfl
@[simp] theorem isi_int_int (i : Int) : isiD [.int i, .ty "int"] = some (.bl true) := (rfl)
theorem kit_ib : kitB "int" "bool" = some false := by decide +kernel
@[simp] theorem isi_int_bool (i : Int) : isiD [.int i, .ty "bool"] = some (.bl false) := by unfold isiD tyName; simp only [kit_ib]; rfl
@[simp] theorem isi_lst_lst (i : List D) : isiD [.lst i, .ty "list"] = some (.bl true) := (rfl)
@[simp] theorem ev_bl (a : M RV) (k : Bool → M RV) (e : Env) : dBl a k e = (a e).bind fun r e => match (view e r).bind blOf with
  | some b => k b e
  | none => .st := (rfl)
@[simp] theorem ev_andV (a b : M RV) (e : Env) : dAndV a b e = (a e).bind fun r e => match (view e r).bind blOf with
  | some true => b e
  | some false => .ok (.fz (.bl false)) e
  | none => .st := by
  show (a e).bind _ = _
  congr 1; funext r e; cases (view e r).bind blOf with
  | none => rfl
  | some b => cases b <;> rfl
@[simp] theorem ev_orV (a b : M RV) (e : Env) : dOrV a b e = (a e).bind fun r e => match (view e r).bind blOf with
  | some true => .ok (.fz (.bl true)) e
  | some false => b e
  | none => .st := by
  show (a e).bind _ = _
  congr 1; funext r e; cases (view e r).bind blOf with
  | none => rfl
  | some b => cases b <;> rfl
@[simp] theorem ev_notV (a : M RV) (e : Env) : dNotV a e = (a e).bind fun r e => match (view e r).bind blOf with
  | some b => .ok (.fz (.bl (!b))) e
  | none => .st := (rfl)
@[simp] theorem ev_ifE (c : M Bool) (a b : M RV) (e : Env) : dIfE c a b e = (c e).bind fun k e => match k with
  | true => a e
  | false => b e := by unfold dIfE M.bind; cases c e <;> (try rfl); rename_i c e; cases c <;> rfl
@[simp] theorem sumD_iDs (L : List Int) : sumD [.lst (iDs L)] = some (.int L.sum) := by unfold sumD; show (intsOf (iDs L)).map _ = _; simp
@[simp] theorem kidI_mk (l : List (Option SV)) (p : List Nat) (j : Nat) (k : Int) : kidI ⟨l, p⟩ j k = (match l[j]? with
  | some (some (.ol xs)) => (match kid xs k with
    | some (.int x) => some x
    | _ => none)
  | _ => none) := (rfl)
@[simp] theorem ev_augIx (j : Nat) (b : M RV) (f : Int → Int → Int) (a : M RV) (e0 : Env) : dAugIx j b f a e0 = (match e0.sl[j]? with
  | some (some (.ol _)) => (b e0).bind fun q e => match view e q with
    | some (.int k) => if 0 ≤ k then (match kidI e j k with
      | some x => (a e).bind fun r e1 => (match view e1 r with
        | some (.int y) => (match e1.sl[j]? with
          | some (some (.ol xs)) => (match ixN xs.length k with
            | some n => .ok .nx (e1.setS j (.ol (xs.set n (.fz (.int (f x y))))))
            | none => .st)
          | _ => .st)
        | _ => .st)
      | _ => .st) else .st
    | _ => .st
  | _ => .st) := (rfl)
def φ__law_draw : Fn := mkFn0 [true, false] 3 d__law_draw
@[simp] theorem draw_φ (ds : List Int) (at_ : Nat) (many : Int) (hm : 0 < many) : φ__law_draw [box ds at_, .fz (.int many)] = .ok (.fz (.int (drawV ds at_ many))) [box ds (at_ + 1), .fz (.int many)] := draw_ok ds at_ many hm
@[simp] theorem box_fold (ds : List Int) : SV.ol (fzs [.lst (iDs ds), .int 0]) = box ds 0 := (rfl)
@[simp] theorem varR_box (i : Nat) (e : Env) (ds : List Int) (k : Nat) : varR i e (some (some (box ds k))) = .ok (.var i) e := (rfl)
def d__law_is_int : M Fl := (dRet (dAndV (dCB isiD (dCons (dVar 0) (dCons (dC (.ty "int")) dNil))) (dNotV (dCB isiD (dCons (dVar 0) (dCons (dC (.ty "bool")) dNil))))))
def φ__law_is_int : Fn := mkFn0 [false] 1 d__law_is_int
@[simp] theorem isint_φ (i : Int) : φ__law_is_int [.fz (.int i)] = .ok (.fz (.bl true)) [.fz (.int i)] := by
  simp [φ__law_is_int, mkFn0, mkFn, okArgs, env0, pinIx, d__law_is_int, List.replicate]
end VF
set_option maxRecDepth 100000
set_option maxHeartbeats 4000000
namespace VF
set_option autoImplicit false
open PySem L2
inductive Res (α : Type) where
  | st | ok (a : α) | ex (x : Exc)
namespace Res
def bind {α β : Type} (p : Res α) (q : α → Res β) : Res β := match p with
  | .st => .st
  | .ok a => q a
  | .ex x => .ex x
@[simp] theorem bind_ok {α β : Type} (a : α) (q : α → Res β) : (Res.ok a).bind q = q a := (rfl)
@[simp] theorem bind_st {α β : Type} (q : α → Res β) : (Res.st : Res α).bind q = .st := (rfl)
@[simp] theorem bind_ex {α β : Type} (x : Exc) (q : α → Res β) : (Res.ex x : Res α).bind q = .ex x := (rfl)
@[simp] theorem bind_assoc {α β γ : Type} (p : Res α) (q : α → Res β) (r : β → Res γ) : (p.bind q).bind r = p.bind fun a => (q a).bind r := by cases p <;> rfl
end Res
class Enc (α : Type) where
  enc : α → D
open Enc (enc)
structure T3 (α β γ : Type) where
  a : α
  b : β
  c : γ
  deriving DecidableEq, Inhabited
structure T4 (α β γ δ : Type) where
  a : α
  b : β
  c : γ
  d : δ
  deriving DecidableEq, Inhabited
structure T5 (α β γ δ ε : Type) where
  a : α
  b : β
  c : γ
  d : δ
  e : ε
  deriving DecidableEq, Inhabited
structure Tup (α : Type) where
  l : List α
  deriving DecidableEq, Inhabited
section
variable {α β γ δ ε : Type}
instance : Enc Int := ⟨.int⟩
instance : Enc Bool := ⟨.bl⟩
instance : Enc Str := ⟨.str⟩
instance : Enc Unit := ⟨fun _ => .non⟩
instance [Enc α] : Enc (List α) := ⟨fun xs => .lst (xs.map enc)⟩
instance [Enc α] : Enc (Tup α) := ⟨fun xs => .tup (xs.l.map enc)⟩
instance [Enc α] [Enc β] : Enc (α × β) := ⟨fun p => .tup [enc p.1, enc p.2]⟩
instance [Enc α] [Enc β] [Enc γ] : Enc (T3 α β γ) := ⟨fun p => .tup [enc p.a, enc p.b, enc p.c]⟩
instance [Enc α] [Enc β] [Enc γ] [Enc δ] : Enc (T4 α β γ δ) := ⟨fun p => .tup [enc p.a, enc p.b, enc p.c, enc p.d]⟩
instance [Enc α] [Enc β] [Enc γ] [Enc δ] [Enc ε] : Enc (T5 α β γ δ ε) := ⟨fun p => .tup [enc p.a, enc p.b, enc p.c, enc p.d, enc p.e]⟩
def encO [Enc α] : Option α → D
  | none => .non
  | some a => enc a
instance [Enc α] : Enc (Option α) := ⟨encO⟩
abbrev encs [Enc α] (xs : List α) : List D := xs.map enc
end
class EqE (α : Type) [Enc α] where
  dep : Nat
  lay : ∀ a : α, ∃ p, toP (enc a) = some p ∧ p.plain = true ∧ p.depth ≤ dep
  eqv : ∀ (a b : α) p q, toP (enc a) = some p → toP (enc b) = some q → (PyData.eqv p q = true ↔ a = b)
class LayE (α : Type) [Enc α] : Prop where
  can : ∀ (a : α) p, toP (enc a) = some p → p.canLay0 = true
class NoN (α : Type) [Enc α] where
  nn : ∀ a : α, toP (enc a) ≠ some .none
section
variable {α β γ δ ε : Type}
instance : EqE Int where
  dep := 0
  lay := fun a => ⟨.int a, rfl, rfl, Nat.le_refl _⟩
  eqv := fun a b p q h1 h2 => by cases h1; cases h2; simp [PyData.eqv]
instance : EqE Bool where
  dep := 0
  lay := fun a => ⟨.bool a, rfl, rfl, Nat.le_refl _⟩
  eqv := fun a b p q h1 h2 => by cases h1; cases h2; simp [PyData.eqv]
instance : EqE Str where
  dep := 0
  lay := fun a => ⟨.str a, rfl, rfl, Nat.le_refl _⟩
  eqv := fun a b p q h1 h2 => by cases h1; cases h2; simp [PyData.eqv]
instance : LayE Int := ⟨fun a p h => by cases h; rfl⟩
instance : LayE Bool := ⟨fun a p h => by cases h; rfl⟩
theorem toPs_can [Enc α] [LayE α] : ∀ (xs : List α) ps, toPs (xs.map enc) = some ps → PyData.canLayAll0 ps = true
  | [], ps, h => by cases h; rfl
  | x :: xs, ps, h => by
    have h' : (match toP (enc x), toPs (xs.map enc) with | some p, some ps => some (p :: ps) | _, _ => none) = some ps := h
    cases z1 : toP (enc x) with
    | none => rw [z1] at h'; cases h'
    | some p => cases z2 : toPs (xs.map enc) with
      | none => rw [z1, z2] at h'; cases h'
      | some ps2 => rw [z1, z2] at h'; cases h'; simp only [PyData.canLayAll0, LayE.can x p z1, toPs_can xs ps2 z2, Bool.and_self]
instance [Enc α] [LayE α] : LayE (List α) := ⟨fun a p h => by
  have h' : (toPs (a.map enc)).map PyData.list = some p := h
  cases z : toPs (a.map enc) with
  | none => rw [z] at h'; cases h'
  | some ps => rw [z] at h'; cases h'; simp only [PyData.canLay0, toPs_can a ps z]⟩
instance : NoN Str := ⟨fun a h => by cases h⟩
instance : NoN Int := ⟨fun a h => by cases h⟩
instance : NoN Bool := ⟨fun a h => by cases h⟩
theorem toPs_lay [Enc α] [EqE α] : ∀ xs : List α, ∃ ps, toPs (xs.map enc) = some ps ∧ PyData.plainAll ps = true ∧ PyData.depthAll ps ≤ EqE.dep α
  | [] => ⟨[], rfl, rfl, by simp [PyData.depthAll]⟩
  | x :: xs => by
    obtain ⟨p, h1, h2, h3⟩ := EqE.lay x
    obtain ⟨ps, k1, k2, k3⟩ := toPs_lay xs
    refine ⟨p :: ps, ?_, by simp [PyData.plainAll, h2, k2], ?_⟩
    · show toPs (enc x :: xs.map enc) = _
      unfold toPs; rw [h1, k1]
    · simp only [PyData.depthAll]; omega
theorem toPs_eqv [Enc α] [EqE α] : ∀ (xs ys : List α) ps qs, toPs (xs.map enc) = some ps → toPs (ys.map enc) = some qs → (PyData.eqvAll ps qs = true ↔ xs = ys)
  | [], [], ps, qs, h1, h2 => by cases h1; cases h2; simp [PyData.eqvAll]
  | [], y :: ys, ps, qs, h1, h2 => by
    cases h1
    obtain ⟨q, l1, _⟩ := EqE.lay y
    obtain ⟨qs', l2, _⟩ := toPs_lay ys
    have : toPs ((y :: ys).map enc) = some (q :: qs') := by show toPs (enc y :: ys.map enc) = _; unfold toPs; rw [l1, l2]
    rw [this] at h2; cases h2; simp [PyData.eqvAll]
  | x :: xs, [], ps, qs, h1, h2 => by
    cases h2
    obtain ⟨q, l1, _⟩ := EqE.lay x
    obtain ⟨qs', l2, _⟩ := toPs_lay xs
    have : toPs ((x :: xs).map enc) = some (q :: qs') := by show toPs (enc x :: xs.map enc) = _; unfold toPs; rw [l1, l2]
    rw [this] at h1; cases h1; simp [PyData.eqvAll]
  | x :: xs, y :: ys, ps, qs, h1, h2 => by
    obtain ⟨p, l1, _⟩ := EqE.lay x
    obtain ⟨ps', l2, _⟩ := toPs_lay xs
    obtain ⟨q, m1, _⟩ := EqE.lay y
    obtain ⟨qs', m2, _⟩ := toPs_lay ys
    have a1 : toPs ((x :: xs).map enc) = some (p :: ps') := by show toPs (enc x :: xs.map enc) = _; unfold toPs; rw [l1, l2]
    have a2 : toPs ((y :: ys).map enc) = some (q :: qs') := by show toPs (enc y :: ys.map enc) = _; unfold toPs; rw [m1, m2]
    rw [a1] at h1; rw [a2] at h2
    cases h1; cases h2
    simp only [PyData.eqvAll, Bool.and_eq_true, EqE.eqv x y p q l1 m1, toPs_eqv xs ys ps' qs' l2 m2, List.cons.injEq]
instance [Enc α] [EqE α] : EqE (List α) where
  dep := EqE.dep α + 1
  lay := fun xs => by
    obtain ⟨ps, k1, k2, k3⟩ := toPs_lay xs
    exact ⟨.list ps, by show (toPs (xs.map enc)).map _ = _; rw [k1]; rfl, by simpa [PyData.plain] using k2, by simp only [PyData.depth]; omega⟩
  eqv := fun xs ys p q h1 h2 => by
    obtain ⟨ps, k1, _⟩ := toPs_lay xs
    obtain ⟨qs, l1, _⟩ := toPs_lay ys
    have e1 : toP (enc xs) = some (.list ps) := by show (toPs (xs.map enc)).map _ = _; rw [k1]; rfl
    have e2 : toP (enc ys) = some (.list qs) := by show (toPs (ys.map enc)).map _ = _; rw [l1]; rfl
    rw [e1] at h1; rw [e2] at h2; cases h1; cases h2
    simp only [PyData.eqv]
    exact toPs_eqv xs ys ps qs k1 l1
instance [Enc α] : NoN (List α) := ⟨fun a h => by
  have h' : (toPs (a.map enc)).map PyData.list = some .none := h
  cases z : toPs (a.map enc) <;> rw [z] at h' <;> cases h'⟩
instance [Enc α] [EqE α] : EqE (Tup α) where
  dep := EqE.dep α + 1
  lay := fun xs => by
    obtain ⟨ps, k1, k2, k3⟩ := toPs_lay xs.l
    exact ⟨.tuple ps, by show (toPs (xs.l.map enc)).map _ = _; rw [k1]; rfl, by simpa [PyData.plain] using k2, by simp only [PyData.depth]; omega⟩
  eqv := fun xs ys p q h1 h2 => by
    obtain ⟨ps, k1, _⟩ := toPs_lay xs.l
    obtain ⟨qs, l1, _⟩ := toPs_lay ys.l
    have e1 : toP (enc xs) = some (.tuple ps) := by show (toPs (xs.l.map enc)).map _ = _; rw [k1]; rfl
    have e2 : toP (enc ys) = some (.tuple qs) := by show (toPs (ys.l.map enc)).map _ = _; rw [l1]; rfl
    rw [e1] at h1; rw [e2] at h2; cases h1; cases h2
    simp only [PyData.eqv]
    rw [toPs_eqv xs.l ys.l ps qs k1 l1]
    cases xs; cases ys; simp
theorem toP_tup2 {ds : List D} {ps : List PyData} (h : toPs ds = some ps) : toP (.tup ds) = some (.tuple ps) := by show (toPs ds).map _ = _; rw [h]; rfl
instance [Enc α] [EqE α] [Enc β] [EqE β] : EqE (α × β) where
  dep := max (EqE.dep α) (EqE.dep β) + 1
  lay := fun x => by
    obtain ⟨p, h1, h2, h3⟩ := EqE.lay x.1
    obtain ⟨q, k1, k2, k3⟩ := EqE.lay x.2
    refine ⟨.tuple [p, q], toP_tup2 (by simp [toPs, h1, k1]), by simp [PyData.plain, PyData.plainAll, h2, k2], ?_⟩
    simp only [PyData.depth, PyData.depthAll]; omega
  eqv := fun x y p q h1 h2 => by
    obtain ⟨p1, a1, _⟩ := EqE.lay x.1
    obtain ⟨p2, a2, _⟩ := EqE.lay x.2
    obtain ⟨q1, b1, _⟩ := EqE.lay y.1
    obtain ⟨q2, b2, _⟩ := EqE.lay y.2
    have e1 : toP (enc x) = some (.tuple [p1, p2]) := toP_tup2 (by simp [toPs, a1, a2])
    have e2 : toP (enc y) = some (.tuple [q1, q2]) := toP_tup2 (by simp [toPs, b1, b2])
    rw [e1] at h1; rw [e2] at h2; cases h1; cases h2
    simp only [PyData.eqv, PyData.eqvAll, Bool.and_true, Bool.and_eq_true, EqE.eqv _ _ _ _ a1 b1, EqE.eqv _ _ _ _ a2 b2]
    exact ⟨fun h => Prod.ext h.1 h.2, fun h => by rw [h]; exact ⟨rfl, rfl⟩⟩
instance [Enc α] [Enc β] : NoN (α × β) := ⟨fun a h => by
  have h' : (toPs [enc a.1, enc a.2]).map PyData.tuple = some .none := h
  cases z : toPs [enc a.1, enc a.2] <;> rw [z] at h' <;> cases h'⟩
instance [Enc α] : NoN (Tup α) := ⟨fun a h => by
  have h' : (toPs (a.l.map enc)).map PyData.tuple = some .none := h
  cases z : toPs (a.l.map enc) <;> rw [z] at h' <;> cases h'⟩
instance [Enc α] [EqE α] [Enc β] [EqE β] [Enc γ] [EqE γ] : EqE (T3 α β γ) where
  dep := max (EqE.dep α) (max (EqE.dep β) (EqE.dep γ)) + 1
  lay := fun x => by
    obtain ⟨p, h1, h2, h3⟩ := EqE.lay x.a
    obtain ⟨q, k1, k2, k3⟩ := EqE.lay x.b
    obtain ⟨r, l1, l2, l3⟩ := EqE.lay x.c
    refine ⟨.tuple [p, q, r], toP_tup2 (by simp [toPs, h1, k1, l1]), by simp [PyData.plain, PyData.plainAll, h2, k2, l2], ?_⟩
    simp only [PyData.depth, PyData.depthAll]; omega
  eqv := fun x y p q h1 h2 => by
    obtain ⟨p1, a1, _⟩ := EqE.lay x.a
    obtain ⟨p2, a2, _⟩ := EqE.lay x.b
    obtain ⟨p3, a3, _⟩ := EqE.lay x.c
    obtain ⟨q1, b1, _⟩ := EqE.lay y.a
    obtain ⟨q2, b2, _⟩ := EqE.lay y.b
    obtain ⟨q3, b3, _⟩ := EqE.lay y.c
    have e1 : toP (enc x) = some (.tuple [p1, p2, p3]) := toP_tup2 (by simp [toPs, a1, a2, a3])
    have e2 : toP (enc y) = some (.tuple [q1, q2, q3]) := toP_tup2 (by simp [toPs, b1, b2, b3])
    rw [e1] at h1; rw [e2] at h2; cases h1; cases h2
    simp only [PyData.eqv, PyData.eqvAll, Bool.and_true, Bool.and_eq_true, EqE.eqv _ _ _ _ a1 b1, EqE.eqv _ _ _ _ a2 b2, EqE.eqv _ _ _ _ a3 b3]
    cases x; cases y; simp
instance [Enc α] [Enc β] [Enc γ] : NoN (T3 α β γ) := ⟨fun a h => by
  have h' : (toPs [enc a.a, enc a.b, enc a.c]).map PyData.tuple = some .none := h
  cases z : toPs [enc a.a, enc a.b, enc a.c] <;> rw [z] at h' <;> cases h'⟩
instance [Enc α] [EqE α] [Enc β] [EqE β] [Enc γ] [EqE γ] [Enc δ] [EqE δ] : EqE (T4 α β γ δ) where
  dep := max (max (EqE.dep α) (EqE.dep δ)) (max (EqE.dep β) (EqE.dep γ)) + 1
  lay := fun x => by
    obtain ⟨p, h1, h2, h3⟩ := EqE.lay x.a
    obtain ⟨q, k1, k2, k3⟩ := EqE.lay x.b
    obtain ⟨r, l1, l2, l3⟩ := EqE.lay x.c
    obtain ⟨s, m1, m2, m3⟩ := EqE.lay x.d
    refine ⟨.tuple [p, q, r, s], toP_tup2 (by simp [toPs, h1, k1, l1, m1]), by simp [PyData.plain, PyData.plainAll, h2, k2, l2, m2], ?_⟩
    simp only [PyData.depth, PyData.depthAll]; omega
  eqv := fun x y p q h1 h2 => by
    obtain ⟨p1, a1, _⟩ := EqE.lay x.a
    obtain ⟨p2, a2, _⟩ := EqE.lay x.b
    obtain ⟨p3, a3, _⟩ := EqE.lay x.c
    obtain ⟨p4, a4, _⟩ := EqE.lay x.d
    obtain ⟨q1, b1, _⟩ := EqE.lay y.a
    obtain ⟨q2, b2, _⟩ := EqE.lay y.b
    obtain ⟨q3, b3, _⟩ := EqE.lay y.c
    obtain ⟨q4, b4, _⟩ := EqE.lay y.d
    have e1 : toP (enc x) = some (.tuple [p1, p2, p3, p4]) := toP_tup2 (by simp [toPs, a1, a2, a3, a4])
    have e2 : toP (enc y) = some (.tuple [q1, q2, q3, q4]) := toP_tup2 (by simp [toPs, b1, b2, b3, b4])
    rw [e1] at h1; rw [e2] at h2; cases h1; cases h2
    simp only [PyData.eqv, PyData.eqvAll, Bool.and_true, Bool.and_eq_true, EqE.eqv _ _ _ _ a1 b1, EqE.eqv _ _ _ _ a2 b2, EqE.eqv _ _ _ _ a3 b3, EqE.eqv _ _ _ _ a4 b4]
    cases x; cases y; simp
theorem toP_some [Enc α] (a : α) : toP (enc (some a)) = toP (enc a) := (rfl)
theorem eqv_non_l : ∀ q : PyData, PyData.eqv .none q = true ↔ q = .none := by intro q; cases q <;> simp [PyData.eqv]
theorem eqv_non_r : ∀ q : PyData, PyData.eqv q .none = true ↔ q = .none := by intro q; cases q <;> simp [PyData.eqv]
instance [Enc α] [EqE α] [NoN α] : EqE (Option α) where
  dep := EqE.dep α
  lay := fun x => match x with
    | none => ⟨.none, rfl, rfl, Nat.zero_le _⟩
    | some a => EqE.lay a
  eqv := fun x y p q h1 h2 => by
    cases x with
    | none =>
      cases h1
      rw [eqv_non_l]
      cases y with
      | none => cases h2; simp
      | some b =>
        have := NoN.nn b
        rw [toP_some] at h2
        constructor
        · intro e; subst e; exact absurd h2 this
        · intro e; cases e
    | some a =>
      cases y with
      | none =>
        cases h2
        rw [eqv_non_r]
        have := NoN.nn a
        rw [toP_some] at h1
        constructor
        · intro e; subst e; exact absurd h1 this
        · intro e; cases e
      | some b =>
        rw [toP_some] at h1 h2
        rw [EqE.eqv a b p q h1 h2]
        simp
theorem shaped_enc [Enc α] [EqE α] (a : α) (hd : EqE.dep α ≤ 64) : ∃ p, toP (enc a) = some p ∧ shp p = true := by
  obtain ⟨p, h1, h2, h3⟩ := EqE.lay a
  exact ⟨p, h1, by simp [shp, h2]; omega⟩
theorem eqD_enc [Enc α] [EqE α] [DecidableEq α] (a b : α) (hd : EqE.dep α ≤ 64) : eqD (enc a) (enc b) = some (decide (a = b)) := by
  obtain ⟨p, h1, h2⟩ := shaped_enc a hd
  obtain ⟨q, k1, k2⟩ := shaped_enc b hd
  have e := EqE.eqv a b p q h1 k1
  unfold eqD
  rw [h1, k1]
  simp only
  rw [if_pos (by simp [h2, k2])]
  by_cases h : a = b
  · rw [e.mpr h, decide_eq_true h]
  · rw [decide_eq_false h]
    cases z : PyData.eqv p q with
    | true => exact absurd (e.mp z) h
    | false => rfl
theorem fEq_enc [Enc α] [EqE α] [DecidableEq α] (a b : α) (hd : EqE.dep α ≤ 64) : fEq (enc a) (enc b) = some (.bl (decide (a = b))) := by
  unfold fEq; rw [eqD_enc a b hd]; rfl
theorem eqF_eqv : ∀ {a b : D} {p q : PyData}, flatD a = true → flatD b = true → toP a = some p → toP b = some q → eqF a b = PyData.eqv p q := by
  intro a b p q ha hb h1 h2
  cases a <;> cases ha <;> cases b <;> cases hb <;> cases h1 <;> cases h2 <;> rfl
theorem any_mem [Enc α] [EqE α] [DecidableEq α] (a : α) (p : PyData) (ha : toP (enc a) = some p) : ∀ (xs : List α) (ps : List PyData), toPs (xs.map enc) = some ps → (ps.any fun z => PyData.eqv z p) = decide (a ∈ xs)
  | [], ps, h => by cases h; simp
  | x :: xs, ps, h => by
    obtain ⟨q, l1, _⟩ := EqE.lay x
    obtain ⟨qs, l2, _⟩ := toPs_lay xs
    have e : toPs ((x :: xs).map enc) = some (q :: qs) := by show toPs (enc x :: xs.map enc) = _; unfold toPs; rw [l1, l2]
    rw [e] at h; cases h
    rw [List.any_cons, any_mem a p ha xs qs l2]
    have e2 := EqE.eqv x a q p l1 ha
    by_cases hx : a = x
    · subst hx; rw [e2.mpr rfl]; simp
    · have : PyData.eqv q p = false := by
        cases z : PyData.eqv q p with
        | true => exact absurd (e2.mp z).symm hx
        | false => rfl
      rw [this]; simp [hx]
theorem inD_enc [Enc α] [EqE α] [DecidableEq α] (a : α) (xs : List α) (hd : EqE.dep α ≤ 63) : inD (enc a) (.lst (xs.map enc)) = some (decide (a ∈ xs)) := by
  obtain ⟨p, h1, h2⟩ := shaped_enc a (by omega)
  obtain ⟨ps, k1, k2, k3⟩ := toPs_lay xs
  unfold inD
  dsimp only
  by_cases hf : (flatD (enc a) && (xs.map enc).all flatD) = true
  · rw [if_pos hf]
    rw [Bool.and_eq_true] at hf
    congr 1
    rw [← any_mem a p h1 xs ps k1]
    have : ∀ (ds : List D) (ps : List PyData), ds.all flatD = true → toPs ds = some ps → (ds.any fun y => eqF y (enc a)) = ps.any fun z => PyData.eqv z p := by
      intro ds
      induction ds with
      | nil => intro ps _ h; cases h; rfl
      | cons d ds ih =>
        intro ps hall h
        rw [List.all_cons, Bool.and_eq_true] at hall
        unfold toPs at h
        cases z1 : toP d with
        | none => rw [z1] at h; cases h
        | some r =>
          cases z2 : toPs ds with
          | none => rw [z1, z2] at h; cases h
          | some rs =>
            rw [z1, z2] at h; cases h
            rw [List.any_cons, List.any_cons, ih rs hall.2 z2, eqF_eqv hall.1 hf.1 z1 h1]
    exact this _ _ hf.2 k1
  · rw [if_neg hf, h1, k1]
    simp only
    rw [if_pos (by
      rw [Bool.and_eq_true]
      refine ⟨h2, ?_⟩
      simp [shp, PyData.plain, PyData.depth, k2]; omega), any_mem a p h1 xs ps k1]
theorem fIn_enc [Enc α] [EqE α] [DecidableEq α] (a : α) (xs : List α) (hd : EqE.dep α ≤ 63) : fIn (enc a) (.lst (xs.map enc)) = some (.bl (decide (a ∈ xs))) := by
  unfold fIn; rw [inD_enc a xs hd]; rfl
theorem fNotIn_enc [Enc α] [EqE α] [DecidableEq α] (a : α) (xs : List α) (hd : EqE.dep α ≤ 63) : fNotIn (enc a) (.lst (xs.map enc)) = some (.bl (decide (a ∉ xs))) := by
  unfold fNotIn; rw [inD_enc a xs hd]; simp
end
end VF
set_option maxRecDepth 100000
set_option maxHeartbeats 4000000
namespace VF
set_option autoImplicit false
open PySem L2
open Enc (enc)
inductive SD where
  | fz (d : D) | ol (ds : List D) | clr | val (d : D) | cf | any | x (s : SV)
def SD.ok : SD → Option SV → Prop
  | .fz d, o => o = some (.fz d)
  | .ol ds, o => o = some (.ol (fzs ds))
  | .clr, o => o = none
  | .val d, o => o = some (.fz d) ∨ ∃ ds, d = .lst ds ∧ o = some (.ol (fzs ds))
  | .cf, o => o = none ∨ ∃ d, o = some (.fz d)
  | .any, _ => True
  | .x s, o => o = some s
def F2 : List SD → List (Option SV) → Prop
  | [], [] => True
  | s :: S, o :: l => s.ok o ∧ F2 S l
  | _, _ => False
theorem F2.get : ∀ {S : List SD} {l : List (Option SV)} {i : Nat} {s : SD}, F2 S l → S[i]? = some s → ∃ o, l[i]? = some o ∧ s.ok o
  | s :: S, o :: l, 0, s', h, e => by cases e; exact ⟨o, rfl, h.1⟩
  | s :: S, o :: l, i + 1, s', h, e => by
    obtain ⟨o', h1, h2⟩ := F2.get (i := i) h.2 (by simpa using e)
    exact ⟨o', by simpa using h1, h2⟩
  | [], _, _, _, _, e => by simp at e
  | _ :: _, [], _, _, h, _ => h.elim
theorem F2.set : ∀ {S : List SD} {l : List (Option SV)} {s : SD} {o : Option SV} (i : Nat), F2 S l → s.ok o → F2 (S.set i s) (l.set i o)
  | s' :: S, o' :: l, s, o, 0, h, k => ⟨k, h.2⟩
  | s' :: S, o' :: l, s, o, i + 1, h, k => ⟨h.1, F2.set i h.2 k⟩
  | [], [], _, _, _, _, _ => trivial
  | [], _ :: _, _, _, _, h, _ => h.elim
  | _ :: _, [], _, _, _, h, _ => h.elim
structure Has (pn : List Nat) (S : List SD) (e : Env) : Prop where
  pn : e.pn = pn
  sl : F2 S e.sl
inductive W : List SD → List SD → Prop
  | nil : W [] []
  | rf {s : SD} {S S' : List SD} : W S S' → W (s :: S) (s :: S')
  | an {s : SD} {S S' : List SD} : W S S' → W (s :: S) (.any :: S')
  | cc {S S' : List SD} : W S S' → W (.clr :: S) (.cf :: S')
  | cz {d : D} {S S' : List SD} : W S S' → W (.fz d :: S) (.cf :: S')
  | vz {d : D} {S S' : List SD} : W S S' → W (.fz d :: S) (.val d :: S')
  | vo {ds : List D} {S S' : List SD} : W S S' → W (.ol ds :: S) (.val (.lst ds) :: S')
theorem W.refl : ∀ S : List SD, W S S
  | [] => .nil
  | _ :: S => .rf (W.refl S)
theorem F2.weak {S S' : List SD} (w : W S S') : ∀ {l : List (Option SV)}, F2 S l → F2 S' l := by
  induction w with
  | nil => intro l h; exact h
  | rf w ih => intro l h; cases l with
    | nil => exact h.elim
    | cons o l => exact ⟨h.1, ih h.2⟩
  | an w ih => intro l h; cases l with
    | nil => exact h.elim
    | cons o l => exact ⟨trivial, ih h.2⟩
  | cc w ih => intro l h; cases l with
    | nil => exact h.elim
    | cons o l => exact ⟨.inl h.1, ih h.2⟩
  | cz w ih => intro l h; cases l with
    | nil => exact h.elim
    | cons o l => exact ⟨.inr ⟨_, h.1⟩, ih h.2⟩
  | vz w ih => intro l h; cases l with
    | nil => exact h.elim
    | cons o l => exact ⟨.inl h.1, ih h.2⟩
  | vo w ih => intro l h; cases l with
    | nil => exact h.elim
    | cons o l => exact ⟨.inr ⟨_, rfl, h.1⟩, ih h.2⟩
theorem Has.weak {pn : List Nat} {S S' : List SD} {e : Env} (h : Has pn S e) (w : W S S') : Has pn S' e := ⟨h.pn, h.sl.weak w⟩
theorem Has.setS {pn : List Nat} {S : List SD} {e : Env} {s : SD} {v : SV} (h : Has pn S e) (i : Nat) (k : s.ok (some v)) : Has pn (S.set i s) (e.setS i v) := ⟨h.pn, h.sl.set i k⟩
theorem Has.clr {pn : List Nat} {S : List SD} {e : Env} (h : Has pn S e) (i : Nat) : Has pn (S.set i .clr) (e.clr i) := ⟨h.pn, h.sl.set i rfl⟩
inductive Opd where
  | f (d : D) | w (ds : List D) | y (d : D) | v (i : Nat) | u (i : Nat) (d : D) | o (s : SV)
def ROk : RV → Opd → Prop
  | r, .f d => r = .fz d
  | r, .w ds => r = .own (.ol (fzs ds))
  | r, .y d => r = .fz d ∨ ∃ ds, d = .lst ds ∧ r = .own (.ol (fzs ds))
  | r, .v i => r = .var i
  | r, .u i d => r = .fz d ∨ r = .var i
  | r, .o s => r = .own s
inductive Dt (S : List SD) : Opd → D → Prop
  | f {d : D} : Dt S (.f d) d
  | w {ds : List D} : Dt S (.w ds) (.lst ds)
  | y {d : D} : Dt S (.y d) d
  | v {i : Nat} {ds : List D} : S[i]? = some (.ol ds) → Dt S (.v i) (.lst ds)
  | vz {i : Nat} {d : D} : S[i]? = some (.fz d) → Dt S (.v i) d
  | u {i : Nat} {d : D} : S[i]? = some (.val d) → Dt S (.u i d) d
  | o {c : Str} {ns : List Str} {xs : List SV} {d : D} : SV.toD (.oo c ns xs) = d → Dt S (.o (.oo c ns xs)) d
  | x {i : Nat} {c : Str} {ns : List Str} {xs : List SV} {d : D} : S[i]? = some (.x (.oo c ns xs)) → SV.toD (.oo c ns xs) = d → Dt S (.v i) d
section
variable {pn : List Nat} {S S' S1 S2 : List SD} {e : Env} {r : RV} {o : Opd} {d : D}
theorem Has.slot (h : Has pn S e) {i : Nat} {s : SD} (q : S[i]? = some s) : ∃ o, e.sl[i]? = some o ∧ s.ok o := h.sl.get q
theorem view_of {i : Nat} {s : SV} (h : e.sl[i]? = some (some s)) : VF.view e (.var i) = some s.toD := by unfold VF.view; simp only [h]
theorem frz_of {i : Nat} {s : SV} (h : e.sl[i]? = some (some s)) : VF.frzR (.var i) e = some (s.toD, e.setS i (.fz s.toD)) := by unfold VF.frzR; simp only [h]
theorem Dt.view (h : Has pn S e) (k : ROk r o) (q : Dt S o d) : view e r = some d := by
  cases q with
  | f => cases k; rfl
  | w => cases k; show some (SV.toD _) = _; rw [toD_ol]
  | y => rcases k with rfl | ⟨ds, rfl, rfl⟩
         · rfl
         · show some (SV.toD _) = _; rw [toD_ol]
  | v q =>
    cases k
    obtain ⟨o, h1, h2⟩ := h.slot q
    cases h2
    rw [view_of h1, toD_ol]
  | vz q =>
    cases k
    obtain ⟨o, h1, h2⟩ := h.slot q
    cases h2
    rw [view_of h1]; rfl
  | u q =>
    rcases k with rfl | rfl
    · rfl
    · obtain ⟨o, h1, h2⟩ := h.slot q
      rcases h2 with rfl | ⟨ds, rfl, rfl⟩
      · rw [view_of h1]; rfl
      · rw [view_of h1, toD_ol]
  | o e => cases k; subst e; rfl
  | x q e =>
    cases k
    subst e
    obtain ⟨o, h1, h2⟩ := h.slot q
    cases h2
    rw [view_of h1]
inductive Fz (S : List SD) : Opd → D → List SD → Prop
  | f {d : D} : Fz S (.f d) d S
  | w {ds : List D} : Fz S (.w ds) (.lst ds) S
  | y {d : D} : Fz S (.y d) d S
  | v {i : Nat} {ds : List D} : S[i]? = some (.ol ds) → Fz S (.v i) (.lst ds) (S.set i (.fz (.lst ds)))
  | vz {i : Nat} {d : D} : S[i]? = some (.fz d) → Fz S (.v i) d (S.set i (.fz d))
  | u {i : Nat} {d : D} : S[i]? = some (.val d) → Fz S (.u i d) d S
  | o {s : SV} : Fz S (.o s) s.toD S
  | x {i : Nat} {s : SV} : S[i]? = some (.x s) → Fz S (.v i) s.toD (S.set i (.fz s.toD))
theorem F2.same : ∀ {S : List SD} {l : List (Option SV)} {s : SD} {o : Option SV} {i : Nat}, F2 S l → S[i]? = some s → s.ok o → F2 S (l.set i o)
  | s' :: S, o' :: l, s, o, 0, h, q, k => by cases q; exact ⟨k, h.2⟩
  | s' :: S, o' :: l, s, o, i + 1, h, q, k => ⟨h.1, F2.same (i := i) h.2 (by simpa using q) k⟩
  | [], [], _, _, _, _, q, _ => by simp at q
  | [], _ :: _, _, _, _, h, _, _ => h.elim
  | _ :: _, [], _, _, _, h, _, _ => h.elim
theorem Fz.frz (h : Has pn S e) (k : ROk r o) (q : Fz S o d S') : ∃ e', frzR r e = some (d, e') ∧ Has pn S' e' := by
  cases q with
  | f => cases k; exact ⟨e, rfl, h⟩
  | w => cases k; exact ⟨e, by show some (SV.toD _, e) = _; rw [toD_ol], h⟩
  | y => rcases k with rfl | ⟨ds, rfl, rfl⟩
         · exact ⟨e, rfl, h⟩
         · exact ⟨e, by show some (SV.toD _, e) = _; rw [toD_ol], h⟩
  | v q =>
    cases k
    obtain ⟨o, h1, h2⟩ := h.slot q
    cases h2
    exact ⟨_, by rw [frz_of h1, toD_ol], h.setS _ rfl⟩
  | vz q =>
    cases k
    obtain ⟨o, h1, h2⟩ := h.slot q
    cases h2
    exact ⟨_, by rw [frz_of h1]; rfl, h.setS _ rfl⟩
  | u q =>
    rcases k with rfl | rfl
    · exact ⟨e, rfl, h⟩
    · obtain ⟨o, h1, h2⟩ := h.slot q
      rcases h2 with rfl | ⟨ds, rfl, rfl⟩
      · exact ⟨e.setS _ (.fz d), by rw [frz_of h1]; rfl, ⟨h.pn, h.sl.same q (.inl rfl)⟩⟩
      · exact ⟨e.setS _ (.fz (.lst ds)), by rw [frz_of h1, toD_ol], ⟨h.pn, h.sl.same q (.inl rfl)⟩⟩
  | o => cases k; exact ⟨e, rfl, h⟩
  | x q =>
    cases k
    obtain ⟨o, h1, h2⟩ := h.slot q
    cases h2
    exact ⟨_, by rw [frz_of h1], h.setS _ rfl⟩
inductive Fzs : List SD → List Opd → List D → List SD → Prop
  | nil {S : List SD} : Fzs S [] [] S
  | cons {S S1 S2 : List SD} {o : Opd} {os : List Opd} {d : D} {ds : List D} : Fz S o d S1 → Fzs S1 os ds S2 → Fzs S (o :: os) (d :: ds) S2
def ROks : List RV → List Opd → Prop
  | [], [] => True
  | r :: rs, o :: os => ROk r o ∧ ROks rs os
  | _, _ => False
theorem Fzs.frz {os : List Opd} {ds : List D} (q : Fzs S os ds S') : ∀ {e : Env} {rs : List RV}, Has pn S e → ROks rs os → ∃ e', frzRs rs e = some (ds, e') ∧ Has pn S' e' := by
  induction q with
  | nil => intro e rs h k; cases rs with
    | nil => exact ⟨e, rfl, h⟩
    | cons _ _ => exact k.elim
  | cons q1 q2 ih => intro e rs h k; cases rs with
    | nil => exact k.elim
    | cons r rs =>
      obtain ⟨e1, h1, h2⟩ := q1.frz h k.1
      obtain ⟨e2, h3, h4⟩ := ih h2 k.2
      refine ⟨e2, ?_, h4⟩
      unfold frzRs
      simp only [h1, h3]
inductive Dts (S : List SD) : List Opd → List D → Prop
  | nil : Dts S [] []
  | cons {o : Opd} {os : List Opd} {d : D} {ds : List D} : Dt S o d → Dts S os ds → Dts S (o :: os) (d :: ds)
theorem Dts.view {os : List Opd} {ds : List D} (q : Dts S os ds) : ∀ {rs : List RV}, Has pn S e → ROks rs os → rs.mapM (VF.view e) = some ds := by
  induction q with
  | nil => intro rs h k; cases rs with
    | nil => rfl
    | cons _ _ => exact k.elim
  | cons q1 q2 ih => intro rs h k; cases rs with
    | nil => exact k.elim
    | cons r rs => simp [Dt.view h k.1 q1, ih h k.2]
inductive St (S : List SD) (i : Nat) : Opd → List SD → Prop
  | f {d : D} : St S i (.f d) (S.set i (.fz d))
  | w {ds : List D} : St S i (.w ds) (S.set i (.ol ds))
  | y {d : D} : St S i (.y d) (S.set i (.val d))
  | v {j : Nat} {ds : List D} : S[j]? = some (.ol ds) → St S i (.v j) ((S.set j (.fz (.lst ds))).set i (.fz (.lst ds)))
  | u {j : Nat} {d : D} : S[j]? = some (.val d) → St S i (.u j d) ((S.set j (.val d)).set i (.val d))
  | o {s : SV} : St S i (.o s) (S.set i (.x s))
theorem St.put {i : Nat} (h : Has pn S e) (k : ROk r o) (q : St S i o S') (hi : i ∉ pn) : ∃ e', putR i r e = some e' ∧ Has pn S' e' := by
  have hi' : i ∉ e.pn := by rw [h.pn]; exact hi
  unfold putR
  rw [if_neg hi']
  cases q with
  | f => cases k; exact ⟨_, rfl, h.setS (s := .fz _) i rfl⟩
  | w => cases k; exact ⟨_, rfl, h.setS (s := .ol _) i rfl⟩
  | o => cases k; exact ⟨_, rfl, h.setS (s := .x _) i rfl⟩
  | y => rcases k with rfl | ⟨ds, rfl, rfl⟩
         · exact ⟨_, rfl, h.setS (s := .val _) i (.inl rfl)⟩
         · exact ⟨_, rfl, h.setS (s := .val _) i (.inr ⟨_, rfl, rfl⟩)⟩
  | v q =>
    cases k
    obtain ⟨o, h1, h2⟩ := h.slot q
    cases h2
    refine ⟨_, by simp only [h1, toD_ol]; rfl, ?_⟩
    exact (h.setS (s := .fz _) _ rfl).setS (s := .fz _) _ rfl
  | u q =>
    rcases k with rfl | rfl
    · refine ⟨_, rfl, ?_⟩
      rename_i j d
      refine ⟨h.pn, F2.set i ?_ (.inl rfl)⟩
      have same : S.set j (.val d) = S := by
        obtain ⟨hl, hg⟩ := List.getElem?_eq_some_iff.mp q
        exact List.ext_getElem? fun n => by
          rw [List.getElem?_set]
          split
          · rename_i c; subst c; rw [q]
          · rfl
      rw [same]; exact h.sl
    · obtain ⟨o, h1, h2⟩ := h.slot q
      rcases h2 with rfl | ⟨ds, rfl, rfl⟩
      · exact ⟨_, by simp only [h1]; rfl, (h.setS (s := .val _) (v := .fz _) _ (.inl rfl)).setS (s := .val _) (v := .fz _) _ (.inl rfl)⟩
      · exact ⟨_, by simp only [h1, toD_ol], (h.setS (s := .val (.lst ds)) (v := .fz (.lst ds)) _ (.inl rfl)).setS (s := .val (.lst ds)) (v := .fz (.lst ds)) _ (.inl rfl)⟩
end
def SmD {α β : Type} (r : R β) (p : Res α) (G : α → β → Env → Prop) (X : Exc → Env → Prop) : Prop := match p with
  | .st => True
  | .ok a => ∃ b e, r = .ok b e ∧ G a b e
  | .ex x => ∃ e, r = .ex x e ∧ X x e
structure Sm {α β : Type} (r : R β) (p : Res α) (G : α → β → Env → Prop) (X : Exc → Env → Prop) : Prop where
  run : SmD r p G X
section
variable {α β γ δ : Type} {X : Exc → Env → Prop}
theorem Sm.bind {r : R β} {p : Res α} {G : α → β → Env → Prop} {K : β → M δ} {q : α → Res γ} {G' : γ → δ → Env → Prop} (h : Sm r p G X) (k : ∀ a b e, G a b e → Sm (K b e) (q a) G' X) : Sm (r.bind K) (p.bind q) G' X := by
  cases p with
  | st => first | trivial | exact ⟨trivial⟩
  | ok a => obtain ⟨b, e, rfl, h2⟩ := h; exact k a b e h2
  | ex x => obtain ⟨e, rfl, h2⟩ := h; exact ⟨e, rfl, h2⟩
theorem Sm.mono {r : R β} {p : Res α} {G G' : α → β → Env → Prop} {X' : Exc → Env → Prop} (h : Sm r p G X) (k : ∀ a b e, G a b e → G' a b e) (kx : ∀ x e, X x e → X' x e) : Sm r p G' X' := by
  cases p with
  | st => first | trivial | exact ⟨trivial⟩
  | ok a => obtain ⟨b, e, h1, h2⟩ := h; exact ⟨b, e, h1, k _ _ _ h2⟩
  | ex x => obtain ⟨e, h1, h2⟩ := h; exact ⟨e, h1, kx _ _ h2⟩
def okK {β : Type} : β → M β := fun b e => .ok b e
theorem bind_okK (r : R β) : r.bind okK = r := by cases r <;> rfl
theorem Sm.top {r : R β} {p : Res α} {G : α → β → Env → Prop} (h : Sm (r.bind okK) p G X) : Sm r p G X := by rwa [bind_okK] at h
theorem rbind_assoc {a b c : Type} (r : R a) (f : a → M b) (g : b → M c) : (r.bind f).bind g = r.bind fun x e => (f x e).bind g := by cases r <;> rfl
end
def PJ (pn : List Nat) (S : List SD) (m : M RV) (o : Opd) : Prop := ∀ e, Has pn S e → ∃ r, m e = .ok r e ∧ ROk r o
def PB (pn : List Nat) (S : List SD) (m : M Bool) (c : Bool) : Prop := ∀ e, Has pn S e → m e = .ok c e
def PA (pn : List Nat) (S : List SD) (m : M (List RV)) (os : List Opd) : Prop := ∀ e, Has pn S e → ∃ rs, m e = .ok rs e ∧ ROks rs os
section
variable {pn : List Nat} {S : List SD} {a b c : M RV} {oa ob oc : Opd} {ma : M (List RV)} {os : List Opd}
theorem p_fz {i : Nat} {d : D} (q : S[i]? = some (.fz d)) : PJ pn S (dVar i) (.f d) := fun e h => by
  obtain ⟨o, h1, h2⟩ := h.slot q
  cases h2
  exact ⟨.fz d, by unfold dVar; rw [h1], rfl⟩
theorem p_ol {i : Nat} {ds : List D} (q : S[i]? = some (.ol ds)) : PJ pn S (dVar i) (.v i) := fun e h => by
  obtain ⟨o, h1, h2⟩ := h.slot q
  cases h2
  exact ⟨.var i, by unfold dVar; rw [h1], rfl⟩
theorem p_val {i : Nat} {d : D} (q : S[i]? = some (.val d)) : PJ pn S (dVar i) (.u i d) := fun e h => by
  obtain ⟨o, h1, h2⟩ := h.slot q
  unfold dVar
  rw [h1]
  rcases h2 with rfl | ⟨ds, rfl, rfl⟩
  · exact ⟨.fz d, rfl, .inl rfl⟩
  · exact ⟨.var i, rfl, .inr rfl⟩
theorem p_c {d : D} : PJ pn S (dC d) (.f d) := fun e h => ⟨.fz d, rfl, rfl⟩
theorem p_op {fn : D → D → Option D} {x y z : D} (ha : PJ pn S a oa) (hb : PJ pn S b ob) (da : Dt S oa x) (db : Dt S ob y) (h : fn x y = some z) : PJ pn S (dOp fn a b) (.f z) := fun e he => by
  obtain ⟨r1, h1, k1⟩ := ha e he
  obtain ⟨r2, h2, k2⟩ := hb e he
  refine ⟨.fz z, ?_, rfl⟩
  rw [ev_op, h1, bind_ok, h2, bind_ok, da.view he k1, db.view he k2]
  simp only [h]
section
variable {x y : Int} (ha : PJ pn S a oa) (hb : PJ pn S b ob) (da : Dt S oa (.int x) := by first | exact .f | exact .u rfl) (db : Dt S ob (.int y) := by first | exact .f | exact .u rfl)
include ha hb da db
theorem p_int {g : Int → Int → Int} : PJ pn S (dOp (fI g) a b) (.f (.int (g x y))) := p_op ha hb da db rfl
theorem p_cmp {g : Int → Int → Bool} : PJ pn S (dOp (fB g) a b) (.f (.bl (g x y))) := p_op ha hb da db rfl
theorem p_mulK (h : (inB x 64 || inB y 64) = true) : PJ pn S (dOp fMul a b) (.f (.int (x * y))) := p_op ha hb da db (if_pos h)
theorem p_modK (h : 0 < y) : PJ pn S (dOp fMod a b) (.f (.int (x % y))) := p_op ha hb da db (if_pos h)
theorem p_divK (h : 0 < y ∧ y < 1073741824) : PJ pn S (dOp fDiv a b) (.f (.int (x / y))) := p_op ha hb da db (if_pos h)
end
section
variable {α : Type} [Enc α] [EqE α] [DecidableEq α] {x y : α} {xs : List α} (ha : PJ pn S a oa) (hb : PJ pn S b ob)
include ha hb
theorem p_eq (da : Dt S oa (enc x) := by first | exact .f | exact .v rfl | exact .vz rfl | exact .w | exact .y | exact .u rfl) (db : Dt S ob (enc y) := by first | exact .f | exact .v rfl | exact .vz rfl | exact .w | exact .y | exact .u rfl) (hd : EqE.dep α ≤ 64 := by decide) : PJ pn S (dOp fEq a b) (.f (.bl (decide (x = y)))) := p_op ha hb da db (fEq_enc x y hd)
theorem p_in (da : Dt S oa (enc x) := by first | exact .f | exact .v rfl | exact .vz rfl | exact .w | exact .y | exact .u rfl) (db : Dt S ob (enc xs) := by first | exact .f | exact .v rfl | exact .vz rfl | exact .w | exact .y | exact .u rfl) (hd : EqE.dep α ≤ 63 := by decide) : PJ pn S (dOp fIn a b) (.f (.bl (decide (x ∈ xs)))) := p_op ha hb da db (fIn_enc x xs hd)
theorem p_notIn (da : Dt S oa (enc x) := by first | exact .f | exact .v rfl | exact .vz rfl | exact .w | exact .y | exact .u rfl) (db : Dt S ob (enc xs) := by first | exact .f | exact .v rfl | exact .vz rfl | exact .w | exact .y | exact .u rfl) (hd : EqE.dep α ≤ 63 := by decide) : PJ pn S (dOp fNotIn a b) (.f (.bl (decide (x ∉ xs)))) := p_op ha hb da db (fNotIn_enc x xs hd)
end
theorem pa_nil' : PA pn S dNil [] := fun e h => ⟨[], rfl, trivial⟩
theorem pa_cons' {o : Opd} (ha : PJ pn S a o) (hs : PA pn S ma os) : PA pn S (dCons a ma) (o :: os) := fun e h => by
  obtain ⟨r, h1, k1⟩ := ha e h
  obtain ⟨rs, h2, k2⟩ := hs e h
  exact ⟨r :: rs, by rw [ev_cons, h1, bind_ok, h2, bind_ok], k1, k2⟩
theorem p_cb {fn : List D → Option D} {ds : List D} {z : D} (ha : PA pn S ma os) (da : Dts S os ds) (h : fn ds = some z) : PJ pn S (dCB fn ma) (.f z) := fun e he => by
  obtain ⟨rs, h1, k1⟩ := ha e he
  refine ⟨.fz z, ?_, rfl⟩
  rw [ev_cb, h1, bind_ok, da.view he k1]
  simp only [h]
theorem p_len {α : Type} [Enc α] {xs : List α} (ha : PJ pn S a oa) (da : Dt S oa (enc xs) := by first | exact .f | exact .v rfl | exact .vz rfl | exact .w | exact .y | exact .u rfl) : PJ pn S (dCB lenD (dCons a dNil)) (.f (.int xs.length)) :=
  p_cb (pa_cons' ha pa_nil') (.cons da .nil) (by show some (D.int ((xs.map enc).length : Nat)) = _; rw [List.length_map])
theorem p_toInt {x : Int} (ha : PJ pn S a oa) (da : Dt S oa (.int x) := by first | exact .f | exact .u rfl) : PJ pn S (dCB intD (dCons a dNil)) (.f (.int x)) := p_cb (pa_cons' ha pa_nil') (.cons da .nil) rfl
inductive Cl : Opd → D → Prop
  | f {d : D} : Cl (.f d) d
  | w {ds : List D} : Cl (.w ds) (.lst ds)
  | y {d : D} : Cl (.y d) d
inductive Cls : List Opd → List D → Prop
  | nil : Cls [] []
  | cons {o : Opd} {os : List Opd} {d : D} {ds : List D} : Cl o d → Cls os ds → Cls (o :: os) (d :: ds)
theorem Cl.frz {o : Opd} {d : D} {r : RV} (q : Cl o d) (k : ROk r o) (e : Env) : frzR r e = some (d, e) := by
  cases q with
  | f => cases k; rfl
  | w => cases k; show some (SV.toD _, e) = _; rw [toD_ol]
  | y => rcases k with rfl | ⟨ds, rfl, rfl⟩
         · rfl
         · show some (SV.toD _, e) = _; rw [toD_ol]
theorem Cls.frz {os : List Opd} {ds : List D} (q : Cls os ds) : ∀ {rs : List RV}, ROks rs os → ∀ e, frzRs rs e = some (ds, e) := by
  induction q with
  | nil => intro rs k e; cases rs with
    | nil => rfl
    | cons _ _ => exact k.elim
  | cons q1 q2 ih => intro rs k e; cases rs with
    | nil => exact k.elim
    | cons r rs =>
      unfold frzRs
      simp only [q1.frz k.1 e, ih k.2 e]
theorem p_lst {ds : List D} (ha : PA pn S ma os) (da : Cls os ds) (h : ds.length ≤ 1000000 := by exact Nat.le_of_ble_eq_true rfl) : PJ pn S (dLst ma) (.w ds) := fun e he => by
  obtain ⟨rs, h1, k1⟩ := ha e he
  refine ⟨.own (.ol (fzs ds)), ?_, rfl⟩
  rw [ev_lst, h1, bind_ok, da.frz k1 e]
  simp only
  rw [if_pos (size_ge (by omega))]
def PP (pn : List Nat) (S : List SD) (m : M (Option Int)) (i : Option Int) : Prop := ∀ e, Has pn S e → m e = .ok i e
theorem pp_no : PP pn S dNoPart none := fun _ _ => rfl
theorem pp_at {x : Int} (ha : PJ pn S a oa) (da : Dt S oa (.int x) := by first | exact .f | exact .u rfl) : PP pn S (dPart a) (some x) := fun e h => by
  obtain ⟨r, h1, k1⟩ := ha e h
  unfold dPart
  rw [mbind, h1, bind_ok, da.view h k1]
def cutL {α : Type} (xs : List α) (lo hi : Option Int) : List α := (xs.drop (HT.sIx xs.length 0 lo)).take (HT.sIx xs.length xs.length hi - HT.sIx xs.length 0 lo)
theorem cutD_enc {α : Type} [Enc α] (xs : List α) (lo hi : Option Int) : cutD (xs.map enc) lo hi = (cutL xs lo hi).map enc := by
  unfold cutD cutL
  simp [List.map_take, List.map_drop]
section
variable {t u : M Bool} {c1 c2 : Bool}
theorem b_t (ha : PJ pn S a (.f (.bl c1))) : PB pn S (dT a) c1 := fun e h => by
  obtain ⟨r, h1, k1⟩ := ha e h
  cases k1
  rw [ev_t, h1, bind_ok]; rfl
theorem b_tru {d : D} (ha : PJ pn S a oa) (da : Dt S oa d) (q : truD d = some c1) : PB pn S (dTru a) c1 := fun e h => by
  obtain ⟨r, h1, k1⟩ := ha e h
  rw [ev_tru, h1, bind_ok, da.view h k1]
  simp only [Option.bind, q]
theorem b_truB (ha : PJ pn S a oa) (da : Dt S oa (.bl c1) := by first | exact .f | exact .u rfl) : PB pn S (dTru a) c1 := b_tru ha da rfl
theorem b_truL {α : Type} [Enc α] {xs : List α} (ha : PJ pn S a oa) (da : Dt S oa (enc xs) := by first | exact .f | exact .v rfl | exact .vz rfl | exact .w | exact .y | exact .u rfl) : PB pn S (dTru a) (!xs.isEmpty) := b_tru ha da (by
  show some (!(xs.map enc).isEmpty) = _
  cases xs <;> rfl)
theorem b_and (h1 : PB pn S t c1) (h2 : PB pn S u c2) : PB pn S (dAnd t u) (c1 && c2) := fun e h => by
  rw [ev_and, h1 e h, bind_ok]; cases c1 with
  | true => exact h2 e h
  | false => rfl
theorem b_not (h1 : PB pn S t c1) : PB pn S (dNot t) (!c1) := fun e h => by rw [ev_not, h1 e h, bind_ok]
end
end
end VF
set_option maxRecDepth 100000
set_option maxHeartbeats 4000000
namespace VF
set_option autoImplicit false
open PySem L2
open Enc (enc)
def geti {α : Type} (xs : List α) (i : Int) : Res α := match atI xs i with
  | some a => .ok a
  | none => .st
@[irreducible] def ok62 (n : Int) : Bool := small62 n
@[irreducible] def okDiv (y : Int) : Bool := decide (0 < y ∧ y < 1073741824)
@[irreducible] def okMul (x y : Int) : Bool := inB x 64 || inB y 64
@[irreducible] def okPow (x y : Int) : Bool := decide (0 ≤ y ∧ y ≤ 1000000 ∧ x.natAbs < 2 ^ 64)
@[irreducible] def okLt (n : Nat) : Bool := decide (n < sizeLine)
@[irreducible] def okLe (n : Nat) : Bool := decide (n ≤ sizeLine)
@[irreducible] def okLr (n : Int) : Bool := decide (n ≤ 1000000 ∧ -(2 ^ 62) ≤ n)
theorem ok62_eq (n : Int) : ok62 n = small62 n := by rw [ok62]
theorem okDiv_eq (y : Int) : okDiv y = decide (0 < y ∧ y < 1073741824) := by rw [okDiv]
theorem okMul_eq (x y : Int) : okMul x y = (inB x 64 || inB y 64) := by rw [okMul]
theorem okPow_eq (x y : Int) : okPow x y = decide (0 ≤ y ∧ y ≤ 1000000 ∧ x.natAbs < 2 ^ 64) := by rw [okPow]
theorem okLt_eq (n : Nat) : okLt n = decide (n < sizeLine) := by rw [okLt]
theorem okLe_eq (n : Nat) : okLe n = decide (n ≤ sizeLine) := by rw [okLe]
def modR (x y : Int) : Res Int := if 0 < y then .ok (x % y) else .st
def divR (x y : Int) : Res Int := if okDiv y = true then .ok (x / y) else .st
def mulR (x y : Int) : Res Int := if okMul x y = true then .ok (x * y) else .st
def powR (x y : Int) : Res Int := if okPow x y = true then .ok (x ^ y.toNat) else .st
def appR {α : Type} (xs : List α) (x : α) : Res (List α) := if okLt xs.length = true then .ok (xs ++ [x]) else .st
def irng (lo : Int) (n : Nat) : List Int := (List.range n).map fun i => lo + (i : Nat)
def rngR (lo hi : Int) : Res (List Int) := if (ok62 lo && ok62 hi) = true then .ok (irng lo (hi - lo).toNat) else .st
def rng1R (n : Int) : Res (List Int) := if ok62 n = true then .ok (irng 0 n.toNat) else .st
def catR {α : Type} (xs ys : List α) : Res (List α) := if okLe (xs.length + ys.length) = true then .ok (xs ++ ys) else .st
def enumL {α : Type} (xs : List α) : List (Int × α) := xs.mapIdx fun i x => ((i : Nat), x)
def unO {α : Type} : Option α → Res α
  | some a => .ok a
  | none => .st
inductive Lp (σ τ : Type) where
  | go (s : σ) | bk (s : σ) | out (t : τ)
def foldR {α σ : Type} (f : α → σ → Res σ) : List α → σ → Res σ
  | [], s => .ok s
  | x :: xs, s => (f x s).bind fun s' => foldR f xs s'
def compGo {α β σ : Type} (f : α → σ → Res (Option β × σ)) : List α → σ → List β → Res (List β × σ)
  | [], s, acc => .ok (acc, s)
  | x :: xs, s, acc => match f x s with
    | .ok (some y, s') => compGo f xs s' (acc ++ [y])
    | .ok (none, s') => compGo f xs s' acc
    | _ => .st
def filS {α β σ : Type} (f : α → σ → Res (Option β × σ)) (xs : List α) (s : σ) : Res (List β × σ) := if okLe xs.length = true then compGo f xs s [] else .st
def mapS {α β σ : Type} (f : α → σ → Res (β × σ)) (xs : List α) (s : σ) : Res (List β × σ) := filS (fun x s => (f x s).bind fun p => .ok (some p.1, p.2)) xs s
def filC {α β : Type} (f : α → Res (Option β)) (xs : List α) : Res (List β) := (filS (fun x (_ : Unit) => (f x).bind fun o => .ok (o, ())) xs ()).bind fun p => .ok p.1
def mapC {α β : Type} (f : α → Res β) (xs : List α) : Res (List β) := filC (fun x => (f x).bind fun y => .ok (some y)) xs
section
variable {α β γ δ σ τ : Type} {pn : List Nat} {S S' S1 S2 : List SD} {e : Env} {X : Exc → Env → Prop} {P : Res α} {G : α → γ → Env → Prop} {r q : RV} {o oa ob oc : Opd} {d x y z : D}
theorem c_pure {a : M RV} {K : RV → M γ} (h : Has pn S e) (ha : PJ pn S a o) (k : ∀ r, ROk r o → Sm (K r e) P G X) : Sm ((a e).bind K) P G X := by
  obtain ⟨r, h1, k1⟩ := ha e h
  rw [h1]; exact k r k1
theorem c_pureB {t : M Bool} {c : Bool} {K : Bool → M γ} (h : Has pn S e) (ht : PB pn S t c) (k : Sm (K c e) P G X) : Sm ((t e).bind K) P G X := by
  rw [ht e h]; exact k
theorem c_pureA {a : M (List RV)} {os : List Opd} {K : List RV → M γ} (h : Has pn S e) (ha : PA pn S a os) (k : ∀ rs, ROks rs os → Sm (K rs e) P G X) : Sm ((a e).bind K) P G X := by
  obtain ⟨r, h1, k1⟩ := ha e h
  rw [h1]; exact k r k1
def seqK (b : M Fl) (K : Fl → M γ) : Fl → M γ := fun f => match f with
  | .nx => fun e => (b e).bind K
  | f => K f
theorem c_seq {a b : M Fl} {K : Fl → M γ} (k : Sm ((a e).bind (seqK b K)) P G X) : Sm ((dSeq a b e).bind K) P G X := by
  have : (dSeq a b e).bind K = (a e).bind (seqK b K) := by
    unfold dSeq M.bind
    cases a e with
    | st => rfl
    | ok f e => cases f <;> rfl
    | ex x e => rfl
  rw [this]; exact k
def setK (i : Nat) (K : Fl → M γ) : RV → M γ := fun r e => match putR i r e with
  | some e' => K .nx e'
  | none => .st
theorem c_set {i : Nat} {a : M RV} {K : Fl → M γ} (k : Sm ((a e).bind (setK i K)) P G X) : Sm ((dSet i a e).bind K) P G X := by
  have : (dSet i a e).bind K = (a e).bind (setK i K) := by
    unfold dSet M.bind
    cases a e with
    | st => rfl
    | ok f e =>
      show R.bind (match putR i f e with | some e' => R.ok Fl.nx e' | none => R.st) K = setK i K f e
      unfold setK
      cases putR i f e <;> rfl
    | ex x e => rfl
  rw [this]; exact k
theorem f_set {i : Nat} {K : Fl → M γ} (h : Has pn S e) (ho : ROk r o) (s : St S i o S') (hi : i ∉ pn) (k : ∀ e', Has pn S' e' → Sm (K .nx e') P G X) : Sm (setK i K r e) P G X := by
  obtain ⟨e', h1, h2⟩ := s.put h ho hi
  unfold setK; simp only [h1]; exact k e' h2
def retK (K : Fl → M γ) : RV → M γ := fun r e => K (.rt r) e
theorem c_ret {a : M RV} {K : Fl → M γ} (k : Sm ((a e).bind (retK K)) P G X) : Sm ((dRet a e).bind K) P G X := by
  have : (dRet a e).bind K = (a e).bind (retK K) := by
    unfold dRet M.bind
    cases a e <;> rfl
  rw [this]; exact k
def dropK (K : Fl → M γ) : RV → M γ := fun _ e => K .nx e
theorem c_drop {a : M RV} {K : Fl → M γ} (k : Sm ((a e).bind (dropK K)) P G X) : Sm ((dDrop a e).bind K) P G X := by
  have : (dDrop a e).bind K = (a e).bind (dropK K) := by
    unfold dDrop M.bind
    cases a e <;> rfl
  rw [this]; exact k
def ifK (a b : M Fl) (K : Fl → M γ) : Bool → M γ := fun c e => match c with
  | true => (a e).bind K
  | false => (b e).bind K
theorem c_if {t : M Bool} {a b : M Fl} {K : Fl → M γ} (k : Sm ((t e).bind (ifK a b K)) P G X) : Sm ((dIf t a b e).bind K) P G X := by
  have : (dIf t a b e).bind K = (t e).bind (ifK a b K) := by
    unfold dIf M.bind
    cases t e with
    | st => rfl
    | ok c e => cases c <;> rfl
    | ex x e => rfl
  rw [this]; exact k
theorem f_if {c : Bool} {a b : M Fl} {K : Fl → M γ} {P1 P2 : Res α} (k1 : c = true → Sm ((a e).bind K) P1 G X) (k2 : c = false → Sm ((b e).bind K) P2 G X) : Sm (ifK a b K c e) (if c = true then P1 else P2) G X := by
  cases c with
  | true => exact k1 rfl
  | false => exact k2 rfl
def Jn (pn : List Nat) (I : σ → List SD) : σ → Fl → Env → Prop := fun s f e => f = .nx ∧ Has pn (I s) e
theorem f_ifJ {c : Bool} {a b : M Fl} {K : Fl → M γ} {P1 P2 : Res σ} {k : σ → Res α} (_h : Has pn S e) (I : σ → List SD) (k1 : c = true → Sm ((a e).bind okK) P1 (Jn pn I) X) (k2 : c = false → Sm ((b e).bind okK) P2 (Jn pn I) X) (k3 : ∀ s e', Has pn (I s) e' → Sm (K .nx e') (k s) G X) :
    Sm (ifK a b K c e) ((if c = true then P1 else P2).bind k) G X := by
  have go : ∀ (m : M Fl) (p : Res σ), Sm ((m e).bind okK) p (Jn pn I) X → Sm ((m e).bind K) (p.bind k) G X := fun m p h => h.top.bind fun s f e' hj => by
    obtain ⟨rfl, hj⟩ := hj
    exact k3 s e' hj
  cases c with
  | true => exact go a P1 (k1 rfl)
  | false => exact go b P2 (k2 rfl)
theorem f_jn {I : σ → List SD} {s : σ} (h : Has pn S e) (w : W S (I s) := by first | exact W.refl _ | (repeat (first | exact W.nil | refine W.rf ?_ | refine W.cz ?_ | refine W.cc ?_ | refine W.vz ?_ | refine W.vo ?_ | refine W.an ?_))) : Sm (okK Fl.nx e) (.ok s) (Jn pn I) X := ⟨.nx, e, rfl, rfl, h.weak w⟩
theorem c_next {K : Fl → M γ} (k : Sm (K .nx e) P G X) : Sm ((dNext e).bind K) P G X := k
def opK2 (fn : D → D → Option D) (r : RV) (K : RV → M γ) : RV → M γ := fun q e => match view e r, view e q with
  | some x, some y => (match fn x y with
    | some d => K (.fz d) e
    | none => .st)
  | _, _ => .st
def opK1 (fn : D → D → Option D) (b : M RV) (K : RV → M γ) : RV → M γ := fun r e => (b e).bind (opK2 fn r K)
theorem c_op {fn : D → D → Option D} {a b : M RV} {K : RV → M γ} (k : Sm ((a e).bind (opK1 fn b K)) P G X) : Sm ((dOp fn a b e).bind K) P G X := by
  have : (dOp fn a b e).bind K = (a e).bind (opK1 fn b K) := by
    rw [ev_op, rbind_assoc]
    congr 1; funext r e
    unfold opK1
    rw [rbind_assoc]
    congr 1; funext q e
    unfold opK2
    cases view e r with
    | none => rfl
    | some x => cases view e q with
      | none => rfl
      | some y => simp only; cases fn x y <;> rfl
  rw [this]; exact k
theorem c_op2 {fn : D → D → Option D} {b : M RV} {K : RV → M γ} (k : Sm ((b e).bind (opK2 fn r K)) P G X) : Sm (opK1 fn b K r e) P G X := k
theorem f_op {fn : D → D → Option D} {K : RV → M γ} (h : Has pn S e) (k1 : ROk r oa) (k2 : ROk q ob) (da : Dt S oa x) (db : Dt S ob y) (hf : fn x y = some z) (k : Sm (K (.fz z) e) P G X) : Sm (opK2 fn r K q e) P G X := by
  unfold opK2
  rw [da.view h k1, db.view h k2]
  simp only [hf]; exact k
section
variable {i j : Int} {K : RV → M γ} {k : Int → Res α} (h : Has pn S e) (k1 : ROk r oa) (k2 : ROk q ob) (da : Dt S oa (.int i) := by first | exact .f | exact .u rfl) (db : Dt S ob (.int j) := by first | exact .f | exact .u rfl)
include h k1 k2 da db
theorem f_cmp {g : Int → Int → Bool} (kk : Sm (K (.fz (.bl (g i j))) e) P G X) : Sm (opK2 (fB g) r K q e) P G X := f_op h k1 k2 da db rfl kk
theorem f_mod (kk : ∀ v, Sm (K (.fz (.int v)) e) (k v) G X) : Sm (opK2 fMod r K q e) ((modR i j).bind k) G X := by
  by_cases c : 0 < j
  · unfold modR; rw [if_pos c]; exact f_op h k1 k2 da db (if_pos c) (kk _)
  · unfold modR; rw [if_neg c]; first | trivial | exact ⟨trivial⟩
theorem f_div (kk : ∀ v, Sm (K (.fz (.int v)) e) (k v) G X) : Sm (opK2 fDiv r K q e) ((divR i j).bind k) G X := by
  by_cases c : 0 < j ∧ j < 1073741824
  · unfold divR; rw [okDiv_eq, if_pos (decide_eq_true c)]; exact f_op h k1 k2 da db (if_pos c) (kk _)
  · unfold divR; rw [okDiv_eq, if_neg (by rw [decide_eq_true_iff]; exact c)]; first | trivial | exact ⟨trivial⟩
theorem f_mul (kk : ∀ v, Sm (K (.fz (.int v)) e) (k v) G X) : Sm (opK2 fMul r K q e) ((mulR i j).bind k) G X := by
  by_cases c : (inB i 64 || inB j 64) = true
  · unfold mulR; rw [okMul_eq, if_pos c]; exact f_op h k1 k2 da db (if_pos c) (kk _)
  · unfold mulR; rw [okMul_eq, if_neg c]; first | trivial | exact ⟨trivial⟩
theorem f_pow (kk : ∀ v, Sm (K (.fz (.int v)) e) (k v) G X) : Sm (opK2 fPow r K q e) ((powR i j).bind k) G X := by
  by_cases c : 0 ≤ j ∧ j ≤ 1000000 ∧ i.natAbs < 2 ^ 64
  · unfold powR; rw [okPow_eq, if_pos (decide_eq_true c)]; exact f_op h k1 k2 da db (if_pos c) (kk _)
  · unfold powR; rw [okPow_eq, if_neg (by rw [decide_eq_true_iff]; exact c)]; first | trivial | exact ⟨trivial⟩
end
def tK (K : Bool → M γ) : RV → M γ := fun r e => match view e r with
  | some (.bl b) => K b e
  | _ => .st
theorem c_t {a : M RV} {K : Bool → M γ} (k : Sm ((a e).bind (tK K)) P G X) : Sm ((dT a e).bind K) P G X := by
  have : (dT a e).bind K = (a e).bind (tK K) := by
    rw [ev_t, rbind_assoc]
    congr 1; funext r e
    unfold tK
    cases view e r with
    | none => rfl
    | some d => cases d <;> rfl
  rw [this]; exact k
theorem f_t {c : Bool} {K : Bool → M γ} (h : Has pn S e) (k1 : ROk r o) (kk : Sm (K c e) P G X) (da : Dt S o (.bl c) := by first | exact .f | exact .u rfl) : Sm (tK K r e) P G X := by
  unfold tK; rw [da.view h k1]; exact kk
def truK (K : Bool → M γ) : RV → M γ := fun r e => match (view e r).bind truD with
  | some b => K b e
  | none => .st
theorem c_tru {a : M RV} {K : Bool → M γ} (k : Sm ((a e).bind (truK K)) P G X) : Sm ((dTru a e).bind K) P G X := by
  have : (dTru a e).bind K = (a e).bind (truK K) := by
    rw [ev_tru, rbind_assoc]
    congr 1; funext r e
    unfold truK
    cases (view e r).bind truD <;> rfl
  rw [this]; exact k
theorem f_tru {c : Bool} {K : Bool → M γ} (h : Has pn S e) (k1 : ROk r o) (da : Dt S o d) (hd : truD d = some c) (kk : Sm (K c e) P G X) : Sm (truK K r e) P G X := by
  unfold truK; rw [da.view h k1]; simp only [Option.bind, hd]; exact kk
def andK (u : M Bool) (K : Bool → M γ) : Bool → M γ := fun c e => match c with
  | true => (u e).bind K
  | false => K false e
def orK (u : M Bool) (K : Bool → M γ) : Bool → M γ := fun c e => match c with
  | true => K true e
  | false => (u e).bind K
theorem c_and {t u : M Bool} {K : Bool → M γ} (k : Sm ((t e).bind (andK u K)) P G X) : Sm ((dAnd t u e).bind K) P G X := by
  have : (dAnd t u e).bind K = (t e).bind (andK u K) := by
    unfold dAnd M.bind
    cases t e with
    | st => rfl
    | ok c e => cases c <;> rfl
    | ex x e => rfl
  rw [this]; exact k
theorem c_or {t u : M Bool} {K : Bool → M γ} (k : Sm ((t e).bind (orK u K)) P G X) : Sm ((dOr t u e).bind K) P G X := by
  have : (dOr t u e).bind K = (t e).bind (orK u K) := by
    unfold dOr M.bind
    cases t e with
    | st => rfl
    | ok c e => cases c <;> rfl
    | ex x e => rfl
  rw [this]; exact k
def notK (K : Bool → M γ) : Bool → M γ := fun c e => K (!c) e
theorem c_not {t : M Bool} {K : Bool → M γ} (k : Sm ((t e).bind (notK K)) P G X) : Sm ((dNot t e).bind K) P G X := by
  have : (dNot t e).bind K = (t e).bind (notK K) := by
    unfold dNot M.bind
    cases t e <;> rfl
  rw [this]; exact k
theorem f_not {c : Bool} {K : Bool → M γ} (kk : Sm (K (!c) e) P G X) : Sm (notK K c e) P G X := kk
def Tb (pn : List Nat) (S : List SD) : Bool → Bool → Env → Prop := fun b b' e => b' = b ∧ Has pn S e
theorem f_tb {c : Bool} (h : Has pn S e) : Sm (okK c e) (.ok c) (Tb pn S) X := ⟨c, e, rfl, rfl, h⟩
theorem f_and {c : Bool} {u : M Bool} {P1 : Res Bool} {K : Bool → M γ} {k : Bool → Res α} (h : Has pn S e) (k1 : c = true → Sm ((u e).bind okK) P1 (Tb pn S) X) (kk : ∀ b e', Has pn S e' → Sm (K b e') (k b) G X) : Sm (andK u K c e) ((if c = true then P1 else .ok false).bind k) G X := by
  cases c with
  | true => exact (k1 rfl).top.bind fun a b e' hj => by obtain ⟨rfl, hj⟩ := hj; exact kk _ _ hj
  | false => exact kk _ _ h
theorem f_or {c : Bool} {u : M Bool} {P1 : Res Bool} {K : Bool → M γ} {k : Bool → Res α} (h : Has pn S e) (k1 : c = false → Sm ((u e).bind okK) P1 (Tb pn S) X) (kk : ∀ b e', Has pn S e' → Sm (K b e') (k b) G X) : Sm (orK u K c e) ((if c = true then .ok true else P1).bind k) G X := by
  cases c with
  | false => exact (k1 rfl).top.bind fun a b e' hj => by obtain ⟨rfl, hj⟩ := hj; exact kk _ _ hj
  | true => exact kk _ _ h
def Ve (pn : List Nat) (S : List SD) (o : δ → Opd) : δ → RV → Env → Prop := fun v r e => ROk r (o v) ∧ Has pn S e
theorem f_ve {o : δ → Opd} {v : δ} (h : Has pn S e) (k : ROk r (o v)) : Sm (okK r e) (.ok v) (Ve pn S o) X := ⟨r, e, rfl, k, h⟩
def andVK (b : M RV) (K : RV → M γ) : RV → M γ := fun r e => match (view e r).bind blOf with
  | some true => (b e).bind K
  | some false => K (.fz (.bl false)) e
  | none => .st
theorem c_andV {a b : M RV} {K : RV → M γ} (k : Sm ((a e).bind (andVK b K)) P G X) : Sm ((dAndV a b e).bind K) P G X := by
  have : (dAndV a b e).bind K = (a e).bind (andVK b K) := by
    rw [ev_andV, rbind_assoc]
    congr 1; funext r e
    unfold andVK
    cases (view e r).bind blOf with
    | none => rfl
    | some c => cases c <;> rfl
  rw [this]; exact k
abbrev oB : Bool → Opd := fun c => .f (.bl c)
theorem f_andV {c : Bool} {b : M RV} {P1 : Res Bool} {K : RV → M γ} {k : Bool → Res α} (h : Has pn S e) (kr : ROk r (.f (.bl c))) (k1 : c = true → Sm ((b e).bind okK) P1 (Ve pn S oB) X) (kk : ∀ v e', Has pn S e' → Sm (K (.fz (.bl v)) e') (k v) G X) : Sm (andVK b K r e) ((if c = true then P1 else .ok false).bind k) G X := by
  cases kr
  unfold andVK
  simp only [view_fz, Option.bind, blOf_bl]
  cases c with
  | true => exact (k1 rfl).top.bind fun a b e' hj => by obtain ⟨hr, hj⟩ := hj; cases hr; exact kk _ _ hj
  | false => exact kk _ _ h
def ixK2 (r : RV) (K : RV → M γ) : RV → M γ := fun q e => match view e q with
  | some (.int i) => (match itemR e r i with
    | some d => K (.fz d) e
    | none => .st)
  | _ => .st
def ixK1 (b : M RV) (K : RV → M γ) : RV → M γ := fun r e => (b e).bind (ixK2 r K)
theorem c_ix {a b : M RV} {K : RV → M γ} (k : Sm ((a e).bind (ixK1 b K)) P G X) : Sm ((dIx a b e).bind K) P G X := by
  have : (dIx a b e).bind K = (a e).bind (ixK1 b K) := by
    rw [ev_ix, rbind_assoc]
    congr 1; funext r e
    unfold ixK1
    rw [rbind_assoc]
    congr 1; funext q e
    unfold ixK2
    cases view e q with
    | none => rfl
    | some x => cases x <;> first | rfl | (simp only; cases itemR e r _ <;> rfl)
  rw [this]; exact k
theorem c_ix2 {b : M RV} {K : RV → M γ} (k : Sm ((b e).bind (ixK2 r K)) P G X) : Sm (ixK1 b K r e) P G X := k
theorem item_dt {ds : List D} {i : Int} (h : Has pn S e) (k : ROk r o) (q : Dt S o (.lst ds)) : itemR e r i = atI ds i := by
  cases q with
  | f => cases k; rfl
  | w => cases k; exact kid_map ds i
  | y => rcases k with rfl | ⟨ds', e1, rfl⟩
         · rfl
         · cases e1; exact kid_map ds i
  | v q =>
    cases k
    obtain ⟨o, h1, h2⟩ := h.slot q
    cases h2
    show (match e.sl[_]? with | some (some s) => itemS s i | _ => none) = _
    rw [h1]; exact kid_map ds i
  | vz q =>
    cases k
    obtain ⟨o, h1, h2⟩ := h.slot q
    cases h2
    show (match e.sl[_]? with | some (some s) => itemS s i | _ => none) = _
    rw [h1]; rfl
  | u q =>
    rcases k with rfl | rfl
    · rfl
    · obtain ⟨o, h1, h2⟩ := h.slot q
      show (match e.sl[_]? with | some (some s) => itemS s i | _ => none) = _
      rcases h2 with rfl | ⟨ds', e1, rfl⟩
      · rw [h1]; rfl
      · cases e1; rw [h1]; exact kid_map ds i
  | o e => cases e
  | x q e => cases e
theorem f_ix {ω : Type} [Enc ω] {xs : List ω} {i : Int} {K : RV → M γ} {k : ω → Res α} (h : Has pn S e) (k1 : ROk r oa) (k2 : ROk q ob) (kk : ∀ v, Sm (K (.fz (enc v)) e) (k v) G X) (da : Dt S oa (enc xs) := by first | exact .f | exact .v rfl | exact .vz rfl | exact .w | exact .y | exact .u rfl) (db : Dt S ob (.int i) := by first | exact .f | exact .u rfl) : Sm (ixK2 r K q e) ((geti xs i).bind k) G X := by
  unfold ixK2
  rw [db.view h k2]
  simp only
  rw [item_dt h k1 da]
  unfold geti
  rw [atI_map]
  cases atI xs i with
  | none => first | trivial | exact ⟨trivial⟩
  | some v => exact kk v
end
end VF
set_option maxRecDepth 100000
set_option maxHeartbeats 4000000
namespace VF
set_option autoImplicit false
open PySem L2
open Enc (enc)
section
variable {α β γ δ σ τ : Type} {pn : List Nat} {S S' S1 S2 : List SD} {e : Env} {X : Exc → Env → Prop} {P : Res α} {G : α → γ → Env → Prop} {r q : RV} {o oa ob oc : Opd} {d x y z : D}
def consK2 (r : RV) (K : List RV → M γ) : List RV → M γ := fun rs e => K (r :: rs) e
def consK1 (b : M (List RV)) (K : List RV → M γ) : RV → M γ := fun r e => (b e).bind (consK2 r K)
theorem c_cons {a : M RV} {b : M (List RV)} {K : List RV → M γ} (k : Sm ((a e).bind (consK1 b K)) P G X) : Sm ((dCons a b e).bind K) P G X := by
  have : (dCons a b e).bind K = (a e).bind (consK1 b K) := by
    rw [ev_cons, rbind_assoc]
    congr 1; funext r e
    unfold consK1
    rw [rbind_assoc]
    rfl
  rw [this]; exact k
theorem c_cons2 {b : M (List RV)} {K : List RV → M γ} (k : Sm ((b e).bind (consK2 r K)) P G X) : Sm (consK1 b K r e) P G X := k
theorem f_cons {rs : List RV} {K : List RV → M γ} (k : Sm (K (r :: rs) e) P G X) : Sm (consK2 r K rs e) P G X := k
theorem c_nil {K : List RV → M γ} (k : Sm (K [] e) P G X) : Sm ((dNil e).bind K) P G X := k
def cbK (fn : List D → Option D) (K : RV → M γ) : List RV → M γ := fun rs e => match rs.mapM (view e) with
  | some xs => (match fn xs with
    | some d => K (.fz d) e
    | none => .st)
  | none => .st
theorem c_cb {fn : List D → Option D} {a : M (List RV)} {K : RV → M γ} (k : Sm ((a e).bind (cbK fn K)) P G X) : Sm ((dCB fn a e).bind K) P G X := by
  have : (dCB fn a e).bind K = (a e).bind (cbK fn K) := by
    rw [ev_cb, rbind_assoc]
    congr 1; funext r e
    unfold cbK
    cases r.mapM (view e) with
    | none => rfl
    | some x => simp only; cases fn x <;> rfl
  rw [this]; exact k
theorem f_cb {fn : List D → Option D} {rs : List RV} {os : List Opd} {ds : List D} {K : RV → M γ} (h : Has pn S e) (kr : ROks rs os) (da : Dts S os ds) (hf : fn ds = some d) (k : Sm (K (.fz d) e) P G X) : Sm (cbK fn K rs e) P G X := by
  unfold cbK; rw [da.view h kr]; simp only [hf]; exact k
def lstK (K : RV → M γ) : List RV → M γ := fun rs e => match frzRs rs e with
  | some (ds, e') => if ds.length ≤ sizeLine then K (.own (.ol (fzs ds))) e' else .st
  | none => .st
def tupK (K : RV → M γ) : List RV → M γ := fun rs e => match frzRs rs e with
  | some (ds, e') => if ds.length ≤ sizeLine then K (.fz (.tup ds)) e' else .st
  | none => .st
theorem c_lst {a : M (List RV)} {K : RV → M γ} (k : Sm ((a e).bind (lstK K)) P G X) : Sm ((dLst a e).bind K) P G X := by
  have : (dLst a e).bind K = (a e).bind (lstK K) := by
    rw [ev_lst, rbind_assoc]
    congr 1; funext r e
    unfold lstK
    cases frzRs r e with
    | none => rfl
    | some x => simp only; split <;> rfl
  rw [this]; exact k
theorem c_tup {a : M (List RV)} {K : RV → M γ} (k : Sm ((a e).bind (tupK K)) P G X) : Sm ((dTup a e).bind K) P G X := by
  have : (dTup a e).bind K = (a e).bind (tupK K) := by
    unfold dTup
    rw [mbind, rbind_assoc]
    congr 1; funext r e
    unfold tupK
    cases frzRs r e with
    | none => rfl
    | some x => simp only; split <;> rfl
  rw [this]; exact k
theorem f_lst {rs : List RV} {os : List Opd} {ds : List D} {K : RV → M γ} (h : Has pn S e) (kr : ROks rs os) (da : Fzs S os ds S') (hl : ds.length ≤ 1000000) (k : ∀ r e', ROk r (.w ds) → Has pn S' e' → Sm (K r e') P G X) : Sm (lstK K rs e) P G X := by
  obtain ⟨e', h1, h2⟩ := da.frz h kr
  unfold lstK; rw [h1]; simp only
  rw [if_pos (size_ge (by omega))]
  exact k _ _ rfl h2
theorem f_tup {rs : List RV} {os : List Opd} {ds : List D} {K : RV → M γ} (h : Has pn S e) (kr : ROks rs os) (da : Fzs S os ds S') (hl : ds.length ≤ 1000000) (k : ∀ r e', ROk r (.f (.tup ds)) → Has pn S' e' → Sm (K r e') P G X) : Sm (tupK K rs e) P G X := by
  obtain ⟨e', h1, h2⟩ := da.frz h kr
  unfold tupK; rw [h1]; simp only
  rw [if_pos (size_ge (by omega))]
  exact k _ _ rfl h2
def slK (l h : M (Option Int)) (K : RV → M γ) : RV → M γ := fun r e => match frzR r e with
  | some (.lst ds, e1) => (l e1).bind fun lo e2 => (h e2).bind fun hi e3 => K (.own (.ol (fzs (cutD ds lo hi)))) e3
  | _ => .st
theorem c_sl {a : M RV} {l h : M (Option Int)} {K : RV → M γ} (k : Sm ((a e).bind (slK l h K)) P G X) : Sm ((dSl a l h e).bind K) P G X := by
  have : (dSl a l h e).bind K = (a e).bind (slK l h K) := by
    unfold dSl
    rw [mbind, rbind_assoc]
    congr 1; funext r e
    unfold slK
    cases frzR r e with
    | none => rfl
    | some p =>
      obtain ⟨d, e1⟩ := p
      cases d <;> first | rfl | (simp only [rbind_assoc]; rfl)
  rw [this]; exact k
theorem f_sl {ω : Type} [Enc ω] {xs : List ω} {ml mh : M (Option Int)} {lo hi : Option Int} {K : RV → M γ} (h : Has pn S e) (kr : ROk r o) (da : Fz S o (enc xs) S') (hl : PP pn S' ml lo) (hh : PP pn S' mh hi) (k : ∀ r e', ROk r (.w (encs (cutL xs lo hi))) → Has pn S' e' → Sm (K r e') P G X) : Sm (slK ml mh K r e) P G X := by
  obtain ⟨e', h1, h2⟩ := da.frz h kr
  unfold slK; rw [h1]
  show Sm ((ml e').bind _) P G X
  rw [hl e' h2, bind_ok, hh e' h2, bind_ok, cutD_enc]
  exact k _ _ rfl h2
def addK2 (ds : List D) (K : RV → M γ) : RV → M γ := fun q e2 => match frzR q e2 with
    | some (.lst es, e3) => if ds.length + es.length ≤ sizeLine then K (.own (.ol (fzs (ds ++ es)))) e3 else .st
    | _ => .st
def addK1 (b : M RV) (K : RV → M γ) : RV → M γ := fun r e => match frzR r e with
  | some (.lst ds, e1) => (b e1).bind (addK2 ds K)
  | _ => .st
theorem c_addL {a b : M RV} {K : RV → M γ} (k : Sm ((a e).bind (addK1 b K)) P G X) : Sm ((dAddL a b e).bind K) P G X := by
  have : (dAddL a b e).bind K = (a e).bind (addK1 b K) := by
    unfold dAddL
    rw [mbind, rbind_assoc]
    congr 1; funext r e
    unfold addK1
    cases frzR r e with
    | none => rfl
    | some p =>
      obtain ⟨d, e1⟩ := p
      cases d with
      | lst ds =>
        simp only [rbind_assoc]
        congr 1; funext q e2
        unfold addK2
        cases frzR q e2 with
        | none => rfl
        | some p =>
          obtain ⟨d, e3⟩ := p
          cases d with
          | lst es => simp only; split <;> rfl
          | _ => rfl
      | _ => rfl
  rw [this]; exact k
theorem f_addL1 {ω : Type} [Enc ω] {xs : List ω} {b : M RV} {K : RV → M γ} (h : Has pn S e) (kr : ROk r o) (da : Fz S o (enc xs) S') (k : ∀ e', Has pn S' e' → Sm ((b e').bind (addK2 (encs xs) K)) P G X) : Sm (addK1 b K r e) P G X := by
  obtain ⟨e', h1, h2⟩ := da.frz h kr
  unfold addK1; rw [h1]; exact k _ h2
theorem f_addL2 {ω : Type} [Enc ω] {xs ys : List ω} {K : RV → M γ} {k : List ω → Res α} (h : Has pn S e) (kr : ROk r o) (da : Fz S o (enc ys) S') (kk : ∀ v r e', ROk r (.w (encs v)) → Has pn S' e' → Sm (K r e') (k v) G X) : Sm (addK2 (encs xs) K r e) ((catR xs ys).bind k) G X := by
  obtain ⟨e', h1, h2⟩ := da.frz h kr
  unfold addK2; rw [h1]
  show Sm (if (encs xs).length + (encs ys).length ≤ sizeLine then K (.own (.ol (fzs (encs xs ++ encs ys)))) e' else .st) _ G X
  unfold catR
  simp only [encs, List.length_map, okLe_eq, decide_eq_true_eq]
  split
  · refine kk (xs ++ ys) _ e' ?_ h2
    simp [ROk]
  · first | trivial | exact ⟨trivial⟩
theorem rngD_enc (lo : Int) (n : Nat) : rngD lo n = (irng lo n).map enc := by
  unfold rngD irng
  rw [List.map_map]
  rfl
def appK (i : Nat) (K : RV → M γ) : RV → M γ := fun r e => match frzR r e with
    | some (d, e1) => (match e1.sl[i]? with
      | some (some (.ol xs)) => if xs.length < sizeLine then K (.fz .non) (e1.setS i (.ol (xs ++ [.fz d]))) else .st
      | _ => .st)
    | none => .st
theorem c_app {i : Nat} {ds : List D} {a : M RV} {K : RV → M γ} (h : Has pn S e) (hi : S[i]? = some (.ol ds)) (k : Sm ((a e).bind (appK i K)) P G X) : Sm ((dApp i a e).bind K) P G X := by
  obtain ⟨o, h1, h2⟩ := h.slot hi
  cases h2
  have : (dApp i a e).bind K = (a e).bind (appK i K) := by
    rw [ev_app, h1]
    simp only [rbind_assoc]
    congr 1; funext r e
    unfold appK
    cases frzR r e with
    | none => rfl
    | some p =>
      simp only
      cases p.2.sl[i]? with
      | none => rfl
      | some o => cases o with
        | none => rfl
        | some s => cases s <;> first | rfl | (simp only; split <;> rfl)
  rw [this]; exact k
theorem f_app {ω : Type} [Enc ω] {i : Nat} {xs : List ω} {v : ω} {K : RV → M γ} {k : List ω → Res α} (h : Has pn S e) (kr : ROk r o) (da : Fz S o (enc v) S') (hi : S'[i]? = some (.ol (encs xs))) (kk : ∀ v r e', ROk r (.f .non) → Has pn (S'.set i (.ol (encs v))) e' → Sm (K r e') (k v) G X) : Sm (appK i K r e) ((appR xs v).bind k) G X := by
  obtain ⟨e', h1, h2⟩ := da.frz h kr
  obtain ⟨o', h3, h4⟩ := h2.slot hi
  cases h4
  unfold appK appR
  rw [h1]
  simp only [h3, fzs_len, encs, List.length_map, okLt_eq, decide_eq_true_eq]
  split
  · refine kk (xs ++ [v]) _ _ rfl (h2.setS i ?_)
    simp [SD.ok, fzs]
  · first | trivial | exact ⟨trivial⟩
def augK (i : Nat) (f : Int → Int → Int) (x : Int) (K : Fl → M γ) : RV → M γ := fun r e => match view e r with
    | some (.int y) => (match putR i (.fz (.int (f x y))) e with
      | some e' => K .nx e'
      | none => .st)
    | _ => .st
theorem c_aug {i : Nat} {f : Int → Int → Int} {x : Int} {a : M RV} {K : Fl → M γ} (h : Has pn S e) (hi : S[i]? = some (.fz (.int x))) (k : Sm ((a e).bind (augK i f x K)) P G X) : Sm ((dAug i f a e).bind K) P G X := by
  obtain ⟨o, h1, h2⟩ := h.slot hi
  cases h2
  have : (dAug i f a e).bind K = (a e).bind (augK i f x K) := by
    unfold dAug
    rw [h1]
    simp only [rbind_assoc]
    congr 1; funext r e
    unfold augK
    cases view e r with
    | none => rfl
    | some d => cases d <;> first | rfl | (simp only; cases putR i _ e <;> rfl)
  rw [this]; exact k
theorem f_aug {i : Nat} {f : Int → Int → Int} {x y : Int} {K : Fl → M γ} {k : Int → Res α} (h : Has pn S e) (kr : ROk r o) (kk : ∀ v e', Has pn (S.set i (.fz (.int v))) e' → Sm (K .nx e') (k v) G X) (da : Dt S o (.int y) := by first | exact .f | exact .u rfl) (hi : i ∉ pn := by decide) : Sm (augK i f x K r e) ((Res.ok (f x y)).bind k) G X := by
  unfold augK
  rw [da.view h kr]
  have hi' : i ∉ e.pn := by rw [h.pn]; exact hi
  simp only [putR, if_neg hi']
  exact kk _ _ (h.setS i rfl)
def itK (K : List D → M γ) : RV → M γ := fun r e => match frzR r e with
  | some (d, e1) => (match walk d with
    | some ds => K ds e1
    | none => .st)
  | none => .st
theorem c_it {a : M RV} {K : List D → M γ} (k : Sm ((a e).bind (itK K)) P G X) : Sm ((dIt a e).bind K) P G X := by
  have : (dIt a e).bind K = (a e).bind (itK K) := by
    rw [ev_it, rbind_assoc]
    congr 1; funext r e
    unfold itK
    cases frzR r e with
    | none => rfl
    | some p => simp only; cases walk p.1 <;> rfl
  rw [this]; exact k
theorem f_it {ω : Type} [Enc ω] {xs : List ω} {K : List D → M γ} (h : Has pn S e) (kr : ROk r o) (da : Fz S o (enc xs) S') (k : ∀ e', Has pn S' e' → Sm (K (xs.map enc) e') P G X) : Sm (itK K r e) P G X := by
  obtain ⟨e', h1, h2⟩ := da.frz h kr
  unfold itK; rw [h1]; exact k _ h2
def rg1K (K : List D → M γ) : List RV → M γ := fun rs e => match rs.mapM (view e) with
  | some ds => (match oneI ds with
    | some j => if small62 j = true then K (rngD 0 j.toNat) e else .st
    | none => .st)
  | none => .st
theorem c_rng1 {a : M (List RV)} {K : List D → M γ} (k : Sm ((a e).bind (rg1K K)) P G X) : Sm ((dRng1 a e).bind K) P G X := by
  have : (dRng1 a e).bind K = (a e).bind (rg1K K) := by
    rw [ev_rng1, rbind_assoc]
    congr 1; funext r e
    unfold rg1K
    cases r.mapM (view e) with
    | none => rfl
    | some ds => simp only; cases oneI ds with
      | none => rfl
      | some j => simp only; split <;> rfl
  rw [this]; exact k
theorem f_rng1 {j : Int} {K : List D → M γ} {k : List Int → Res α} (h : Has pn S e) (kr : ROk r o) (kk : ∀ v : List Int, Sm (K (v.map enc) e) (k v) G X) (da : Dt S o (.int j) := by first | exact .f | exact .u rfl) : Sm (rg1K K [r] e) ((rng1R j).bind k) G X := by
  unfold rg1K rng1R
  rw [(Dts.cons da .nil).view h (rs := [r]) ⟨kr, trivial⟩]
  simp only [oneI_int, ok62_eq]
  split
  · rw [rngD_enc]; exact kk _
  · first | trivial | exact ⟨trivial⟩
def rg2K (K : List D → M γ) : List RV → M γ := fun rs e => match rs.mapM (view e) with
  | some ds => (match twoI ds with
    | some (i, j) => if (small62 i && small62 j) = true then K (rngD i (j - i).toNat) e else .st
    | none => .st)
  | none => .st
theorem c_rng2 {a : M (List RV)} {K : List D → M γ} (k : Sm ((a e).bind (rg2K K)) P G X) : Sm ((dRng2 a e).bind K) P G X := by
  have : (dRng2 a e).bind K = (a e).bind (rg2K K) := by
    rw [ev_rng2, rbind_assoc]
    congr 1; funext r e
    unfold rg2K
    cases r.mapM (view e) with
    | none => rfl
    | some ds => simp only; cases twoI ds with
      | none => rfl
      | some j => simp only; split <;> rfl
  rw [this]; exact k
theorem f_rng2 {i j : Int} {K : List D → M γ} {k : List Int → Res α} (h : Has pn S e) (kr : ROk r o) (kq : ROk q ob) (kk : ∀ v : List Int, Sm (K (v.map enc) e) (k v) G X) (da : Dt S o (.int i) := by first | exact .f | exact .u rfl) (db : Dt S ob (.int j) := by first | exact .f | exact .u rfl) : Sm (rg2K K [r, q] e) ((rngR i j).bind k) G X := by
  unfold rg2K rngR
  rw [(Dts.cons da (.cons db .nil)).view h (rs := [r, q]) ⟨kr, kq, trivial⟩]
  simp only [twoI_int, ok62_eq]
  split
  · rw [rngD_enc]; exact kk _
  · first | trivial | exact ⟨trivial⟩
def enumK (K : List D → M γ) : List RV → M γ := fun rs e => match frzRs rs e with
  | some (ds, e1) => (match oneL ds with
    | some xs => K (enumD xs) e1
    | none => .st)
  | none => .st
theorem c_enum {a : M (List RV)} {K : List D → M γ} (k : Sm ((a e).bind (enumK K)) P G X) : Sm ((dEnum a e).bind K) P G X := by
  have : (dEnum a e).bind K = (a e).bind (enumK K) := by
    unfold dEnum
    rw [mbind, rbind_assoc]
    congr 1; funext r e
    unfold enumK
    cases frzRs r e with
    | none => rfl
    | some p => simp only; cases oneL p.1 <;> rfl
  rw [this]; exact k
theorem enumD_enc {ω : Type} [Enc ω] (xs : List ω) : enumD (xs.map enc) = (enumL xs).map enc := by
  unfold enumD enumL
  refine List.ext_getElem? fun n => ?_
  rw [List.getElem?_mapIdx, List.getElem?_map, List.getElem?_map, List.getElem?_mapIdx]
  cases xs[n]? <;> rfl
theorem f_enum {ω : Type} [Enc ω] {xs : List ω} {K : List D → M γ} (h : Has pn S e) (kr : ROk r o) (da : Fz S o (enc xs) S') (k : ∀ e', Has pn S' e' → Sm (K ((enumL xs).map enc) e') P G X) : Sm (enumK K [r] e) P G X := by
  obtain ⟨e', h1, h2⟩ := (Fzs.cons da .nil).frz h (rs := [r]) ⟨kr, trivial⟩
  unfold enumK; rw [h1]
  show Sm (K (enumD (xs.map enc)) e') P G X
  rw [enumD_enc]
  exact k _ h2
end
end VF
set_option maxRecDepth 100000
set_option maxHeartbeats 4000000
namespace VF
set_option autoImplicit false
open PySem L2
open Enc (enc)
section
variable {α β γ δ σ τ ω ψ : Type} {pn : List Nat} {S S' S1 S2 : List SD} {e : Env} {X : Exc → Env → Prop} {P : Res α} {G : α → γ → Env → Prop} {r q : RV} {o oa ob oc : Opd} {d x y z : D}
def TG (pn : List Nat) (S : List SD) (g : Tg) (d : D) (S' : List SD) : Prop := ∀ e, Has pn S e → ∃ e', g d e = some e' ∧ Has pn S' e'
def TGs (pn : List Nat) (S : List SD) (g : Tgs) (ds : List D) (S' : List SD) : Prop := ∀ e, Has pn S e → ∃ e', g ds e = some e' ∧ Has pn S' e'
theorem tg_n {i : Nat} (hi : i ∉ pn := by decide) : TG pn S (gN i) d (S.set i (.fz d)) := fun e h => St.put (o := .f d) (r := .fz d) h rfl .f hi
theorem tgs_no : TGs pn S gNo [] S := fun e h => ⟨e, rfl, h⟩
theorem tgs_co {g : Tg} {g' : Tgs} {ds : List D} (h1 : TG pn S g d S1) (h2 : TGs pn S1 g' ds S2) : TGs pn S (gCo g g') (d :: ds) S2 := fun e h => by
  obtain ⟨e1, k1, k2⟩ := h1 e h
  obtain ⟨e2, k3, k4⟩ := h2 e1 k2
  exact ⟨e2, by unfold gCo; simp only [k1, k3], k4⟩
theorem tg_tup {n : Nat} {g : Tgs} {ds : List D} (h : TGs pn S g ds S') (hn : ds.length = n := by rfl) : TG pn S (gTp n g) (.tup ds) S' := fun e he => by
  obtain ⟨e', k1, k2⟩ := h e he
  exact ⟨e', by unfold gTp; simp only [hn, if_true, k1], k2⟩
def forK (g : Tg) (body : M Fl) (K : Fl → M γ) : List D → M γ := fun ds e => (loopF g body ds e).bind K
theorem c_for {it : M (List D)} {g : Tg} {body : M Fl} {K : Fl → M γ} (k : Sm ((it e).bind (forK g body K)) P G X) : Sm ((dFor it g body e).bind K) P G X := by
  have : (dFor it g body e).bind K = (it e).bind (forK g body K) := by
    unfold dFor
    rw [mbind, rbind_assoc]
    rfl
  rw [this]; exact k
theorem loopF_cons {g : Tg} {body : M Fl} {ds : List D} : loopF g body (d :: ds) e = match g d e with
    | none => R.st
    | some e1 => (body e1).bind fun f e2 => match f with
      | .nx => loopF g body ds e2
      | .ct => loopF g body ds e2
      | .bk => .ok .nx e2
      | .rt r => .ok (.rt r) e2 := by
  show (match g d e with
      | none => R.st
      | some e1 => (match body e1 with
        | .ok .nx e2 => loopF g body ds e2
        | .ok .ct e2 => loopF g body ds e2
        | .ok .bk e2 => .ok .nx e2
        | .ok (.rt r) e2 => .ok (.rt r) e2
        | .ex x e2 => .ex x e2
        | .st => .st)) = _
  cases g d e with
  | none => rfl
  | some e1 =>
    simp only
    cases body e1 with
    | st => rfl
    | ok f e2 => cases f <;> rfl
    | ex x e2 => rfl
def Jc (pn : List Nat) (I : σ → List SD) : σ → Fl → Env → Prop := fun s f e => (f = .nx ∨ f = .ct) ∧ Has pn (I s) e
theorem f_fold [Enc ω] {xs : List ω} {g : Tg} {body : M Fl} {f : ω → σ → Res σ} {k : σ → Res α} {K : Fl → M γ} {I1 : ω → σ → List SD} (I : σ → List SD) (tg : ∀ x s, TG pn (I s) g (enc x) (I1 x s))
    (step : ∀ x s e, Has pn (I1 x s) e → Sm ((body e).bind okK) (f x s) (Jc pn I) X) (kk : ∀ s e', Has pn (I s) e' → Sm (K .nx e') (k s) G X) : ∀ {s0 : σ} {S : List SD} {e : Env}, Has pn S e → (w : W S (I s0) := by first | exact W.refl _ | (repeat (first | exact W.nil | refine W.rf ?_ | refine W.cz ?_ | refine W.cc ?_ | refine W.vz ?_ | refine W.vo ?_ | refine W.an ?_))) → Sm (forK g body K (xs.map enc) e) ((foldR f xs s0).bind k) G X := by
  have main : ∀ (xs : List ω) (s0 : σ) (e : Env), Has pn (I s0) e → Sm (forK g body K (xs.map enc) e) ((foldR f xs s0).bind k) G X := by
    intro xs
    induction xs with
    | nil => intro s0 e h; exact kk _ _ h
    | cons x xs ih =>
      intro s0 e h
      obtain ⟨e1, h1, h2⟩ := tg x s0 e h
      show Sm ((loopF g body (enc x :: xs.map enc) e).bind K) _ G X
      rw [loopF_cons, h1]
      simp only
      rw [rbind_assoc]
      unfold foldR
      rw [Res.bind_assoc]
      refine (step x s0 e1 h2).top.bind fun s fl e2 hj => ?_
      obtain ⟨h3, h4⟩ := hj
      rcases h3 with rfl | rfl <;> exact ih s e2 h4
  intro s0 S e h w
  exact main xs s0 e (h.weak w)
theorem f_jc {I : σ → List SD} {s : σ} (h : Has pn S e) (w : W S (I s) := by first | exact W.refl _ | (repeat (first | exact W.nil | refine W.rf ?_ | refine W.cz ?_ | refine W.cc ?_ | refine W.vz ?_ | refine W.vo ?_ | refine W.an ?_))) : Sm (okK Fl.nx e) (.ok s) (Jc pn I) X := ⟨.nx, e, rfl, .inl rfl, h.weak w⟩
def wipeS : List Nat → List SD → List SD
  | [], S => S
  | v :: vs, S => (wipeS vs S).set v .clr
theorem wipe_has (h : Has pn S e) : ∀ own, Has pn (wipeS own S) (wipeE own e)
  | [] => h
  | v :: vs => (wipe_has h vs).clr v
def cfS : SD → Bool
  | .fz _ => true
  | .clr => true
  | .cf => true
  | _ => false
def restS : List Nat → List SD → List SD → List SD
  | [], _, T => T
  | v :: vs, S, T => match S[v]? with
    | some s => restS vs S (T.set v s)
    | none => T
def restB : List Nat → List SD → List SD → Bool
  | [], _, _ => true
  | v :: vs, S, T => !vs.contains v && (match S[v]? with
    | some s => cfS s && (match T[v]? with
      | some .clr => restB vs S (T.set v s)
      | _ => false)
    | none => false)
theorem rest_has {e0 : Env} (h0 : Has pn S e0) : ∀ (own : List Nat) {T : List SD} {e : Env}, restB own S T = true → Has pn T e → ∃ e', restE own e0 e = some e' ∧ Has pn (restS own S T) e'
  | [], T, e, _, h => ⟨e, rfl, h⟩
  | v :: vs, T, e, hb, h => by
    unfold restB at hb
    rw [Bool.and_eq_true] at hb
    obtain ⟨b1, b2⟩ := hb
    cases q : S[v]? with
    | none => rw [q] at b2; cases b2
    | some s =>
      rw [q] at b2
      simp only [Bool.and_eq_true] at b2
      obtain ⟨b3, b4⟩ := b2
      cases q2 : T[v]? with
      | none => rw [q2] at b4; cases b4
      | some t =>
        rw [q2] at b4
        cases t with
        | clr =>
          simp only at b4
          obtain ⟨o, h1, h2⟩ := h0.slot q
          obtain ⟨o2, h3, h4⟩ := h.slot q2
          cases h4
          have hc : isClr e v = true := by unfold isClr; rw [h3]
          have hcont : vs.contains v = false := by simpa using b1
          have two : o = none ∨ ∃ d, o = some (.fz d) := by
            cases s with
            | fz d => exact .inr ⟨d, h2⟩
            | clr => exact .inl h2
            | cf => exact h2
            | _ => cases b3
          rcases two with rfl | ⟨d, rfl⟩
          · have h5 : Has pn (T.set v s) e := ⟨h.pn, by
              have := h.sl.set v h2
              rwa [show e.sl.set v none = e.sl from List.ext_getElem? fun n => by
                rw [List.getElem?_set]; split
                · rename_i c; subst c; split
                  · exact h3.symm
                  · rename_i hh; exact (List.getElem?_eq_none (by omega)).symm
                · rfl] at this⟩
            obtain ⟨e', k1, k2⟩ := rest_has h0 vs b4 h5
            refine ⟨e', ?_, by unfold restS; rw [q]; exact k2⟩
            unfold restE
            rw [if_neg (by rw [hcont]; decide), if_pos hc, h1]
            exact k1
          · have h5 : Has pn (T.set v s) (e.setS v (.fz d)) := h.setS v h2
            obtain ⟨e', k1, k2⟩ := rest_has h0 vs b4 h5
            refine ⟨e', ?_, by unfold restS; rw [q]; exact k2⟩
            unfold restE
            rw [if_neg (by rw [hcont]; decide), if_pos hc, h1]
            exact k1
        | _ => cases b4
def compK (own : List Nat) (g : Tg) (tt : M Bool) (te : M RV) (K : RV → M γ) : List D → M γ := fun ds e0 => if noPn own e0 = true then (match loopC own g tt te ds [] (wipeE own e0) with
  | .ok acc e1 => (match restE own e0 e1 with
    | some e2 => K (.own (.ol (fzs acc))) e2
    | none => .st)
  | _ => .st) else .st
theorem c_comp {own : List Nat} {it : M (List D)} {g : Tg} {tt : M Bool} {te : M RV} {K : RV → M γ} (k : Sm ((it e).bind (compK own g tt te K)) P G X) : Sm ((dComp own it g tt te e).bind K) P G X := by
  have : (dComp own it g tt te e).bind K = (it e).bind (compK own g tt te K) := by
    unfold dComp
    rw [mbind, rbind_assoc]
    congr 1; funext ds e0
    unfold compK
    split
    · cases loopC own g tt te ds [] (wipeE own e0) with
      | st => rfl
      | ok acc e1 => simp only; cases restE own e0 e1 <;> rfl
      | ex x e1 => rfl
    · rfl
  rw [this]; exact k
def cmpK (te : M RV) (K : Option RV → M γ) : Bool → M γ := fun b e => match b with
  | true => (te e).bind fun r e => K (some r) e
  | false => K none e
def GC [Enc ψ] (pn : List Nat) (own : List Nat) (I : σ → List SD) : (Option ψ × σ) → Option RV → Env → Prop
  | (some v, s), some r, e => ∃ o S2 S3, Has pn S2 e ∧ ROk r o ∧ Fz S2 o (enc v) S3 ∧ W (wipeS own S3) (I s)
  | (none, s), none, e => ∃ S2, Has pn S2 e ∧ W (wipeS own S2) (I s)
  | _, _, _ => False
theorem noPn_of {own : List Nat} (h : Has pn S e) (hp : (own.all fun v => !pn.contains v) = true) : noPn own e = true := by
  unfold noPn; rw [h.pn]; exact hp
theorem comp_go [Enc ω] [Enc ψ] {own : List Nat} {g : Tg} {tt : M Bool} {te : M RV} {f : ω → σ → Res (Option ψ × σ)} {I1 : ω → σ → List SD} {X' : Exc → Env → Prop} (I : σ → List SD) (hp : (own.all fun v => !pn.contains v) = true) (tg : ∀ x s, TG pn (I s) g (enc x) (I1 x s))
    (step : ∀ x s e, Has pn (I1 x s) e → Sm ((tt e).bind (cmpK te okK)) (f x s) (GC pn own I) X') : ∀ (xs : List ω) (s : σ) (acc : List ψ) (e : Env) ys s', Has pn (I s) e → acc.length + xs.length ≤ sizeLine → compGo f xs s acc = .ok (ys, s') → ∃ e', loopC own g tt te (xs.map enc) (acc.map enc) e = .ok (ys.map enc) e' ∧ Has pn (I s') e'
  | [], s, acc, e, ys, s', h, _, q => by cases q; exact ⟨e, rfl, h⟩
  | x :: xs, s, acc, e, ys, s', h, hl, q => by
    obtain ⟨e1, h1, h2⟩ := tg x s e h
    have st := step x s e1 h2
    rw [List.length_cons] at hl
    show ∃ e', loopC own g tt te (enc x :: xs.map enc) (acc.map enc) e = _ ∧ _
    unfold compGo at q
    unfold loopC
    simp only [h1]
    cases z : f x s with
    | st => rw [z] at q; cases q
    | ex x' => rw [z] at q; cases q
    | ok p =>
      rw [z] at q st
      obtain ⟨b, e4, h4, h5⟩ := st
      cases z2 : tt e1 with
      | st => rw [z2] at h4; cases h4
      | ex x' e5 => rw [z2] at h4; cases h4
      | ok t e2 =>
        rw [z2, bind_ok] at h4
        cases t with
        | false =>
          have h4' : okK (none : Option RV) e2 = .ok b e4 := h4
          cases h4'
          obtain ⟨o, s1⟩ := p
          cases o with
          | some v => exact h5.elim
          | none =>
            obtain ⟨S2, k1, k2⟩ := h5
            simp only at q ⊢
            rw [if_pos (noPn_of k1 hp)]
            exact comp_go I hp tg step xs s1 acc _ ys s' ((wipe_has k1 own).weak k2) (by omega) q
        | true =>
          have h4' : ((te e2).bind fun r e => okK (some r) e) = .ok b e4 := h4
          cases z3 : te e2 with
          | st => rw [z3] at h4'; cases h4'
          | ex x' e5 => rw [z3] at h4'; cases h4'
          | ok r e3 =>
            rw [z3, bind_ok] at h4'
            cases h4'
            obtain ⟨o, s1⟩ := p
            cases o with
            | none => exact h5.elim
            | some v =>
              obtain ⟨oo, S2, S3, k1, k2, k3, k4⟩ := h5
              obtain ⟨e5, k5, k6⟩ := k3.frz k1 k2
              simp only [z3, k5] at q ⊢
              rw [if_pos (by rw [noPn_of k6 hp, Bool.and_true]; exact decide_eq_true (by rw [List.length_map]; omega))]
              have := comp_go I hp tg step xs s1 (acc ++ [v]) _ ys s' ((wipe_has k6 own).weak k4) (by rw [List.length_append, List.length_singleton]; omega) q
              rwa [List.map_append] at this
theorem f_filS [Enc ω] [Enc ψ] {own : List Nat} {xs : List ω} {g : Tg} {tt : M Bool} {te : M RV} {f : ω → σ → Res (Option ψ × σ)} {I1 : ω → σ → List SD} {K : RV → M γ} {k : List ψ × σ → Res α} {s0 : σ} (I : σ → List SD) (h : Has pn S e) (w : W (wipeS own S) (I s0)) (tg : ∀ x s, TG pn (I s) g (enc x) (I1 x s))
    (step : ∀ x s e, Has pn (I1 x s) e → Sm ((tt e).bind (cmpK te okK)) (f x s) (GC pn own I) fun _ _ => True) (J : σ → List SD) (kk : ∀ ys s r e', ROk r (.w (encs ys)) → Has pn (J s) e' → Sm (K r e') (k (ys, s)) G X)
    (hp : (own.all fun v => !pn.contains v) = true := by decide) (hr : ∀ s, restB own S (I s) = true := by intro _; rfl) (hw : ∀ s, W (restS own S (I s)) (J s) := by exact fun _ => W.refl _) : Sm (compK own g tt te K (xs.map enc) e) ((filS f xs s0).bind k) G X := by
  unfold filS
  rw [okLe_eq]
  split
  · rename_i hz
    rw [decide_eq_true_iff] at hz
    cases q : compGo f xs s0 [] with
    | st => first | trivial | exact ⟨trivial⟩
    | ex x =>
      exfalso
      have : ∀ (xs : List ω) (s : σ) (acc : List ψ) x, compGo f xs s acc ≠ .ex x := by
        intro xs
        induction xs with
        | nil => intro s acc x h; cases h
        | cons y ys ih =>
          intro s acc x h
          unfold compGo at h
          split at h
          · exact ih _ _ _ h
          · exact ih _ _ _ h
          · cases h
      exact this _ _ _ _ q
    | ok p =>
      obtain ⟨ys, s'⟩ := p
      obtain ⟨e1, h1, h2⟩ := comp_go I hp tg step xs s0 [] _ ys s' ((wipe_has h own).weak w) (by simpa using hz) q
      obtain ⟨e2, h3, h4⟩ := rest_has h own (hr s') h2
      unfold compK
      rw [if_pos (noPn_of h hp)]
      have h1' : loopC own g tt te (xs.map enc) [] (wipeE own e) = .ok (ys.map enc) e1 := h1
      rw [h1']
      simp only [h3]
      exact kk ys s' _ e2 rfl (h4.weak (hw s'))
  · first | trivial | exact ⟨trivial⟩
def GE [Enc ψ] (pn : List Nat) (own : List Nat) (I : List SD) : ψ → RV → Env → Prop := fun v r e => ∃ o S2 S3, Has pn S2 e ∧ ROk r o ∧ Fz S2 o (enc v) S3 ∧ W (wipeS own S3) I
def GEo [Enc ψ] (pn : List Nat) (own : List Nat) (I : List SD) : Option ψ → Option RV → Env → Prop
  | some v, some r, e => ∃ o S2 S3, Has pn S2 e ∧ ROk r o ∧ Fz S2 o (enc v) S3 ∧ W (wipeS own S3) I
  | none, none, e => ∃ S2, Has pn S2 e ∧ W (wipeS own S2) I
  | _, _, _ => False
def GEs [Enc ψ] (pn : List Nat) (own : List Nat) (I : σ → List SD) : ψ × σ → RV → Env → Prop := fun v r e => ∃ o S2 S3, Has pn S2 e ∧ ROk r o ∧ Fz S2 o (enc v.1) S3 ∧ W (wipeS own S3) (I v.2)
theorem f_el [Enc ψ] {own : List Nat} {I S3 : List SD} {v : ψ} (h : Has pn S e) (kr : ROk r o) (da : Fz S o (enc v) S3 := by first | exact .f | exact .w | exact .y | exact .v rfl | exact .vz rfl | exact .u rfl) (w : W (wipeS own S3) I := by first | exact W.refl _ | (repeat (first | exact W.nil | refine W.rf ?_ | refine W.cz ?_ | refine W.cc ?_ | refine W.vz ?_ | refine W.vo ?_ | refine W.an ?_))) : Sm (okK r e) (.ok v) (GE pn own I) X := ⟨r, e, rfl, o, S, S3, h, kr, da, w⟩
theorem f_elS [Enc ψ] {own : List Nat} {I : σ → List SD} {S3 : List SD} {v : ψ} {s : σ} (h : Has pn S e) (kr : ROk r o) (da : Fz S o (enc v) S3 := by first | exact .f | exact .w | exact .y | exact .v rfl | exact .vz rfl | exact .u rfl) (w : W (wipeS own S3) (I s) := by first | exact W.refl _ | (repeat (first | exact W.nil | refine W.rf ?_ | refine W.cz ?_ | refine W.cc ?_ | refine W.vz ?_ | refine W.vo ?_ | refine W.an ?_))) : Sm (okK r e) (.ok (v, s)) (GEs pn own I) X := ⟨r, e, rfl, o, S, S3, h, kr, da, w⟩
def someK (K : Option RV → M γ) : RV → M γ := fun r e => K (some r) e
theorem f_cmp' {te : M RV} {K : Option RV → M γ} {c : Bool} {P1 P2 : Res α} (k1 : c = true → Sm ((te e).bind (someK K)) P1 G X) (k2 : c = false → Sm (K none e) P2 G X) : Sm (cmpK te K c e) (if c = true then P1 else P2) G X := by
  cases c with
  | true => exact k1 rfl
  | false => exact k2 rfl
theorem f_elo [Enc ψ] {own : List Nat} {I S3 : List SD} {v : ψ} (h : Has pn S e) (kr : ROk r o) (da : Fz S o (enc v) S3 := by first | exact .f | exact .w | exact .y | exact .v rfl | exact .vz rfl | exact .u rfl) (w : W (wipeS own S3) I := by first | exact W.refl _ | (repeat (first | exact W.nil | refine W.rf ?_ | refine W.cz ?_ | refine W.cc ?_ | refine W.vz ?_ | refine W.vo ?_ | refine W.an ?_))) : Sm (someK okK r e) (.ok (some v)) (GEo pn own I) X := ⟨some r, e, rfl, o, S, S3, h, kr, da, w⟩
theorem f_elno [Enc ψ] {own : List Nat} {I : List SD} (h : Has pn S e) (w : W (wipeS own S) I := by first | exact W.refl _ | (repeat (first | exact W.nil | refine W.rf ?_ | refine W.cz ?_ | refine W.cc ?_ | refine W.vz ?_ | refine W.vo ?_ | refine W.an ?_))) : Sm (okK (none : Option RV) e) (.ok (none : Option ψ)) (GEo pn own I) X := ⟨none, e, rfl, S, h, w⟩
theorem f_mapS [Enc ω] [Enc ψ] {own : List Nat} {xs : List ω} {g : Tg} {te : M RV} {f : ω → σ → Res (ψ × σ)} {I1 : ω → σ → List SD} {K : RV → M γ} {k : List ψ × σ → Res α} {s0 : σ} (I : σ → List SD) (h : Has pn S e) (w : W (wipeS own S) (I s0)) (tg : ∀ x s, TG pn (I s) g (enc x) (I1 x s))
    (step : ∀ x s e, Has pn (I1 x s) e → Sm ((te e).bind okK) (f x s) (GEs pn own I) fun _ _ => True) (J : σ → List SD) (kk : ∀ ys s r e', ROk r (.w (encs ys)) → Has pn (J s) e' → Sm (K r e') (k (ys, s)) G X)
    (hp : (own.all fun v => !pn.contains v) = true := by decide) (hr : ∀ s, restB own S (I s) = true := by intro _; rfl) (hw : ∀ s, W (restS own S (I s)) (J s) := by exact fun _ => W.refl _) : Sm (compK own g dYes te K (xs.map enc) e) ((mapS f xs s0).bind k) G X := by
  refine f_filS I h w tg (fun x s e he => ?_) J kk hp hr hw
  show Sm ((te e).bind fun r e => okK (some r) e) _ _ _
  refine (step x s e he).top.bind fun p r e' hj => ?_
  obtain ⟨o, S2, S3, k1, k2, k3, k4⟩ := hj
  exact ⟨some r, e', rfl, o, S2, S3, k1, k2, k3, k4⟩
theorem f_filC [Enc ω] [Enc ψ] {own : List Nat} {xs : List ω} {g : Tg} {tt : M Bool} {te : M RV} {f : ω → Res (Option ψ)} {I1 : ω → List SD} {K : RV → M γ} {k : List ψ → Res α} (h : Has pn S e) (tg : ∀ x, TG pn (wipeS own S) g (enc x) (I1 x))
    (step : ∀ x e, Has pn (I1 x) e → Sm ((tt e).bind (cmpK te okK)) (f x) (GEo pn own (wipeS own S)) fun _ _ => True) (kk : ∀ ys r e', ROk r (.w (encs ys)) → Has pn S e' → Sm (K r e') (k ys) G X)
    (hp : (own.all fun v => !pn.contains v) = true := by decide) (hr : restB own S (wipeS own S) = true := by rfl) (hw : W (restS own S (wipeS own S)) S := by exact W.refl _) : Sm (compK own g tt te K (xs.map enc) e) ((filC f xs).bind k) G X := by
  unfold filC
  rw [Res.bind_assoc]
  have w : ∀ S : List SD, W S S := fun S => by induction S with
    | nil => exact .nil
    | cons s S ih => exact .rf ih
  refine f_filS (σ := Unit) (I1 := fun x _ => I1 x) (fun _ => wipeS own S) h (w _) (fun x _ => tg x) (fun x s e he => ?_) (fun _ => S) (fun ys s r e' kr he => kk ys r e' kr he) hp (fun _ => hr) (fun _ => hw)
  have := step x e he
  cases z : f x with
  | st => first | trivial | exact ⟨trivial⟩
  | ex x' => rw [z] at this; exact ⟨this.run⟩
  | ok o =>
    rw [z] at this
    obtain ⟨b, e', h1, h2⟩ := this
    refine ⟨b, e', h1, ?_⟩
    cases o with
    | none => cases b with
      | none => exact h2
      | some r => exact h2.elim
    | some v => cases b with
      | none => exact h2.elim
      | some r => exact h2
theorem f_mapC [Enc ω] [Enc ψ] {own : List Nat} {xs : List ω} {g : Tg} {te : M RV} {f : ω → Res ψ} {I1 : ω → List SD} {K : RV → M γ} {k : List ψ → Res α} (h : Has pn S e) (tg : ∀ x, TG pn (wipeS own S) g (enc x) (I1 x))
    (step : ∀ x e, Has pn (I1 x) e → Sm ((te e).bind okK) (f x) (GE pn own (wipeS own S)) fun _ _ => True) (kk : ∀ ys r e', ROk r (.w (encs ys)) → Has pn S e' → Sm (K r e') (k ys) G X)
    (hp : (own.all fun v => !pn.contains v) = true := by decide) (hr : restB own S (wipeS own S) = true := by rfl) (hw : W (restS own S (wipeS own S)) S := by exact W.refl _) : Sm (compK own g dYes te K (xs.map enc) e) ((mapC f xs).bind k) G X := by
  unfold mapC
  refine f_filC h tg (fun x e he => ?_) kk hp hr hw
  show Sm ((te e).bind fun r e => okK (some r) e) _ _ _
  refine (step x e he).top.bind fun p r e' hj => ?_
  obtain ⟨o, S2, S3, k1, k2, k3, k4⟩ := hj
  exact ⟨some r, e', rfl, o, S2, S3, k1, k2, k3, k4⟩
inductive Ld : List SD → List Bool → List Opd → List SV → List SD → Prop
  | nil {S : List SD} : Ld S [] [] [] S
  | f {S S1 S2 : List SD} {md : List Bool} {o : Opd} {os : List Opd} {d : D} {ss : List SV} : Fz S o d S1 → Ld S1 md os ss S2 → Ld S (false :: md) (o :: os) (.fz d :: ss) S2
  | t {S S2 : List SD} {md : List Bool} {i : Nat} {os : List Opd} {ds : List D} {ss : List SV} : S[i]? = some (.ol ds) → Ld (S.set i .clr) md os ss S2 → Ld S (true :: md) (.v i :: os) (.ol (fzs ds) :: ss) S2
  | x {S S2 : List SD} {md : List Bool} {i : Nat} {os : List Opd} {s : SV} {ss : List SV} : S[i]? = some (.x s) → Ld (S.set i .clr) md os ss S2 → Ld S (true :: md) (.v i :: os) (s :: ss) S2
theorem Ld.load {md : List Bool} {os : List Opd} {ss : List SV} (q : Ld S md os ss S') : ∀ {e : Env} {rs : List RV}, Has pn S e → ROks rs os → ∃ e', load md rs e = some (ss, e') ∧ Has pn S' e' := by
  induction q with
  | nil => intro e rs h k; cases rs with
    | nil => exact ⟨e, rfl, h⟩
    | cons _ _ => exact k.elim
  | f q1 q2 ih => intro e rs h k; cases rs with
    | nil => exact k.elim
    | cons r rs =>
      obtain ⟨e1, h1, h2⟩ := q1.frz h k.1
      obtain ⟨e2, h3, h4⟩ := ih h2 k.2
      exact ⟨e2, by unfold VF.load loadOne; simp only [h1, h3], h4⟩
  | t q1 q2 ih => intro e rs h k; cases rs with
    | nil => exact k.elim
    | cons r rs =>
      obtain ⟨k1, k2⟩ := k
      cases k1
      obtain ⟨o, h1, h2⟩ := h.slot q1
      cases h2
      obtain ⟨e2, h3, h4⟩ := ih (h.clr _) k2
      exact ⟨e2, by unfold VF.load loadOne; simp only [h1, h3], h4⟩
  | x q1 q2 ih => intro e rs h k; cases rs with
    | nil => exact k.elim
    | cons r rs =>
      obtain ⟨k1, k2⟩ := k
      cases k1
      obtain ⟨o, h1, h2⟩ := h.slot q1
      cases h2
      obtain ⟨e2, h3, h4⟩ := ih (h.clr _) k2
      exact ⟨e2, by unfold VF.load loadOne; simp only [h1, h3], h4⟩
inductive Ul : List SD → List Bool → List Opd → List SV → List SD → Prop
  | nil {S : List SD} : Ul S [] [] [] S
  | f {S S2 : List SD} {md : List Bool} {o : Opd} {os : List Opd} {s : SV} {ss : List SV} : Ul S md os ss S2 → Ul S (false :: md) (o :: os) (s :: ss) S2
  | t {S S2 : List SD} {md : List Bool} {i : Nat} {os : List Opd} {ds : List D} {ss : List SV} : S[i]? = some .clr → Ul (S.set i (.ol ds)) md os ss S2 → Ul S (true :: md) (.v i :: os) (.ol (fzs ds) :: ss) S2
  | x {S S2 : List SD} {md : List Bool} {i : Nat} {os : List Opd} {s : SV} {ss : List SV} : S[i]? = some .clr → Ul (S.set i (.x s)) md os ss S2 → Ul S (true :: md) (.v i :: os) (s :: ss) S2
theorem Ul.unload {md : List Bool} {os : List Opd} {ss : List SV} (q : Ul S md os ss S') : ∀ {e : Env} {rs : List RV}, Has pn S e → ROks rs os → ∃ e', unload md rs ss e = some e' ∧ Has pn S' e' := by
  induction q with
  | nil => intro e rs h k; cases rs with
    | nil => exact ⟨e, rfl, h⟩
    | cons _ _ => exact k.elim
  | f q2 ih => intro e rs h k; cases rs with
    | nil => exact k.elim
    | cons r rs =>
      obtain ⟨e2, h3, h4⟩ := ih h k.2
      exact ⟨e2, by rw [ul_false]; exact h3, h4⟩
  | t q1 q2 ih => intro e rs h k; cases rs with
    | nil => exact k.elim
    | cons r rs =>
      obtain ⟨k1, k2⟩ := k
      cases k1
      obtain ⟨o, h1, h2⟩ := h.slot q1
      cases h2
      obtain ⟨e2, h3, h4⟩ := ih (h.setS _ (s := .ol _) rfl) k2
      refine ⟨e2, ?_, h4⟩
      rw [ul_true]
      rw [if_pos (by unfold isClr; rw [h1])]
      exact h3
  | x q1 q2 ih => intro e rs h k; cases rs with
    | nil => exact k.elim
    | cons r rs =>
      obtain ⟨k1, k2⟩ := k
      cases k1
      obtain ⟨o, h1, h2⟩ := h.slot q1
      cases h2
      obtain ⟨e2, h3, h4⟩ := ih (h.setS _ (s := .x _) rfl) k2
      refine ⟨e2, ?_, h4⟩
      rw [ul_true]
      rw [if_pos (by unfold isClr; rw [h1])]
      exact h3
def FSD (rz : Bool) (φr : FR) (p : Res τ) (ro : τ → SV) (au : τ → List SV) : Prop := match p with
  | .st => True
  | .ok t => φr = .ok (ro t) (au t)
  | .ex x => rz = true ∧ ∃ as, φr = .ex x as
structure FS (rz : Bool) (φr : FR) (p : Res τ) (ro : τ → SV) (au : τ → List SV) : Prop where
  run : FSD rz φr p ro au
def callK (md : List Bool) (φ : Fn) (K : RV → M γ) : List RV → M γ := fun rs e => match load md rs e with
  | some (ss, e1) => (match φ ss with
    | .st => .st
    | .ok r ss' => (match unload md rs ss' e1 with
      | some e2 => K (svR r) e2
      | none => .st)
    | .ex x ss' => (match unload md rs ss' e1 with
      | some e2 => .ex x e2
      | none => .st))
  | none => .st
theorem c_call {md : List Bool} {φ : Fn} {a : M (List RV)} {K : RV → M γ} (k : Sm ((a e).bind (callK md φ K)) P G X) : Sm ((dCall md φ a e).bind K) P G X := by
  have : (dCall md φ a e).bind K = (a e).bind (callK md φ K) := by
    rw [ev_call, rbind_assoc]
    congr 1; funext rs e
    unfold callK
    cases load md rs e with
    | none => rfl
    | some p =>
      simp only
      cases φ p.1 with
      | st => rfl
      | ok r ss' => simp only; cases unload md rs ss' p.2 <;> rfl
      | ex x ss' => simp only; cases unload md rs ss' p.2 <;> rfl
  rw [this]; exact k
theorem f_call {md : List Bool} {φ : Fn} {rs : List RV} {os : List Opd} {ss : List SV} {p : Res τ} {ro : τ → SV} {au : τ → List SV} {oo : τ → Opd} {S2 : τ → List SD} {K : RV → M γ} {k : τ → Res α} (h : Has pn S e) (kr : ROks rs os) (ld : Ld S md os ss S1) (hf : FS false (φ ss) p ro au) (ul : ∀ t, Ul S1 md os (au t) (S2 t)) (ho : ∀ t, ROk (svR (ro t)) (oo t))
    (kk : ∀ t r e', ROk r (oo t) → Has pn (S2 t) e' → Sm (K r e') (k t) G X) : Sm (callK md φ K rs e) (p.bind k) G X := by
  obtain ⟨e1, h1, h2⟩ := ld.load h kr
  unfold callK
  rw [h1]
  cases p with
  | st => first | trivial | exact ⟨trivial⟩
  | ex x => cases hf.run.1
  | ok t =>
    have hf' : φ ss = .ok (ro t) (au t) := hf.run
    obtain ⟨e2, h3, h4⟩ := (ul t).unload h2 kr
    simp only [hf', h3]
    exact kk t _ e2 (ho t) h4
def callBK (n : Nat) (φ : Fn) (K : RV → M γ) : List RV → M γ := fun rs e => match rs.mapM (view e) with
  | some ds => if ds.length = n then (match φ (ds.map .fz) with
    | .ok r _ => (match immS r with
      | some d => K (.fz d) e
      | none => .st)
    | .ex x _ => .ex x e
    | .st => .st) else .st
  | none => .st
theorem c_callB {n : Nat} {φ : Fn} {a : M (List RV)} {K : RV → M γ} (k : Sm ((a e).bind (callBK n φ K)) P G X) : Sm ((dCallB n φ a e).bind K) P G X := by
  have : (dCallB n φ a e).bind K = (a e).bind (callBK n φ K) := by
    rw [ev_callB, rbind_assoc]
    congr 1; funext rs e
    unfold callBK
    cases rs.mapM (view e) with
    | none => rfl
    | some ds =>
      simp only
      split
      · cases φ (ds.map .fz) with
        | st => rfl
        | ok r ss' => simp only; cases immS r <;> rfl
        | ex x ss' => rfl
      · rfl
  rw [this]; exact k
theorem f_callB [Enc τ] {n : Nat} {φ : Fn} {rs : List RV} {os : List Opd} {ds : List D} {p : Res τ} {au : τ → List SV} {K : RV → M γ} {k : τ → Res α} (h : Has pn S e) (kr : ROks rs os) (da : Dts S os ds) (hn : ds.length = n) (hf : FS false (φ (ds.map .fz)) p (fun t => .fz (enc t)) au) (hi : ∀ t : τ, immS (.fz (enc t)) = some (enc t))
    (kk : ∀ t r, ROk r (.f (enc t)) → Sm (K r e) (k t) G X) : Sm (callBK n φ K rs e) (p.bind k) G X := by
  unfold callBK
  rw [da.view h kr]
  simp only
  rw [if_pos hn]
  cases p with
  | st => first | trivial | exact ⟨trivial⟩
  | ex x => cases hf.run.1
  | ok t =>
    have hf' : φ (ds.map .fz) = .ok (.fz (enc t)) (au t) := hf.run
    rw [hf']
    simp only [hi t]
    exact kk t _ rfl
theorem imm_I (t : Int) : immS (.fz (enc t)) = some (enc t) := (rfl)
theorem imm_B (t : Bool) : immS (.fz (enc t)) = some (enc t) := (rfl)
inductive Rs (pn : List Nat) (S : List SD) : Opd → SV → List SD → Prop
  | f {d : D} : Rs pn S (.f d) (.fz d) S
  | w {ds : List D} : Rs pn S (.w ds) (.ol (fzs ds)) S
  | v {i : Nat} {ds : List D} : S[i]? = some (.ol ds) → i ∉ pn → Rs pn S (.v i) (.ol (fzs ds)) (S.set i .clr)
  | x {i : Nat} {s : SV} : S[i]? = some (.x s) → i ∉ pn → Rs pn S (.v i) s (S.set i .clr)
  | o {s : SV} : Rs pn S (.o s) s S
inductive Os : List SD → Nat → List Bool → List SV → List SV → Prop
  | nil {S : List SD} {i : Nat} : Os S i [] [] []
  | f {S : List SD} {i : Nat} {md : List Bool} {s : SV} {ss as : List SV} : Os S (i + 1) md ss as → Os S i (false :: md) (s :: ss) (s :: as)
  | t {S : List SD} {i : Nat} {md : List Bool} {s : SV} {ds : List D} {ss as : List SV} : S[i]? = some (.ol ds) → Os (S.set i .clr) (i + 1) md ss as → Os S i (true :: md) (s :: ss) (.ol (fzs ds) :: as)
  | x {S : List SD} {i : Nat} {md : List Bool} {s s' : SV} {ss as : List SV} : S[i]? = some (.x s') → Os (S.set i .clr) (i + 1) md ss as → Os S i (true :: md) (s :: ss) (s' :: as)
theorem Rs.res {s : SV} (q : Rs pn S o s S') (h : Has pn S e) (kr : ROk r o) : ∃ e', resOf (.rt r) e = some (s, e') ∧ Has pn S' e' := by
  cases q with
  | f => cases kr; exact ⟨e, rfl, h⟩
  | w => cases kr; exact ⟨e, rfl, h⟩
  | v q hi =>
    cases kr
    obtain ⟨o, h1, h2⟩ := h.slot q
    cases h2
    refine ⟨e.clr _, ?_, h.clr _⟩
    unfold resOf
    simp only [h1]
    rw [if_neg (by rw [h.pn]; exact hi)]
  | x q hi =>
    cases kr
    obtain ⟨o, h1, h2⟩ := h.slot q
    cases h2
    refine ⟨e.clr _, ?_, h.clr _⟩
    unfold resOf
    simp only [h1]
    rw [if_neg (by rw [h.pn]; exact hi)]
  | o => cases kr; exact ⟨e, rfl, h⟩
theorem Os.outs {i : Nat} {md : List Bool} {ss as : List SV} (q : Os S i md ss as) : ∀ {e : Env}, Has pn S e → outs i md ss e = some as := by
  induction q with
  | nil => intro e h; rfl
  | f q ih => intro e h; rw [out_false, ih h]
  | t q1 q2 ih =>
    intro e h
    obtain ⟨o, h1, h2⟩ := h.slot q1
    cases h2
    have := ih (h.clr _)
    show (match e.sl[_]? with | some (some s) => (match VF.outs _ _ _ (e.clr _) with | some r => some (s :: r) | none => none) | _ => none) = _
    rw [h1]
    simp only [this]
  | x q1 q2 ih =>
    intro e h
    obtain ⟨o, h1, h2⟩ := h.slot q1
    cases h2
    have := ih (h.clr _)
    show (match e.sl[_]? with | some (some s) => (match VF.outs _ _ _ (e.clr _) with | some r => some (s :: r) | none => none) | _ => none) = _
    rw [h1]
    simp only [this]
def GF (md : List Bool) (ss : List SV) (ro : τ → SV) (au : τ → List SV) : τ → Fl → Env → Prop := fun t f e => ∃ e1, resOf f e = some (ro t, e1) ∧ outs 0 md ss e1 = some (au t)
theorem f_rt {md : List Bool} {ss : List SV} {ro : τ → SV} {au : τ → List SV} {t : τ} (h : Has pn S e) (kr : ROk r o) (q : Rs pn S o (ro t) S1) (os : Os S1 0 md ss (au t)) : Sm (okK (Fl.rt r) e) (.ok t) (GF md ss ro au) X := by
  obtain ⟨e1, h1, h2⟩ := q.res h kr
  exact ⟨.rt r, e, rfl, e1, h1, os.outs h2⟩
theorem fs_mk0 {md : List Bool} {n : Nat} {m : M Fl} {ss : List SV} {p : Res τ} {ro : τ → SV} {au : τ → List SV} (S0 : List SD) (hok : okArgs md ss = true) (h0 : F2 S0 (env0 md n ss).sl) (hb : ∀ e, Has (pinIx 0 md) S0 e → Sm ((m e).bind okK) p (GF md ss ro au) fun _ _ => False) : FS false (mkFn0 md n m ss) p ro au := by
  have hb' := (hb (env0 md n ss) ⟨rfl, h0⟩).top
  cases p with
  | st => first | trivial | exact ⟨trivial⟩
  | ex x => obtain ⟨_, _, h⟩ := hb'; exact h.elim
  | ok t =>
    obtain ⟨f, e, h1, e1, h2, h3⟩ := hb'
    exact ⟨run_fn0 hok h1 h2 h3⟩
end
end VF
set_option maxRecDepth 100000
set_option maxHeartbeats 4000000
namespace VF
set_option autoImplicit false
open PySem L2
open Enc (enc)
theorem rk_f {d : D} : ROk (.fz d) (.f d) := rfl
theorem rks0 : ROks [] [] := trivial
theorem rks {r : RV} {o : Opd} {rs : List RV} {os : List Opd} (h : ROk r o) (hs : ROks rs os) : ROks (r :: rs) (o :: os) := ⟨h, hs⟩
theorem rk_w {ds : List D} : ROk (.own (.ol (fzs ds))) (.w ds) := rfl
section
variable {α β γ δ σ τ ω ψ : Type} {pn : List Nat} {S S' S1 S2 : List SD} {e : Env} {X : Exc → Env → Prop} {P : Res α} {G : α → γ → Env → Prop} {r q : RV} {o oa ob oc : Opd} {d x y z : D}
section
variable [Enc ω] [EqE ω] [DecidableEq ω] {u v : ω} {us : List ω} {K : RV → M γ} (h : Has pn S e) (k1 : ROk r oa) (k2 : ROk q ob)
include h k1 k2
theorem f_eq (k : Sm (K (.fz (.bl (decide (u = v)))) e) P G X) (da : Dt S oa (enc u) := by first | exact .f | exact .v rfl | exact .vz rfl | exact .w | exact .y | exact .u rfl) (db : Dt S ob (enc v) := by first | exact .f | exact .v rfl | exact .vz rfl | exact .w | exact .y | exact .u rfl) (hd : EqE.dep ω ≤ 64 := by decide) : Sm (opK2 fEq r K q e) P G X := f_op h k1 k2 da db (fEq_enc u v hd) k
theorem f_in (k : Sm (K (.fz (.bl (decide (u ∈ us)))) e) P G X) (da : Dt S oa (enc u) := by first | exact .f | exact .v rfl | exact .vz rfl | exact .w | exact .y | exact .u rfl) (db : Dt S ob (enc us) := by first | exact .f | exact .v rfl | exact .vz rfl | exact .w | exact .y | exact .u rfl) (hd : EqE.dep ω ≤ 63 := by decide) : Sm (opK2 fIn r K q e) P G X := f_op h k1 k2 da db (fIn_enc u us hd) k
end
theorem f_isN [Enc ω] [NoN ω] {u : Option ω} {K : RV → M γ} (h : Has pn S e) (k1 : ROk r oa) (k2 : ROk q (.f .non)) (k : Sm (K (.fz (.bl u.isNone)) e) P G X) (da : Dt S oa (enc u) := by first | exact .f | exact .v rfl | exact .vz rfl | exact .w | exact .y | exact .u rfl) : Sm (opK2 fIsN r K q e) P G X := by
  refine f_op h k1 k2 da .f ?_ k
  cases u with
  | none => rfl
  | some z =>
    show fIsN (enc z) .non = _
    have := NoN.nn z
    cases q : enc z with
    | non => rw [q] at this; exact absurd rfl this
    | _ => rfl
theorem f_notN [Enc ω] [NoN ω] {u : Option ω} {K : RV → M γ} (h : Has pn S e) (k1 : ROk r oa) (k2 : ROk q (.f .non)) (k : Sm (K (.fz (.bl u.isSome)) e) P G X) (da : Dt S oa (enc u) := by first | exact .f | exact .v rfl | exact .vz rfl | exact .w | exact .y | exact .u rfl) : Sm (opK2 fNotN r K q e) P G X := by
  refine f_op h k1 k2 da .f ?_ k
  cases u with
  | none => rfl
  | some z =>
    show fNotN (enc z) .non = _
    have := NoN.nn z
    cases q : enc z with
    | non => rw [q] at this; exact absurd rfl this
    | _ => rfl
section
variable {K : RV → M γ} (h : Has pn S e) (k1 : ROk r oa)
include h k1
theorem f_toInt {i : Int} (k : Sm (K (.fz (.int i)) e) P G X) (da : Dt S oa (.int i) := by first | exact .f | exact .u rfl) : Sm (cbK intD K [r] e) P G X :=
  f_cb h (os := [oa]) ⟨k1, trivial⟩ (.cons da .nil) rfl k
end
theorem p_mulL {i j : Int} {a b : M RV} (ha : PJ pn S a oa) (hb : PJ pn S b ob) (da : Dt S oa (.int i) := by first | exact .f | exact .u rfl) (db : Dt S ob (.int j) := by first | exact .f | exact .u rfl) (h : inB i 64 = true := by decide) : PJ pn S (dOp fMul a b) (.f (.int (i * j))) := p_mulK ha hb da db (by rw [h, Bool.true_or])
theorem p_mulR {i j : Int} {a b : M RV} (ha : PJ pn S a oa) (hb : PJ pn S b ob) (da : Dt S oa (.int i) := by first | exact .f | exact .u rfl) (db : Dt S ob (.int j) := by first | exact .f | exact .u rfl) (h : inB j 64 = true := by decide) : PJ pn S (dOp fMul a b) (.f (.int (i * j))) := p_mulK ha hb da db (by rw [h, Bool.or_true])
section
variable {i j : Int} {K : RV → M γ} (h : Has pn S e) (k1 : ROk r oa) (k2 : ROk q ob) (k : Sm (K (.fz (.int (i * j))) e) P G X) (da : Dt S oa (.int i) := by first | exact .f | exact .u rfl) (db : Dt S ob (.int j) := by first | exact .f | exact .u rfl)
include h k1 k2 k da db
end
theorem f_modK {i j : Int} {K : RV → M γ} (h : Has pn S e) (k1 : ROk r oa) (k2 : ROk q ob) (k : Sm (K (.fz (.int (i % j))) e) P G X) (da : Dt S oa (.int i) := by first | exact .f | exact .u rfl) (db : Dt S ob (.int j) := by first | exact .f | exact .u rfl) (hh : 0 < j := by decide) : Sm (opK2 fMod r K q e) P G X := f_op h k1 k2 da db (if_pos hh) k
theorem f_truB {c : Bool} {K : Bool → M γ} (h : Has pn S e) (k1 : ROk r o) (k : Sm (K c e) P G X) (da : Dt S o (.bl c) := by first | exact .f | exact .u rfl) : Sm (truK K r e) P G X := f_tru h k1 da rfl k
theorem f_truL [Enc ω] {xs : List ω} {K : Bool → M γ} (h : Has pn S e) (k1 : ROk r o) (k : Sm (K (!xs.isEmpty) e) P G X) (da : Dt S o (enc xs) := by first | exact .f | exact .v rfl | exact .vz rfl | exact .w | exact .y | exact .u rfl) : Sm (truK K r e) P G X :=
  f_tru h k1 da (by show some (!(xs.map enc).isEmpty) = _; cases xs <;> rfl) k
theorem c_nx {b : M Fl} {K : Fl → M γ} (k : Sm ((b e).bind K) P G X) : Sm (seqK b K .nx e) P G X := k
theorem f_drop {K : Fl → M γ} (k : Sm (K .nx e) P G X) : Sm (dropK K r e) P G X := k
theorem f_ret {K : Fl → M γ} (k : Sm (K (.rt r) e) P G X) : Sm (retK K r e) P G X := k
theorem c_weak {Q : Prop} (h : Has pn S e) (k : Has pn S' e → Q) (w : W S S' := by first | exact W.refl _ | (repeat (first | exact W.nil | refine W.rf ?_ | refine W.cz ?_ | refine W.cc ?_ | refine W.vz ?_ | refine W.vo ?_ | refine W.an ?_))) : Q := k (h.weak w)
theorem f_unO {u : Option ω} {k : ω → Res α} {r : R γ} (kk : ∀ v, u = some v → Sm r (k v) G X) : Sm r ((unO u).bind k) G X := by
  cases u with
  | none => first | trivial | exact ⟨trivial⟩
  | some v => exact kk v rfl
theorem f_setL {i : Nat} {v : ω} {k : ω → Res α} {K : Fl → M γ} (F : ω → SD) (h : Has pn S e) (ho : ROk r o) (s : St S i o (S1.set i (F v))) (hi : i ∉ pn) (kk : ∀ v e', Has pn (S1.set i (F v)) e' → Sm (K .nx e') (k v) G X) : Sm (setK i K r e) ((Res.ok v).bind k) G X := f_set h ho s hi (kk v)
theorem f_rng1' {rs : List RV} {j : Int} {K : List D → M γ} {k : List Int → Res α} (h : Has pn S e) (kr : ROks rs [o]) (kk : ∀ v : List Int, Sm (K (v.map enc) e) (k v) G X) (da : Dt S o (.int j) := by first | exact .f | exact .u rfl) : Sm (rg1K K rs e) ((rng1R j).bind k) G X := by
  match rs, kr with
  | [r], kr => exact f_rng1 h kr.1 kk da
theorem f_rng2' {rs : List RV} {i j : Int} {K : List D → M γ} {k : List Int → Res α} (h : Has pn S e) (kr : ROks rs [oa, ob]) (kk : ∀ v : List Int, Sm (K (v.map enc) e) (k v) G X) (da : Dt S oa (.int i) := by first | exact .f | exact .u rfl) (db : Dt S ob (.int j) := by first | exact .f | exact .u rfl) : Sm (rg2K K rs e) ((rngR i j).bind k) G X := by
  match rs, kr with
  | [r, q], kr => exact f_rng2 h kr.1 kr.2.1 kk da db
theorem f_enum' [Enc ω] {rs : List RV} {xs : List ω} {K : List D → M γ} (h : Has pn S e) (kr : ROks rs [o]) (da : Fz S o (enc xs) S') (k : ∀ e', Has pn S' e' → Sm (K ((enumL xs).map enc) e') P G X) : Sm (enumK K rs e) P G X := by
  match rs, kr with
  | [r], kr => exact f_enum h kr.1 da k
theorem f_ixTup {ds : List D} {i : Int} {K : RV → M γ} (h : Has pn S e) (k1 : ROk r (.f (.tup ds))) (k2 : ROk q (.f (.int i))) (hi : atI ds i = some d) (k : Sm (K (.fz d) e) P G X) : Sm (ixK2 r K q e) P G X := by
  cases k1; cases k2
  unfold ixK2
  simp only [view_fz, item_fz, itemD_tup, hi]
  exact k
end
structure Bx where
  ds : List Int
  at_ : Nat
def boxD (b : Bx) : List D := [enc b.ds, .int b.at_]
def p__law_draw (b : Bx) (many : Int) : Res (Int × Bx) := if 0 < many then .ok (drawV b.ds b.at_ many, ⟨b.ds, b.at_ + 1⟩) else .st
theorem ss__law_draw (b : Bx) (many : Int) : FS false (φ__law_draw [.ol (fzs (boxD b)), .fz (enc many)]) (p__law_draw b many) (fun t => .fz (enc t.1)) (fun t => [.ol (fzs (boxD t.2)), .fz (enc many)]) := by
  unfold p__law_draw
  split
  · rename_i h
    exact ⟨draw_ok b.ds b.at_ many h⟩
  · first | trivial | exact ⟨trivial⟩
theorem law_of {φ : Fn} {ns : List Int} {p : Res Bool} (h : FS false (φ [.fz (.scr ns)]) p (fun t => .fz (enc t)) (fun _ => [.fz (.scr ns)])) (hp : p = .ok true) : ∃ as', φ [.fz (.scr ns)] = .ok (.fz (.bl true)) as' := by
  rw [hp] at h
  exact ⟨_, h.run⟩
end VF
set_option maxRecDepth 100000
set_option maxHeartbeats 4000000
namespace VF
set_option autoImplicit false
open PySem L2
open Enc (enc)
def noX {α : Type} (p : Res α) : Res α := match p with
  | .ex _ => .st
  | .ok a => .ok a
  | .st => .st
@[simp] theorem noX_ok {α : Type} (a : α) : noX (.ok a) = .ok a := (rfl)
def tryR {σ τ : Type} (p : Res (Lp σ τ)) (h : Exc → Option τ) (k : σ → Res τ) : Res τ := match p with
  | .ok (.go s) => k s
  | .ok (.out t) => .ok t
  | .ok (.bk _) => .st
  | .ex x => (match h x with
    | some t => .ok t
    | none => .st)
  | .st => .st
@[simp] theorem tryR_go {σ τ : Type} (s : σ) (h : Exc → Option τ) (k : σ → Res τ) : tryR (.ok (.go s)) h k = k s := (rfl)
@[simp] theorem tryR_out {σ τ : Type} (t : τ) (h : Exc → Option τ) (k : σ → Res τ) : tryR (.ok (.out t)) h k = .ok t := (rfl)
class Dec (α : Type) extends Enc α where
  dec : D → Option α
  de : ∀ (d : D) (a : α), dec d = some a → d = Enc.enc a
  ed : ∀ a : α, dec (Enc.enc a) = some a
instance : Dec Int where
  dec := fun d => match d with | .int i => some i | _ => none
  de := fun d a h => by cases d <;> first | (cases h; rfl) | cases h
  ed := fun _ => rfl
instance : Dec Str where
  dec := fun d => match d with | .str i => some i | _ => none
  de := fun d a h => by cases d <;> first | (cases h; rfl) | cases h
  ed := fun _ => rfl
instance : Dec (Option Int) where
  dec := fun d => match d with | .int i => some (some i) | .non => some none | _ => none
  de := fun d a h => by cases d <;> first | (cases h; rfl) | cases h
  ed := fun a => by cases a <;> rfl
def decs {α : Type} (f : D → Option α) : List D → Option (List α)
  | [] => some []
  | d :: ds => match f d, decs f ds with
    | some a, some as => some (a :: as)
    | _, _ => none
theorem decs_de {α : Type} [Dec α] : ∀ (ds : List D) (as : List α), decs Dec.dec ds = some as → ds = as.map enc
  | [], as, h => by cases h; rfl
  | d :: ds, as, h => by
    unfold decs at h
    cases z1 : Dec.dec (α := α) d with
    | none => rw [z1] at h; cases h
    | some a =>
      cases z2 : decs (Dec.dec (α := α)) ds with
      | none => rw [z1, z2] at h; cases h
      | some as' =>
        rw [z1, z2] at h
        cases h
        rw [List.map_cons, ← decs_de ds as' z2, ← Dec.de d a z1]
theorem decs_ed {α : Type} [Dec α] : ∀ as : List α, decs (Dec.dec (α := α)) (as.map enc) = some as
  | [] => rfl
  | a :: as => by
    show decs _ (enc a :: as.map enc) = _
    unfold decs
    rw [Dec.ed, decs_ed as]
instance {α : Type} [Dec α] : Dec (List α) where
  dec := fun d => match d with | .lst ds => decs Dec.dec ds | _ => none
  de := fun d as h => by cases d <;> first | (show D.lst _ = D.lst _; rw [decs_de _ as h]) | cases h
  ed := fun as => decs_ed as
section
variable {α β τ : Type} [Dec α] [Dec β]
def ex0 (c : Str) (t : Option τ) (x : Exc) : Option τ := if x.c = c ∧ x.ns = [] then (match x.ds with
  | [] => t
  | _ => none) else none
def ex1 (c f : Str) (k : α → Option τ) (x : Exc) : Option τ := if x.c = c ∧ x.ns = [f] then (match x.ds with
  | [d] => (match Dec.dec (α := α) d with
    | some a => k a
    | none => none)
  | _ => none) else none
def ex2 (c f g : Str) (k : α → β → Option τ) (x : Exc) : Option τ := if x.c = c ∧ x.ns = [g, f] then (match x.ds with
  | [d', d] => (match Dec.dec (α := α) d, Dec.dec (α := β) d' with
    | some a, some b => k a b
    | _, _ => none)
  | _ => none) else none
@[simp] theorem ex1_at (c f : Str) (k : α → Option τ) (a : α) : ex1 c f k ⟨c, [f], [enc a]⟩ = k a := by unfold ex1; simp [Dec.ed]
@[simp] theorem ex2_at (c f g : Str) (k : α → β → Option τ) (a : α) (b : β) : ex2 c f g k ⟨c, [g, f], [enc b, enc a]⟩ = k a b := by unfold ex2; simp [Dec.ed]
@[simp] theorem ex0_at (c : Str) (t : Option τ) : ex0 c t ⟨c, [], []⟩ = t := by unfold ex0; simp
end
section
variable {α β γ δ σ τ ω : Type} {pn : List Nat} {S S' S1 : List SD} {e : Env} {X : Exc → Env → Prop} {P : Res α} {G : α → γ → Env → Prop} {r q : RV} {o oa ob : Opd}
instance : Enc VF.D := ⟨id⟩
def unD {τ : Type} [Dec τ] (d : VF.D) : Res τ := match Dec.dec d with
  | some a => .ok a
  | none => .st
@[simp] theorem unD_enc {τ : Type} [Dec τ] (a : τ) : unD (enc a) = .ok a := by unfold unD; rw [Dec.ed]
end
end VF
set_option maxRecDepth 100000
set_option maxHeartbeats 4000000
namespace VF
set_option autoImplicit false
open PySem L2
open Enc (enc)
section
variable {α β γ δ σ τ ω : Type} {pn : List Nat} {S S' S1 : List SD} {e : Env} {X : Exc → Env → Prop} {P : Res α} {G : α → γ → Env → Prop} {r q : RV} {o oa ob : Opd}
end
end VF
set_option maxRecDepth 100000
set_option maxHeartbeats 4000000
namespace VF
set_option autoImplicit false
open PySem L2
open Enc (enc)
section
variable {α β γ δ σ τ : Type} {pn : List Nat} {S : List SD} {e : Env} {G : α → γ → Env → Prop} {X : Exc → Env → Prop}
end
end VF
set_option maxRecDepth 100000
set_option maxHeartbeats 4000000
namespace VF
set_option autoImplicit false
open PySem L2
open Enc (enc)
def at_ (f : Str) : List Str → Option Nat
  | [] => none
  | n :: ns => if n = f then some 0 else (at_ f ns).map (· + 1)
section
variable {α β γ δ σ τ ω : Type} {pn : List Nat} {S S' S1 : List SD} {e : Env} {X : Exc → Env → Prop} {P : Res α} {G : α → γ → Env → Prop} {r q : RV} {o oa ob : Opd}
end
end VF
set_option maxRecDepth 100000
set_option maxHeartbeats 4000000
namespace VF
set_option autoImplicit false
open PySem L2
open Enc (enc)
section
variable {α β γ δ σ τ ω : Type} {pn : List Nat} {S S' S1 : List SD} {e : Env} {X : Exc → Env → Prop} {P : Res α} {G : α → γ → Env → Prop} {r q : RV} {o oa ob : Opd}
end
end VF
set_option maxRecDepth 100000
set_option maxHeartbeats 4000000
namespace VF
set_option autoImplicit false
open PySem L2
open Enc (enc)
section
variable {α β γ δ σ τ ω : Type} {pn : List Nat} {S S' S1 : List SD} {e : Env} {X : Exc → Env → Prop} {P : Res α} {G : α → γ → Env → Prop} {r q : RV} {o oa ob : Opd}
def XP (ix : List Nat) : Exc → Env → Prop := fun _ e => ∀ i ∈ ix, ∃ s, e.sl[i]? = some (some s)
inductive Ux : List SD → List Bool → List Opd → Prop
  | nil {S : List SD} : Ux S [] []
  | f {S : List SD} {md : List Bool} {o : Opd} {os : List Opd} : Ux S md os → Ux S (false :: md) (o :: os)
  | t {S : List SD} {md : List Bool} {i : Nat} {os : List Opd} : S[i]? = some .clr → Ux (S.set i .any) md os → Ux S (true :: md) (.v i :: os)
theorem Ux.unload {md : List Bool} {os : List Opd} (q : Ux S md os) : ∀ {e : Env} {rs : List RV} {ss : List SV}, Has pn S e → ROks rs os → ss.length = md.length → ∃ e', unload md rs ss e = some e' := by
  induction q with
  | nil => intro e rs ss h k hl
           cases rs with
           | nil => cases ss with
             | nil => exact ⟨e, rfl⟩
             | cons _ _ => cases hl
           | cons _ _ => exact k.elim
  | f q ih => intro e rs ss h k hl
              cases rs with
              | nil => exact k.elim
              | cons r rs => cases ss with
                | nil => cases hl
                | cons s ss =>
                  obtain ⟨e', h1⟩ := ih h k.2 (by simpa using hl)
                  exact ⟨e', by rw [ul_false]; exact h1⟩
  | t q1 q2 ih => intro e rs ss h k hl
                  cases rs with
                  | nil => exact k.elim
                  | cons r rs => cases ss with
                    | nil => cases hl
                    | cons s ss =>
                      obtain ⟨k1, k2⟩ := k
                      cases k1
                      obtain ⟨o, h1, h2⟩ := h.slot q1
                      cases h2
                      obtain ⟨e', h3⟩ := ih (h.setS _ (s := .any) (v := s) trivial) k2 (by simpa using hl)
                      refine ⟨e', ?_⟩
                      rw [ul_true]
                      rw [if_pos (by unfold isClr; rw [h1])]
                      exact h3
end
end VF
set_option maxRecDepth 100000
set_option maxHeartbeats 4000000
namespace VF
set_option autoImplicit false
open PySem L2
open Enc (enc)
structure So {α β : Type} (r : R β) (p : Res α) (G : α → β → Env → Prop) : Prop where
  run : ∀ a, p = .ok a → ∃ b e, r = .ok b e ∧ G a b e
section
variable {α β γ δ σ τ ω ψ : Type} {pn : List Nat} {S S' S1 : List SD} {e : Env} {X : Exc → Env → Prop} {P : Res α} {G : α → γ → Env → Prop} {r q : RV} {o oa ob : Opd}
end
end VF
set_option maxRecDepth 100000
set_option maxHeartbeats 4000000
namespace VF
set_option autoImplicit false
open PySem L2
open Enc (enc)
section
variable {α β γ δ σ τ ω ψ : Type} {pn : List Nat} {S S' S1 : List SD} {e : Env} {X : Exc → Env → Prop} {P : Res α} {G : α → γ → Env → Prop} {r q : RV} {o oa ob : Opd}
end
end VF
set_option maxRecDepth 100000
set_option maxHeartbeats 4000000
namespace VF
set_option autoImplicit false
open PySem L2
open Enc (enc)
section
variable {α β γ δ σ τ ω ψ : Type} {pn : List Nat} {S S' S1 : List SD} {e : Env} {X : Exc → Env → Prop} {P : Res α} {G : α → γ → Env → Prop} {r q : RV} {o oa ob : Opd}
end
end VF
set_option maxRecDepth 100000
set_option maxHeartbeats 4000000
namespace VF
set_option autoImplicit false
open PySem L2
open Enc (enc)
structure W5 (α β γ δ ε : Type) where
  a : α
  b : β
  c : γ
  d : δ
  e : ε
  deriving DecidableEq, Inhabited
section
variable {α β γ δ ε : Type} [Enc α] [Enc β] [Enc γ] [Enc δ] [Enc ε]
def W5.l (x : W5 α β γ δ ε) : List D := [enc x.a, enc x.b, enc x.c, enc x.d, enc x.e]
instance : Enc (W5 α β γ δ ε) := ⟨fun x => .lst x.l⟩
end
section
variable {pn : List Nat} {S S' S1 : List SD} {d : D}
end
@[reducible] def memD {α : Type} [DecidableEq α] (x : α) (xs : List α) : Bool := decide (x ∈ xs)
@[reducible] def notMemD {α : Type} [DecidableEq α] (x : α) (xs : List α) : Bool := decide (x ∉ xs)
end VF
set_option maxRecDepth 100000
set_option maxHeartbeats 4000000
namespace VF
set_option autoImplicit false
open PySem L2
open Enc (enc)
instance {α β γ δ ε : Type} [Enc α] [EqE α] [Enc β] [EqE β] [Enc γ] [EqE γ] [Enc δ] [EqE δ] [Enc ε] [EqE ε] : EqE (T5 α β γ δ ε) where
  dep := max (max (EqE.dep α) (EqE.dep δ)) (max (EqE.dep β) (max (EqE.dep γ) (EqE.dep ε))) + 1
  lay := fun x => by
    obtain ⟨p, h1, h2, h3⟩ := EqE.lay x.a
    obtain ⟨q, k1, k2, k3⟩ := EqE.lay x.b
    obtain ⟨r, l1, l2, l3⟩ := EqE.lay x.c
    obtain ⟨s, m1, m2, m3⟩ := EqE.lay x.d
    obtain ⟨u, n1, n2, n3⟩ := EqE.lay x.e
    refine ⟨.tuple [p, q, r, s, u], toP_tup2 (by simp [toPs, h1, k1, l1, m1, n1]), by simp [PyData.plain, PyData.plainAll, h2, k2, l2, m2, n2], ?_⟩
    simp only [PyData.depth, PyData.depthAll]; omega
  eqv := fun x y p q h1 h2 => by
    obtain ⟨p1, a1, _⟩ := EqE.lay x.a
    obtain ⟨p2, a2, _⟩ := EqE.lay x.b
    obtain ⟨p3, a3, _⟩ := EqE.lay x.c
    obtain ⟨p4, a4, _⟩ := EqE.lay x.d
    obtain ⟨p5, a5, _⟩ := EqE.lay x.e
    obtain ⟨q1, b1, _⟩ := EqE.lay y.a
    obtain ⟨q2, b2, _⟩ := EqE.lay y.b
    obtain ⟨q3, b3, _⟩ := EqE.lay y.c
    obtain ⟨q4, b4, _⟩ := EqE.lay y.d
    obtain ⟨q5, b5, _⟩ := EqE.lay y.e
    have e1 : toP (enc x) = some (.tuple [p1, p2, p3, p4, p5]) := toP_tup2 (by simp [toPs, a1, a2, a3, a4, a5])
    have e2 : toP (enc y) = some (.tuple [q1, q2, q3, q4, q5]) := toP_tup2 (by simp [toPs, b1, b2, b3, b4, b5])
    rw [e1] at h1; rw [e2] at h2; cases h1; cases h2
    simp only [PyData.eqv, PyData.eqvAll, Bool.and_true, Bool.and_eq_true, EqE.eqv _ _ _ _ a1 b1, EqE.eqv _ _ _ _ a2 b2, EqE.eqv _ _ _ _ a3 b3, EqE.eqv _ _ _ _ a4 b4, EqE.eqv _ _ _ _ a5 b5]
    cases x; cases y; simp
instance {α β γ δ ε : Type} [Enc α] [Enc β] [Enc γ] [Enc δ] [Enc ε] : NoN (T5 α β γ δ ε) := ⟨fun a h => by
  have h' : (toPs [enc a.a, enc a.b, enc a.c, enc a.d, enc a.e]).map PyData.tuple = some .none := h
  cases z : toPs [enc a.a, enc a.b, enc a.c, enc a.d, enc a.e] <;> rw [z] at h' <;> cases h'⟩
section
variable {α β γ δ σ τ ω ψ : Type} {pn : List Nat} {S S' S1 : List SD} {e : Env} {X : Exc → Env → Prop} {P : Res α} {G : α → γ → Env → Prop} {r q : RV} {o oa ob : Opd}
end
end VF
set_option maxRecDepth 100000
set_option maxHeartbeats 4000000
namespace VF
set_option autoImplicit false
open PySem L2
open Enc (enc)
section
variable {α β γ δ σ τ ω ψ : Type} {pn : List Nat} {S S' S1 : List SD} {e : Env} {X : Exc → Env → Prop} {P : Res α} {G : α → γ → Env → Prop} {r q : RV} {o oa ob : Opd}
end
end VF
set_option maxRecDepth 100000
set_option maxHeartbeats 4000000
namespace VF
set_option autoImplicit false
open PySem L2
open Enc (enc)
open PySem.W (alike AllAlike Sortable dataLe dataLt EachIs keyToks alikeAll)
class SrtE (α : Type) [Enc α] where
  al : ∀ (a b : α) p q, toP (enc a) = some p → toP (enc b) = some q → alike p q = true
  kd : Bool
  isT : ∀ (a : α) p, toP (enc a) = some p → cond kd (isTup1 p) (noTup p) = true
instance : SrtE Int where
  al := fun a b p q h1 h2 => by cases h1; cases h2; rfl
  kd := false
  isT := fun a p h => by cases h; rfl
instance : SrtE Str where
  al := fun a b p q h1 h2 => by cases h1; cases h2; rfl
  kd := false
  isT := fun a p h => by cases h; rfl
section
variable {α β γ : Type} [Enc α] [SrtE α] [Enc β] [SrtE β] [Enc γ] [SrtE γ]
theorem al_list : ∀ (xs ys : List α) ps qs, toPs (xs.map enc) = some ps → toPs (ys.map enc) = some qs → alikeAll ps qs = true
  | [], _, ps, qs, h1, h2 => by cases h1; simp [alikeAll]
  | _ :: _, [], ps, qs, h1, h2 => by cases h2; cases ps <;> simp [alikeAll]
  | x :: xs, y :: ys, ps, qs, h1, h2 => by
    have h1' : (match toP (enc x), toPs (xs.map enc) with | some p, some ps => some (p :: ps) | _, _ => none) = some ps := h1
    have h2' : (match toP (enc y), toPs (ys.map enc) with | some p, some ps => some (p :: ps) | _, _ => none) = some qs := h2
    cases z1 : toP (enc x) with
    | none => rw [z1] at h1'; cases h1'
    | some p => cases z2 : toPs (xs.map enc) with
      | none => rw [z1, z2] at h1'; cases h1'
      | some ps' =>
        rw [z1, z2] at h1'; cases h1'
        cases z3 : toP (enc y) with
        | none => rw [z3] at h2'; cases h2'
        | some q => cases z4 : toPs (ys.map enc) with
          | none => rw [z3, z4] at h2'; cases h2'
          | some qs' =>
            rw [z3, z4] at h2'; cases h2'
            rw [alikeAll, SrtE.al x y p q z1 z3, al_list xs ys ps' qs' z2 z4]; rfl
instance : SrtE (List α) where
  al := fun a b p q h1 h2 => by
    have h1' : (toPs (a.map enc)).map PyData.list = some p := h1
    have h2' : (toPs (b.map enc)).map PyData.list = some q := h2
    cases z1 : toPs (a.map enc) with
    | none => rw [z1] at h1'; cases h1'
    | some ps => cases z2 : toPs (b.map enc) with
      | none => rw [z2] at h2'; cases h2'
      | some qs =>
        rw [z1] at h1'; rw [z2] at h2'; cases h1'; cases h2'
        rw [alike]; exact al_list a b ps qs z1 z2
  kd := false
  isT := fun a p h => by
    have h' : (toPs (a.map enc)).map PyData.list = some p := h
    cases z : toPs (a.map enc) with
    | none => rw [z] at h'; cases h'
    | some ps => rw [z] at h'; cases h'; rfl
theorem toPs_two {a b : D} {ps : List PyData} (h : toPs [a, b] = some ps) : ∃ p q, toP a = some p ∧ toP b = some q ∧ ps = [p, q] := by
  cases z1 : toP a with
  | none => simp [toPs, z1] at h
  | some p => cases z2 : toP b with
    | none => simp [toPs, z1, z2] at h
    | some q => simp [toPs, z1, z2] at h; exact ⟨p, q, rfl, rfl, h.symm⟩
theorem toPs_three {a b c : D} {ps : List PyData} (h : toPs [a, b, c] = some ps) : ∃ p q r, toP a = some p ∧ toP b = some q ∧ toP c = some r ∧ ps = [p, q, r] := by
  cases z1 : toP a with
  | none => simp [toPs, z1] at h
  | some p => cases z2 : toP b with
    | none => simp [toPs, z1, z2] at h
    | some q => cases z3 : toP c with
      | none => simp [toPs, z1, z2, z3] at h
      | some r => simp [toPs, z1, z2, z3] at h; exact ⟨p, q, r, rfl, rfl, rfl, h.symm⟩
theorem toP_tupO {ds : List D} {p : PyData} (h : toP (.tup ds) = some p) : ∃ ps, toPs ds = some ps ∧ p = .tuple ps := by
  have h' : (toPs ds).map PyData.tuple = some p := h
  cases z : toPs ds with
  | none => rw [z] at h'; cases h'
  | some ps => rw [z] at h'; cases h'; exact ⟨ps, rfl, rfl⟩
instance : SrtE (α × β) where
  al := fun a b p q h1 h2 => by
    obtain ⟨ps, e1, rfl⟩ := toP_tupO h1
    obtain ⟨qs, e2, rfl⟩ := toP_tupO h2
    obtain ⟨p1, p2, a1, a2, rfl⟩ := toPs_two e1
    obtain ⟨q1, q2, b1, b2, rfl⟩ := toPs_two e2
    simp only [alike, alikeAll, SrtE.al _ _ _ _ a1 b1, SrtE.al _ _ _ _ a2 b2, Bool.and_self]
  kd := true
  isT := fun a p h => by
    obtain ⟨ps, e1, rfl⟩ := toP_tupO h
    obtain ⟨p1, p2, a1, a2, rfl⟩ := toPs_two e1
    rfl
instance : SrtE (T3 α β γ) where
  al := fun a b p q h1 h2 => by
    obtain ⟨ps, e1, rfl⟩ := toP_tupO h1
    obtain ⟨qs, e2, rfl⟩ := toP_tupO h2
    obtain ⟨p1, p2, p3, a1, a2, a3, rfl⟩ := toPs_three e1
    obtain ⟨q1, q2, q3, b1, b2, b3, rfl⟩ := toPs_three e2
    simp only [alike, alikeAll, SrtE.al _ _ _ _ a1 b1, SrtE.al _ _ _ _ a2 b2, SrtE.al _ _ _ _ a3 b3, Bool.and_self]
  kd := true
  isT := fun a p h => by
    obtain ⟨ps, e1, rfl⟩ := toP_tupO h
    obtain ⟨p1, p2, p3, a1, a2, a3, rfl⟩ := toPs_three e1
    rfl
end
section
variable {α : Type} [Enc α]
end
section
variable {pn : List Nat} {S : List SD} {a : M RV} {oa : Opd}
end
section
variable {α : Type} [Enc α] [EqE α] [SrtE α]
omit [SrtE α] in
omit [SrtE α] in
omit [SrtE α] [EqE α] in
omit [SrtE α] in
end
end VF
set_option maxRecDepth 100000
set_option maxHeartbeats 4000000
namespace VF
set_option autoImplicit false
open PySem L2
open Enc (enc)
section
variable {α β γ δ σ τ ω ψ : Type} {pn : List Nat} {S S' S1 S2 : List SD} {e : Env} {X : Exc → Env → Prop} {P : Res α} {G : α → γ → Env → Prop} {r q : RV} {o oa ob oc : Opd} {d : D}
end
end VF
set_option maxRecDepth 100000
set_option maxHeartbeats 4000000
namespace VF
set_option autoImplicit false
open PySem L2
open Enc (enc)
section
variable {α γ τ ω : Type} {pn : List Nat} {S S1 : List SD} {e : Env} {X : Exc → Env → Prop} {G : α → γ → Env → Prop} {o : Opd}
theorem F2.len : ∀ {S : List SD} {l : List (Option SV)}, F2 S l → S.length = l.length
  | [], [], _ => rfl
  | _ :: _, _ :: _, h => congrArg Nat.succ (F2.len h.2)
  | [], _ :: _, h => h.elim
  | _ :: _, [], h => h.elim
end
end VF
set_option maxRecDepth 100000
set_option maxHeartbeats 4000000
namespace VF
set_option autoImplicit false
open PySem L2
open Enc (enc)
section
variable {α γ τ ω : Type} {pn : List Nat} {S S1 : List SD} {e : Env} {X : Exc → Env → Prop} {G : α → γ → Env → Prop} {P : Res α} {r : RV} {o oi ok' oa : Opd}
@[irreducible] def okRepB (n : Nat) (k : Int) : Bool := decide (okRepN n k)
end
end VF
set_option maxRecDepth 100000
set_option maxHeartbeats 4000000
namespace VF
set_option autoImplicit false
open PySem L2
open Enc (enc)
section
variable {α γ τ ω ψ : Type} {pn : List Nat} {S S1 : List SD} {e : Env} {X : Exc → Env → Prop} {G : α → γ → Env → Prop} {P : Res α} {r : RV} {o : Opd}
end
end VF
set_option maxRecDepth 100000
set_option maxHeartbeats 4000000
namespace VF
set_option autoImplicit false
open PySem PySem.Spec PyProof.Rows L2
open AT (cells cellsL er ers)
mutual
def flatS : SV → Bool
  | .fz d => (imm d).isSome
  | .ol xs => flatL xs
  | .oo _ _ xs => flatL xs
  | .od _ xs => flatL xs
def flatL : List SV → Bool
  | [] => true
  | x :: xs => flatS x && flatL xs
end
section
variable {K : PySem.W.Frag} {mg : Str → Option Value} {pv : List (Nat × V)} {F F' H H' : Hp} {σ : L2.St} {e e' : Env} {as as' : List (Option AT)} {held tr ts us : List AT} {E : XS}
theorem rep_immS {v : V} {d : D} (h : (imm d).isSome = true) (r : Rep K mg F v d) : Rep K mg F' v d := by
  cases d <;> first | exact r | cases h
mutual
theorem ok_flat : ∀ (t : AT), flatS (er t) = true → Ok K mg F t → Ok K mg F' t
  | .fz v d, h, k => rep_immS (by simpa [er, flatS] using h) k
  | .ol p xs, h, k => oks_flat xs (by simpa [er, flatS] using h) k
  | .oo p C dx c ns xs, h, k => ⟨k.1, k.2.1, oks_flat xs (by simpa [er, flatS] using h) k.2.2⟩
  | .od p ks xs, h, k => ⟨k.1, oks_flat xs (by simpa [er, flatS] using h) k.2⟩
theorem oks_flat : ∀ (ts : List AT), flatL (ers ts) = true → Oks K mg F ts → Oks K mg F' ts
  | [], _, _ => trivial
  | t :: ts, h, k => by
    have h' : (flatS (er t) && flatL (ers ts)) = true := by simpa [ers, flatL] using h
    rw [Bool.and_eq_true] at h'
    exact ⟨ok_flat t h'.1 k.1, oks_flat ts h'.2 k.2⟩
end
end
section
variable {X : Cx} {E : XS} {a : Expr} {m : M RV} {mt : M Bool}
end
end VF
set_option maxRecDepth 100000
set_option maxHeartbeats 4000000
namespace VF
set_option autoImplicit false
open PySem PySem.Spec PyProof.Rows L2
open AT (cells cellsL er ers)
section
variable {K : PySem.W.Frag} {mg : Str → Option Value} {pv : List (Nat × V)} {F F' H H' : Hp} {σ : L2.St} {e e' : Env} {as as' : List (Option AT)} {held tr ts us : List AT} {E : XS}
end
section
variable {X : Cx} {E : XS} {L : List Nat} {tg it : Expr} {mi : M (List D)} {g : Tg} {me : M RV} {pos p : Pos} {es : List Expr} {mr : M (List RV)}
end
end VF
set_option maxRecDepth 100000
set_option maxHeartbeats 4000000
namespace VF
set_option autoImplicit false
open PySem L2
open Enc (enc)
inductive Lnd : List SD → List SD → Prop
  | nil : Lnd [] []
  | fz {d : D} {S S' : List SD} : Lnd S S' → Lnd (.fz d :: S) (.fz d :: S')
  | ol {ds : List D} {d : D} {S S' : List SD} : D.lst ds = d → Lnd S S' → Lnd (.ol ds :: S) (.fz d :: S')
  | x {s : SV} {d : D} {S S' : List SD} : s.toD = d → Lnd S S' → Lnd (.x s :: S) (.fz d :: S')
  | clr {S S' : List SD} : Lnd S S' → Lnd (.clr :: S) (.clr :: S')
  | cf {S S' : List SD} : Lnd S S' → Lnd (.cf :: S) (.cf :: S')
  | val {d : D} {S S' : List SD} : Lnd S S' → Lnd (.val d :: S) (.fz d :: S')
  | an {s : SD} {S S' : List SD} : Lnd S S' → Lnd (s :: S) (.any :: S')
section
variable {α β γ ψ τ : Type} {pn : List Nat} {S S' S1 : List SD} {e : Env} {X X' : Exc → Env → Prop} {P : Res α} {G : α → γ → Env → Prop} {r q : RV} {o oa ob : Opd}
end
end VF
set_option maxRecDepth 100000
set_option maxHeartbeats 4000000
namespace VF
set_option autoImplicit false
open PySem PySem.Spec PyProof.Rows L2
open AT (cells cellsL er ers)
section
variable {K : PySem.W.Frag} {mg : Str → Option Value} {pv : List (Nat × V)} {F F' H H' : Hp} {σ : L2.St} {e e' : Env} {as as' : List (Option AT)} {held tr ts us : List AT} {E : XS}
theorem at_int {ys : List AT} {xs : List SV} {n : Nat} {i : Int} (ey : ers ys = xs) (h : xs[n]? = some (.fz (.int i))) (ok : Oks K mg F ys) : (vals ys)[n]? = some (.int i) := by
  have hk : ys[n]?.map er = some (.fz (.int i)) := by rw [← List.getElem?_map, ← ers_eq, ey]; exact h
  cases q3 : ys[n]? with
  | none => rw [q3] at hk; cases hk
  | some t =>
    rw [q3] at hk
    have hk' : er t = .fz (.int i) := by simpa using hk
    have okt := Oks.mem.mp ok t (List.mem_of_getElem? q3)
    show (ys.map AT.val)[n]? = _
    rw [List.getElem?_map, q3]
    cases t with
    | fz v d =>
      have ed : d = .int i := by simpa [er] using hk'
      subst ed
      have ev : v = .int i := okt
      subst ev
      rfl
    | ol _ _ => simp [er] at hk'
    | oo _ _ _ _ _ _ => simp [er] at hk'
    | od _ _ _ => simp [er] at hk'
theorem vals_ints {ys : List AT} {vs : List Int} (ey : ers ys = vs.map fun i => SV.fz (.int i)) (ok : Oks K mg F ys) : vals ys = vs.map V.int := by
  refine List.ext_getElem? fun n => ?_
  have h := congrArg (fun l => l[n]?) ey
  rw [List.getElem?_map]
  cases q : vs[n]? with
  | none =>
    have l1 : ys.length = vs.length := by have := congrArg List.length ey; rwa [ers_length, List.length_map] at this
    have : vs.length ≤ n := List.getElem?_eq_none_iff.mp q
    rw [List.getElem?_eq_none_iff.mpr (show (vals ys).length ≤ n by unfold vals; rw [List.length_map]; omega)]; rfl
  | some i =>
    exact at_int ey (by rw [List.getElem?_map, q]; rfl) ok
end
section
variable {X : Cx} {E : XS} {a kx : Expr} {ma mk : M RV} {pos p1 p2 p3 : Pos} {j : Nat} {y : Str}
end
end VF
set_option maxRecDepth 100000
set_option maxHeartbeats 4000000
namespace VF
set_option autoImplicit false
open PySem PySem.Spec PyProof.Rows L2
open AT (cells cellsL er ers)
section
variable {K : PySem.W.Frag} {mg : Str → Option Value} {pv : List (Nat × V)} {F F' H H' : Hp} {σ : L2.St} {e e' : Env} {as as' : List (Option AT)} {held tr ts us : List AT} {E : XS}
end
section
variable {X : Cx} {CX : CXT} {k : Nat} {f C : Addr} {fd : FuncData} {ps : List Str} {sp : Sp} {m : Str} {apos pos : Pos} {a o : Expr} {es : List Expr} {ta : TE} {t : TA} {E : XS} {mr : M (List RV)}
end
end VF
set_option maxRecDepth 100000
set_option maxHeartbeats 4000000
namespace VF
set_option autoImplicit false
open PySem PySem.Spec PyProof.Rows L2
open AT (cells cellsL er ers)
section
variable {K : PySem.W.Frag} {mg : Str → Option Value} {pv : List (Nat × V)} {F F' H H' : Hp} {σ : L2.St} {e e' : Env} {as as' : List (Option AT)} {held tr ts us : List AT} {E : XS}
end
section
variable {X : Cx} {E : XS} {a b : Expr} {ma mb : M RV} {pos p : Pos} {es : List Expr} {mr : M (List RV)}
end
end VF
set_option maxRecDepth 100000
set_option maxHeartbeats 4000000
namespace VF
set_option autoImplicit false
open PySem PySem.Spec PyProof.Rows L2
open AT (cells cellsL er ers)
section
variable {K : PySem.W.Frag} {mg : Str → Option Value} {pv : List (Nat × V)} {F F' H H' : Hp} {σ : L2.St} {e e' : Env} {as as' : List (Option AT)} {held tr ts us : List AT} {E : XS}
end
section
variable {X : Cx} {E : XS} {a kx : Expr} {ma : M RV} {mk : M RV} {pos p p1 p2 p3 : Pos} {j : Nat} {y : Str} {es : List Expr} {mr : M (List RV)}
end
end VF
set_option maxRecDepth 100000
set_option maxHeartbeats 4000000
namespace VF
set_option autoImplicit false
open PySem PySem.Spec PyProof.Rows L2
open AT (cells cellsL er ers)
def isOwnS : SV → Bool
  | .fz _ => false
  | _ => true
def inP (i : Nat) (r : SV) (e : Env) : Option Env := if i ∉ e.pn ∧ i < e.sl.length ∧ isOwnS r = true then some ⟨(e.setS i r).sl, i :: e.pn⟩ else none
section
variable {K : PySem.W.Frag} {mg : Str → Option Value} {pv : List (Nat × V)} {F F' H H' : Hp} {σ : L2.St} {e e' : Env} {as as' : List (Option AT)} {held tr ts us : List AT} {E : XS}
end
section
variable {X : Cx} {E : XS} {pos p p1 px : Pos} {j i : Nat} {x y : Str}
end
end VF
set_option maxRecDepth 100000
set_option maxHeartbeats 4000000
namespace VF
set_option autoImplicit false
open PySem PySem.Spec PyProof.Rows L2
section
variable {X : Cx} {CX : CXT} {k : Nat} {f C : Addr} {fd : FuncData} {ps ks : List Str} {sp : Sp} {x : Str} {p pos : Pos} {kws : List Keyword} {tk : TA}
end
end VF
set_option maxRecDepth 100000
set_option maxHeartbeats 4000000
namespace VF
set_option autoImplicit false
open PySem L2
open Enc (enc)
section
variable {α β γ ψ τ : Type} {pn : List Nat} {S S' S1 : List SD} {e : Env} {X X' : Exc → Env → Prop} {P : Res α} {G : α → γ → Env → Prop} {r q : RV} {o oa ob : Opd}
end
end VF
set_option maxRecDepth 100000
set_option maxHeartbeats 4000000
namespace VF
set_option autoImplicit false
open PySem L2
open Enc (enc)
structure IMap (α : Type) where
  l : List (Int × α)
section
variable {α β γ ψ τ : Type} {pn : List Nat} {S S' S1 : List SD} {e : Env} {X X' : Exc → Env → Prop} {P : Res α} {G : α → γ → Env → Prop} {r q : RV} {o oa ob : Opd}
def keysI (l : List (Int × τ)) : List L2.Key := l.map fun q => .inl q.1
def valsI [Enc τ] (l : List (Int × τ)) : List D := l.map fun q => enc q.2
instance [Enc τ] : Enc (IMap τ) := ⟨fun m => .dct (keysI m.l) (valsI m.l)⟩
def imx [Enc τ] (m : IMap τ) : SV := .od (keysI m.l) (fzs (valsI m.l))
end
end VF
set_option maxRecDepth 100000
set_option maxHeartbeats 4000000
namespace VF
set_option autoImplicit false
open PySem L2
open Enc (enc)
section
variable {α β γ ψ τ : Type} {pn : List Nat} {S S' S1 S3 : List SD} {e : Env} {X X' : Exc → Env → Prop} {P : Res α} {G : α → γ → Env → Prop} {r q : RV} {o oa ob : Opd}
def FSUD (φr : FR) (p : Res τ) (ro : τ → SV) (au : τ → List SV) (ss : List SV) : Prop := match p with
  | .st => True
  | .ok t => φr = .ok (ro t) (au t)
  | .ex x => φr = .ex x ss
structure FSU (φr : FR) (p : Res τ) (ro : τ → SV) (au : τ → List SV) (ss : List SV) : Prop where
  run : FSUD φr p ro au ss
theorem FSU.fs {φr : FR} {p : Res τ} {ro : τ → SV} {au : τ → List SV} {ss : List SV} (h : FSU φr p ro au ss) : FS true φr p ro au := by
  cases p with
  | st => exact ⟨trivial⟩
  | ok t => exact ⟨h.run⟩
  | ex x => exact ⟨rfl, ss, h.run⟩
end
end VF
set_option maxRecDepth 100000
set_option maxHeartbeats 4000000
namespace VF
set_option autoImplicit false
open PySem PySem.Spec PyProof.Rows L2
open AT (cells cellsL er ers)
structure Clz where
  x : Str
  c : Value
  p : Pos
  q : Pos
  s0 : Stmt
  r : List Stmt
  t : Addr → Value → Option Addr → TS
def Clz.h (n : Str) (k : Clz) : ExceptHandler := .ExceptHandler (some (.Name k.x k.p)) (some n) (k.s0 :: k.r) k.q
def wN (K : PySem.W.Frag) (i : Nat) : List Clz → L2.WX → Ends → L2.WX
  | [], Wo, _ => Wo
  | k :: ks, Wo, D => wAs K k.c i k.t (wN K i ks Wo D) D
structure Clz.Ok (X : Cx) (k : Clz) : Prop where
  c : Names X k.x k.c
  s : ∀ (a : Addr) (oe : Obj) (cl : Value) (dd : Option Addr) (pn : List (Addr × Obj)), Zc cl dd oe → (∃ us, oe.data = .fields us) → PSs (X.suite a ((a, oe) :: pn)) (k.s0 :: k.r) (k.t a cl dd)
section
variable {X : Cx} {n : Str} {i : Nat} {body : List Stmt} {pos : Pos} {tb : L2.WX → TS} {Wo : L2.WX}
end
structure ClE where
  tab : List Str
  h : Exc → Option SV
inductive CatN (K : PySem.W.Frag) (mg : Str → Option Value) : List Value → List (List Str) → Prop
  | nil : CatN K mg [] []
  | cons {c : Value} {cs : List Value} {t : List Str} {ts : List (List Str)} (h : CatT K mg c t) (f : ∀ t' ∈ ts, ∀ y ∈ t', ∀ C : Addr, mg y = some (.ref C) → PySem.W.exmOne K (.ref C) c = some false) (r : CatN K mg cs ts) : CatN K mg (c :: cs) (t :: ts)
inductive NotT (K : PySem.W.Frag) (mg : Str → Option Value) (c : Value) : List Str → Prop
  | nil : NotT K mg c []
  | cons {y : Str} {C : Addr} {t : List Str} (g : mg y = some (.ref C)) (f : PySem.W.exmOne K (.ref C) c = some false) (r : NotT K mg c t) : NotT K mg c (y :: t)
theorem NotT.at {K : PySem.W.Frag} {mg : Str → Option Value} {c : Value} {t : List Str} (T : NotT K mg c t) {y : Str} {C : Addr} (h : y ∈ t) (g : mg y = some (.ref C)) : PySem.W.exmOne K (.ref C) c = some false := by
  induction T with
  | nil => cases h
  | @cons y' C' t g' f r ih =>
    rcases List.mem_cons.mp h with q | q
    · subst q
      rw [g] at g'
      cases g'
      exact f
    · exact ih q
section
variable {X : Cx} {E : XS}
structure ClT (X : Cx) (n : Str) (i : Nat) (e : ExceptHandler) (c : Value) (m : ClE) : Prop where
  go : ∃ (x : Str) (p q : Pos) (s0 : Stmt) (r : List Stmt), e = .ExceptHandler (some (.Name x p)) (some n) (s0 :: r) q ∧ Names X x c ∧ SuB X i (s0 :: r) m.h
inductive ClTs (X : Cx) (n : Str) (i : Nat) : List ExceptHandler → List Value → List ClE → Prop
  | nil : ClTs X n i [] [] []
  | cons {e : ExceptHandler} {es : List ExceptHandler} {c : Value} {cs : List Value} {m : ClE} {ms : List ClE} (h : ClT X n i e c m) (r : ClTs X n i es cs ms) : ClTs X n i (e :: es) (c :: cs) (m :: ms)
end
end VF
set_option maxRecDepth 100000
set_option maxHeartbeats 4000000
namespace VF
set_option autoImplicit false
open PySem PySem.Spec PyProof.Rows L2
open AT (cells cellsL er ers)
section
variable {K : PySem.W.Frag} {mg : Str → Option Value} {pv : List (Nat × V)} {F F' H H' : Hp} {σ : L2.St} {e e' : Env} {as as' : List (Option AT)} {held tr ts us : List AT} {E : XS}
end
section
variable {X : Cx} {E : XS} {pos p p1 p2 : Pos} {j : Nat} {y : Str}
end
end VF
set_option maxRecDepth 100000
set_option maxHeartbeats 4000000
namespace VF
set_option autoImplicit false
open PySem PySem.Spec PyProof.Rows L2
open AT (cells cellsL er ers)
def Keep (j k : Nat) (a : Addr) (as : List (Option AT)) : Prop := ∃ p C dx c ns yts, as[j]? = some (some (.oo p C dx c ns yts)) ∧ yts[k]? = some (.fz (.ref a) .hl)
def SSk (K : PySem.W.Frag) (mg : Str → Option Value) (j k : Nat) (t : TS) (m : M Fl) : Prop := ∀ a pv F H σ e as held D e2, Keep j k a as → Cf K mg pv F H σ e as held → m e = .ok .nx e2 →
  (∀ σ' F' H' as', Same F F' → Keep j k a as' → Cf K mg pv F' H' σ' e2 as' held → D.nx σ' H') → t D σ H
structure VSk (X : Cx) (j k : Nat) (s : Stmt) (m : M Fl) : Prop where
  go : ∃ t, PS X s t ∧ SSk X.K X.mg j k t m
structure VBk (X : Cx) (j k : Nat) (b : List Stmt) (m : M Fl) : Prop where
  go : ∃ t, PSs X b t ∧ SSk X.K X.mg j k t m
section
variable {K : PySem.W.Frag} {mg : Str → Option Value} {pv : List (Nat × V)} {F F' H H' : Hp} {σ : L2.St} {e e' : Env} {as as' : List (Option AT)} {held tr ts us : List AT} {E : XS} {j k : Nat}
end
section
variable {X : Cx} {E : XS} {a kx c : Expr} {ma mk mc : M RV} {m m' : M Fl} {pos p p1 p3 : Pos} {j k : Nat} {y : Str} {x0 y0 : List Stmt} {s : Stmt}
end
end VF
set_option maxRecDepth 100000
set_option maxHeartbeats 4000000
namespace VF
set_option autoImplicit false
open PySem PySem.Spec PyProof.Rows L2
open AT (cells cellsL er ers)
section
variable {K : PySem.W.Frag} {mg : Str → Option Value} {pv : List (Nat × V)} {F F' H H' : Hp} {σ : L2.St} {e e' : Env} {as as' : List (Option AT)} {held tr ts us : List AT} {E : XS} {j k : Nat}
theorem wipe_out {σ : L2.St} {j : Nat} : ∀ {vs : List Nat}, j ∉ vs → (wipe σ vs)[j]? = σ[j]?
  | [], _ => rfl
  | v :: vs, h => by
    show ((wipe σ vs).set v none)[j]? = _
    rw [List.getElem?_set_ne (fun e : v = j => h (by rw [e]; exact List.mem_cons_self))]
    exact wipe_out fun m => h (List.mem_cons_of_mem _ m)
end
section
variable {X : Cx} {E : XS} {pos p p1 : Pos} {j k : Nat} {y : Str} {tg : Expr} {g : Tg} {L : List Nat} {mb : M Fl}
end
end VF
set_option maxRecDepth 100000
set_option maxHeartbeats 4000000
namespace VF
set_option autoImplicit false
open PySem L2
open Enc (enc)
section
variable {α γ : Type} {P : Res α} {pn : List Nat} {S S1 : List SD} {e : Env} {G : α → γ → Env → Prop} {X : Exc → Env → Prop}
structure UnS (cs nms : List Str) (c : Str) (k n : Nat) (xs : SV → IMap (List Int) → List SV) : Prop where
  c : c ∈ cs
  d : fIx "deeds" nms = some k
  r : fIx "rankings" nms = some n
  dx : ∀ d rr, (xs d rr)[k]? = some d
  ds : ∀ d d' rr, (xs d rr).set k d' = xs d' rr
  rx : ∀ d rr, (xs d rr)[n]? = some (imx rr)
  rs : ∀ d rr rr', (xs d rr).set n (imx rr') = xs d rr'
end
end VF
set_option maxRecDepth 100000
set_option maxHeartbeats 4000000
namespace VF
set_option autoImplicit false
open PySem PySem.Spec PyProof.Rows L2
open AT (cells cellsL er ers)
section
variable {K : PySem.W.Frag} {mg : Str → Option Value} {pv : List (Nat × V)} {F F' H H' : Hp} {σ : L2.St} {e e' : Env} {as as' : List (Option AT)} {held tr ts us : List AT} {E : XS}
end
section
variable {X : Cx} {E : XS} {a kx : Expr} {ma mk : M RV} {pos p1 p2 p3 : Pos} {j : Nat} {y : Str}
end
end VF
set_option maxRecDepth 100000
set_option maxHeartbeats 4000000
namespace VF
set_option autoImplicit false
open PySem PySem.Spec PyProof.Rows L2
open AT (cells cellsL er ers)
section
variable {K : PySem.W.Frag} {mg : Str → Option Value} {pv : List (Nat × V)} {F F' H H' : Hp} {σ : L2.St} {e e' : Env} {as as' : List (Option AT)} {held tr ts us : List AT} {E : XS}
end
section
variable {X : Cx} {E : XS} {pos p1 p2 p3 p4 p5 p6 p7 p8 p9 p10 pif pc pa : Pos} {jd jl i jv : Nat} {d l k v : Str}
end
end VF
set_option maxRecDepth 100000
set_option maxHeartbeats 4000000
namespace VF
set_option autoImplicit false
open PySem PySem.Spec PyProof.Rows L2
open AT (cells cellsL er ers)
section
variable {X : Cx} {pins : List (Addr × Obj)} {σ : L2.St} {H : Hp} {s : Shared}
end
section
variable {K : PySem.W.Frag} {mg : Str → Option Value}
end
section
variable {X : Cx} {E : XS} {a b : Expr} {ma mb : M RV} {pos : Pos}
end
end VF
set_option maxRecDepth 100000
set_option maxHeartbeats 4000000
namespace VF
set_option autoImplicit false
open PySem PySem.Spec PyProof.Rows L2
open Enc (enc)
section
variable {α γ : Type} {P : Res α} {pn : List Nat} {S S1 S' : List SD} {e : Env} {K : RV → M γ} {X : Exc → Env → Prop} {G : α → γ → Env → Prop} {r q : RV} {oa ob : Opd} {x y : Str}
end
end VF
set_option maxRecDepth 100000
set_option maxHeartbeats 4000000
namespace VF
set_option autoImplicit false
open PySem L2
open Enc (enc)
section
variable {α γ τ ω : Type} {P : Res α} {pn : List Nat} {S S1 : List SD} {e : Env} {G : α → γ → Env → Prop} {X : Exc → Env → Prop} {r q : RV} {o oa ob : Opd}
theorem F2.any : ∀ {S : List SD} {l : List (Option SV)} (i : Nat), F2 S l → F2 (S.set i .any) l
  | _ :: _, _ :: _, 0, h => ⟨trivial, h.2⟩
  | _ :: _, _ :: _, i + 1, h => ⟨h.1, F2.any i h.2⟩
  | [], [], _, _ => trivial
  | [], _ :: _, _, h => h.elim
  | _ :: _, [], _, h => h.elim
end
end VF
set_option maxRecDepth 100000
set_option maxHeartbeats 4000000
namespace VF
set_option autoImplicit false
open PySem L2
open Enc (enc)
section
variable {α γ τ ω : Type} {P : Res α} {pn : List Nat} {S S1 : List SD} {e : Env} {G : α → γ → Env → Prop} {X : Exc → Env → Prop} {r q : RV} {o oa ob : Opd}
@[reducible] def b2i (b : Bool) : Int := if b then 1 else 0
end
end VF
set_option maxRecDepth 100000
set_option maxHeartbeats 4000000
namespace OS
set_option autoImplicit false
open PySem PySem.Spec PyProof.Rows L2
structure Easy {P : Program} {w : World} {K : Type} [DecidableEq K] (HK : HeapKind P w K) : Prop where
  cls : ∀ {A : Around} {E : Value → Shared → Prop} {s : Shared} {k : K} {b : Addr} {Q : Bool → Shared → Prop}, HK.is s.heap k b → Q false s → wpAny (model P w) A (ofAClassStatement 8 (.ref b)) Q E s
  val : ∀ {A : Around} {E : Value → Shared → Prop} {s : Shared} {k : K} {b : Addr} {Q : Bool → Shared → Prop}, HK.is s.heap k b → Q true s → wpAny (model P w) A (hashByValue 8 (.ref b)) Q E s
  rm : ∀ {A : Around}, A.units < cLine → HK.room A
section
variable {P : Program} {w : World} {K : Type} [DecidableEq K] {HK : HeapKind P w K} {A : Around} {E : Value → Shared → Prop} {s : Shared}
theorem quiet_keys (z : Easy HK) {k : K} {b : Addr} (hk : HK.is s.heap k b) {Q : Bool → Shared → Prop} (h : Q false s) : ∀ {ys : List Value}, (∀ y ∈ ys, ∃ k' c, y = Value.ref c ∧ HK.is s.heap k' c) →
    wpAny (model P w) A (searchCouldBeSeen (.ref b) ys) Q E s := by
  intro ys hy
  unfold searchCouldBeSeen
  refine wpAny_bind (wpAny_forIn_list _ (fun rest r s' => r.1 = none ∧ s' = s ∧ ∀ y ∈ rest, ∃ k' c, y = Value.ref c ∧ HK.is s.heap k' c) _ ?_ ?_ _ _ ⟨rfl, rfl, hy⟩)
  · rintro v rest r s' ⟨hr, rfl, all⟩
    obtain ⟨k', c, rfl, hc⟩ := all v List.mem_cons_self
    dsimp only
    split
    · exact wpAny_pure ⟨rfl, rfl, fun u hu => all u (List.mem_cons_of_mem _ hu)⟩
    · refine wpAny_bind (HK.quiet hk ?_)
      rw [if_neg (by decide)]
      refine wpAny_bind (HK.quiet hc ?_)
      rw [if_neg (by decide)]
      refine wpAny_bind (z.cls hk ?_)
      rw [if_neg (by decide)]
      refine wpAny_bind (z.cls hc ?_)
      rw [if_neg (by decide)]
      exact wpAny_pure ⟨rfl, rfl, fun u hu => all u (List.mem_cons_of_mem _ hu)⟩
  · rintro ⟨r1, r2⟩ s' ⟨hr, rfl, _⟩
    dsimp only at hr
    subst hr
    exact wpAny_pure h
def rowsK (HK : HeapKind P w K) (L : List (Addr × K)) : List (Int × Value) := L.map fun p => (HK.hash p.2, Value.ref p.1)
structure SetQ (HK : HeapKind P w K) (h : Heap) (a : Addr) (L : List (Addr × K)) (es : Array (Int × Value)) (ep : Nat) (t : SetTable) : Prop where
  ob : ∃ o, h.get? a = some o ∧ o.ExactSet ∧ o.data = .set es ep t
  rows : es.toList = rowsK HK L
  tab : TabOk t (L.map fun p => HK.hash p.2)
  nd : (L.map (·.2)).Nodup
  plain : t.plain = true
  led : w.params.followText "set-order" = true ∨ t.led = true
  room : L.length * 5 < t.mask * 3
  few : L.length < 64
variable {a : Addr} {L : List (Addr × K)} {es : Array (Int × Value)} {ep : Nat} {t : SetTable}
theorem rowsK_len (HK : HeapKind P w K) (L : List (Addr × K)) : (rowsK HK L).length = L.length := by unfold rowsK; rw [List.length_map]
theorem size_of_rows (h : es.toList = rowsK HK L) : es.size = L.length := by rw [← Array.length_toList, h, rowsK_len]
theorem entry_of_rows (h : es.toList = rowsK HK L) {i : Nat} {p : Addr × K} (hp : L[i]? = some p) : es[i]? = some (HK.hash p.2, Value.ref p.1) := by
  rw [← Array.getElem?_toList, h]
  unfold rowsK
  rw [List.getElem?_map, hp]; rfl
theorem fits_of (hz : t.place.size = es.size) (hd : t.dummies = #[]) (hm : es.size ≤ t.mask) : t.fits es.size = true := by
  unfold SetTable.fits SetTable.fill
  rw [hd, Bool.and_eq_true, beq_iff_eq, decide_eq_true_eq]
  exact ⟨hz, by show t.place.size + 0 ≤ t.mask; omega⟩
theorem SetQ.pl {h₀ : Heap} (R : SetQ HK h₀ a L es ep t) : t.place.size = L.length := by have := R.tab.sz; rwa [List.length_map] at this
theorem SetQ.fits {h₀ : Heap} (R : SetQ HK h₀ a L es ep t) : t.fits es.size = true := by
  have h1 := R.pl
  have h2 := size_of_rows R.rows
  have h3 := R.room
  exact fits_of (by omega) R.tab.dm (by omega)
def Lie (HK : HeapKind P w K) (h : Heap) (L : List (Addr × K)) : Prop := ∀ p ∈ L, HK.is h p.2 p.1
theorem look_from (z : Easy HK) (R : SetQ HK s.heap a L es ep t) (hL : Lie HK s.heap L) {x : Addr} {k : K} (hx : HK.is s.heap k x) (hu : A.units < cLine) (adding : Bool) {K0 : Nat} (h0 : K0 < 10 * SetTable.turns t.mask)
    (hfree : way t.mask (HK.hash k) K0 ∉ t.place.toList) (hbusy : ∀ c, c < K0 → way t.mask (HK.hash k) c ∈ t.place.toList) {Q : SetFound → Shared → Prop}
    (hin : k ∈ L.map (·.2) → ∀ r : Option Nat, r.isSome = !adding → Q (.there r) s) (hout : k ∉ L.map (·.2) → Q (.free (way t.mask (HK.hash k) K0) false) s) :
    ∀ (f c : Nat) (stand : Option SetTable.Probe), stand.getD (t.probeStart (HK.hash k)) = nth t.mask (runAt t.mask (SetTable.bits (HK.hash k) % (t.mask + 1)) (SetTable.bits (HK.hash k))) c → c ≤ K0 → K0 < c + f →
      (∀ (i : Nat) p, L[i]? = some p → p.2 = k → ∃ c', c ≤ c' ∧ c' < K0 ∧ t.place.toList[i]? = some (way t.mask (HK.hash k) c')) →
      wpAny (model P w) A (setSearchFrom a (.ref x) (HK.hash k) adding f stand) Q E s := by
  intro f
  induction f with
  | zero => intro c stand _ h1 h2; omega
  | succ f ih =>
    intro c stand hs h1 h2 hre
    obtain ⟨o, ho, hex, hd⟩ := R.ob
    generalize hp0 : runAt t.mask (SetTable.bits (HK.hash k) % (t.mask + 1)) (SetTable.bits (HK.hash k)) = p0 at hs ih
    have wy : ∀ q, way t.mask (HK.hash k) q = (nth t.mask p0 q).j := fun q => by rw [← hp0]
    have dm : ∀ (n : Nat) (p : SetTable.Probe), p.dummy = none → (nth t.mask p n).dummy = none := by
      intro n
      induction n with
      | zero => exact fun p h => h
      | succ n ihn => exact fun p h => ihn (adv t.mask p) (by unfold adv; split <;> exact h)
    have sh : ∀ q, nth t.mask (nth t.mask p0 c) q = nth t.mask p0 (c + q) := fun q => (nth_add t.mask c p0 q).symm
    have hat : ∀ (i : Nat) p, L[i]? = some p → (fun i => (es[i]?.map (·.1)).getD 0) i = HK.hash p.2 := fun i p hp => by
      show (es[i]?.map (·.1)).getD 0 = _
      rw [entry_of_rows R.rows hp]; rfl
    have sp := go_spec t R.tab.ris R.tab.dm (fun i => (es[i]?.map (·.1)).getD 0) (HK.hash k) (10 * SetTable.turns t.mask) (K0 - c) (nth t.mask p0 c) (dm c p0 (by rw [← hp0]; rfl)) (by omega)
      (fun q hq => by rw [sh, ← wy]; exact hbusy _ (by omega)) (by rw [sh, ← wy, show c + (K0 - c) = K0 by omega]; exact hfree)
    rw [setSearchFrom_succ]
    refine wpAny_bind (wpAny_setState_of ho hd R.fits ?_)
    dsimp only
    rw [if_neg (show ¬ t.gaveWay = true by unfold SetTable.gaveWay; rw [mask_odd R.tab.mok]; decide)]
    try refine wpAny_bind (wpAny_pure ?_)
    rw [hs]
    rcases sp with ⟨q, i, hq, hi, hh, hno, hpr⟩ | ⟨hno, hpr⟩
    · have hpr' : t.probe (fun i => (es[i]?.map (·.1)).getD 0) (HK.hash k) (nth t.mask p0 c) = some (.candidate (nth t.mask (nth t.mask p0 c) q).j i (nth t.mask p0 (c + (q + 1)))) := by
        rw [← sh]
        exact hpr
      rw [hpr']
      dsimp only
      rw [sh, ← wy] at hi
      have hil : i < L.length := by
        have h3 := (List.getElem?_eq_some_iff.mp hi).1
        rw [Array.length_toList, R.pl] at h3
        exact h3
      have hp : L[i]? = some L[i] := List.getElem?_eq_getElem hil
      generalize L[i] = p at hp
      have hm : p ∈ L := List.mem_of_getElem? hp
      have cmp : wpAny (model P w) A (searchRest a (.ref x) (HK.hash k) adding f es t (nth t.mask (nth t.mask p0 c) q).j i (nth t.mask p0 (c + (q + 1)))) Q E s := by
        unfold searchRest
        rw [entry_of_rows R.rows hp]
        dsimp only
        refine wpAny_bind (wpAny_holding (HK.eqBool (z.rm hu) (hL p hm) hx ?_))
        refine wpAny_bind (wpAny_setState_of ho hd R.fits ?_)
        dsimp only
        have hsl : t.slot (nth t.mask (nth t.mask p0 c) q).j = .live i := slot_live R.tab.ris (by rw [sh, ← wy]; exact hi)
        by_cases e : p.2 = k
        · have hk : k ∈ L.map (·.2) := List.mem_map.mpr ⟨p, hm, e⟩
          rw [decide_eq_true e]
          cases adding with
          | true =>
            rw [if_pos (by decide)]
            exact wpAny_pure (hin hk none rfl)
          | false =>
            rw [if_neg (by decide)]
            try refine wpAny_bind (wpAny_pure ?_)
            rw [sameMem]
            dsimp only
            simp only [if_true, hsl, entry_of_rows R.rows hp]
            refine wpAny_bind (wpAny_isSame_ref_self (wpAny_bind (wpAny_pure ?_)))
            simp only [if_true]
            exact wpAny_pure (hin hk (some i) rfl)
        · rw [decide_eq_false e, if_neg (by rw [Bool.and_false]; decide)]
          try refine wpAny_bind (wpAny_pure ?_)
          rw [sameMem]
          dsimp only
          simp only [if_true, hsl, entry_of_rows R.rows hp]
          refine wpAny_bind (wpAny_isSame_ref_self (wpAny_bind (wpAny_pure ?_)))
          simp only [if_true, Bool.false_eq_true, if_false]
          refine ih (c + (q + 1)) _ rfl (by omega) (by omega) fun i1 p1 g1 g2 => ?_
          obtain ⟨c', a1, a2, a3⟩ := hre i1 p1 g1 g2
          refine ⟨c', ?_, a2, a3⟩
          rcases Nat.lt_trichotomy c' (c + q) with y | y | y
          · refine absurd ?_ (hno (c' - c) i1 (by omega) (by rw [sh, ← wy, show c + (c' - c) = c' by omega]; exact a3))
            exact (hat i1 p1 g1).trans (congrArg _ g2)
          · rw [y] at a3
            have s0 := slot_live R.tab.ris a3
            rw [wy, ← sh, hsl] at s0
            injection s0 with s0
            rw [← s0, hp] at g1
            cases g1
            exact absurd g2 e
          · omega
      by_cases hl : t.led = true
      · rw [if_neg (by simp [hl])]
        try refine wpAny_bind (wpAny_pure ?_)
        exact cmp
      · rw [if_pos (by simp [hl])]
        refine wpAny_bind (quiet_keys z hx ?_ fun y hy => ?_)
        · rw [if_neg (by decide)]
          try refine wpAny_bind (wpAny_pure ?_)
          exact cmp
        · obtain ⟨en, he, rfl⟩ := List.mem_map.mp hy
          have he2 : en ∈ es.toList := by
            have : en ∈ es ∧ en.1 = HK.hash k := by simpa using he
            simpa using this.1
          rw [R.rows] at he2
          obtain ⟨p2, g1, g2⟩ := List.mem_map.mp he2
          exact ⟨p2.2, p2.1, by rw [← g2], hL p2 g1⟩
    · have hpr' : t.probe (fun i => (es[i]?.map (·.1)).getD 0) (HK.hash k) (nth t.mask p0 c) = some (.empty (way t.mask (HK.hash k) K0) none) := by
        have e2 : way t.mask (HK.hash k) K0 = (nth t.mask (nth t.mask p0 c) (K0 - c)).j := by rw [sh, show c + (K0 - c) = K0 by omega, wy]
        rw [e2]
        exact hpr
      rw [hpr']
      dsimp only
      refine wpAny_pure (hout fun hm => ?_)
      obtain ⟨p1, g1, g2⟩ := List.mem_map.mp hm
      obtain ⟨i1, g3, g4⟩ := List.getElem_of_mem g1
      have g5 : L[i1]? = some p1 := by rw [List.getElem?_eq_getElem g3, g4]
      obtain ⟨c', a1, a2, a3⟩ := hre i1 p1 g5 g2
      refine absurd ?_ (hno (c' - c) i1 (by omega) (by rw [sh, ← wy, show c + (c' - c) = c' by omega]; exact a3))
      exact (hat i1 p1 g5).trans (congrArg _ g2)
theorem look (z : Easy HK) (R : SetQ HK s.heap a L es ep t) (hL : Lie HK s.heap L) {x : Addr} {k : K} (hx : HK.is s.heap k x) (hu : A.units < cLine) (adding : Bool) {Q : SetFound → Shared → Prop}
    (hin : k ∈ L.map (·.2) → ∀ r : Option Nat, r.isSome = !adding → Q (.there r) s)
    (hout : ∀ K0, k ∉ L.map (·.2) → way t.mask (HK.hash k) K0 ∉ t.place.toList → (∀ c, c < K0 → way t.mask (HK.hash k) c ∈ t.place.toList) → Q (.free (way t.mask (HK.hash k) K0) false) s) :
    wpAny (model P w) A (setSearch a (.ref x) (HK.hash k) adding) Q E s := by
  have hr := R.room
  obtain ⟨K0, g1, g2, g3⟩ := R.tab.first (by rw [List.length_map]; omega) (HK.hash k)
  have hb : 10 * SetTable.turns t.mask ≤ 1420 := by
    unfold SetTable.turns
    rcases R.tab.mok with e | e | e <;> omega
  unfold setSearch
  refine look_from z R hL hx hu adding g1 g2 g3 hin (fun hn => hout K0 hn g2 g3) 100000 0 none rfl (Nat.zero_le _) (by omega) fun i p hp hk => ?_
  have hi : (L.map fun p => HK.hash p.2)[i]? = some (HK.hash k) := by rw [List.getElem?_map, hp, ← hk]; rfl
  have hil : i < t.place.toList.length := by
    rw [Array.length_toList, R.pl]
    exact (List.getElem?_eq_some_iff.mp hp).1
  have hj := List.getElem?_eq_getElem hil
  obtain ⟨c, hc, e⟩ := R.tab.before g2 hi hj
  exact ⟨c, Nat.zero_le _, hc, by rw [hj, e]⟩
theorem not_scan (x : Addr) (es : Array (Int × Value)) : ¬ byScan (.ref x) es = true := by simp [byScan, Value.scannable]
theorem found_at (z : Easy HK) (R : SetQ HK s.heap a L es ep t) (hL : Lie HK s.heap L) {x : Addr} {k : K} (hx : HK.is s.heap k x) (hu : A.units < cLine) {Q : Option Nat → Shared → Prop}
    (h : ∀ r : Option Nat, r.isSome = decide (k ∈ L.map (·.2)) → Q r s) : wpAny (model P w) A (setFind a (.ref x) (HK.hash k)) Q E s := by
  obtain ⟨o, ho, hex, hd⟩ := R.ob
  unfold setFind
  rw [show (100000 : Nat) = 99999 + 1 from rfl]
  unfold setFindIn
  refine wpAny_bind (wpAny_setState_of ho hd R.fits ?_)
  dsimp only
  rw [if_neg (not_scan x es)]
  try refine wpAny_bind (wpAny_pure ?_)
  refine wpAny_bind (look z R hL hx hu false (fun hm r hr => ?_) fun K0 hm _ _ => ?_)
  · exact wpAny_pure (h r (by rw [hr, decide_eq_true hm]; rfl))
  · exact wpAny_pure (h none (by rw [decide_eq_false hm]; rfl))
theorem rowsK_put (p : Nat) (x : Addr) (k : K) : rowsK HK (L.take p ++ (x, k) :: L.drop p) = (rowsK HK L).take p ++ (HK.hash k, Value.ref x) :: (rowsK HK L).drop p := by
  unfold rowsK
  rw [List.map_append, List.map_cons, List.map_take, List.map_drop]
theorem reorder (hr : es.toList = rowsK HK L) {order : Array Nat} (hp : order.toList.Perm (List.range L.length)) :
    ∃ L2, (order.filterMap (es[·]?)).toList = rowsK HK L2 ∧ L2.Perm L ∧ (L2.map fun p => HK.hash p.2) = order.toList.map fun i => (es.map (·.1)).getD i 0 := by
  refine ⟨order.toList.filterMap (fun i => L[i]?), ?_, ?_, ?_⟩
  · have : ∀ l : List Nat, l.filterMap (fun i => es[i]?) = rowsK HK (l.filterMap fun i => L[i]?) := by
      intro l
      unfold rowsK
      rw [List.map_filterMap]
      congr 1
      funext i
      rw [← Array.getElem?_toList, hr]
      unfold rowsK
      rw [List.getElem?_map]
    first | (rw [Array.toList_filterMap]; exact this _) | simpa using this order.toList
  · refine (hp.filterMap _).trans ?_
    have : (List.range L.length).filterMap (fun i => L[i]?) = L := by
      have key : ∀ n, n ≤ L.length → (List.range n).filterMap (fun i => L[i]?) = L.take n := by
        intro n
        induction n with
        | zero => exact fun _ => rfl
        | succ n ih =>
          intro hn
          rw [List.range_succ, List.filterMap_append, ih (by omega), List.take_succ, List.getElem?_eq_getElem (show n < L.length by omega)]
          rw [List.filterMap_cons_some (List.getElem?_eq_getElem (show n < L.length by omega))]; rfl
      rw [key L.length (Nat.le_refl _), List.take_length]
    rw [this]
  · have hz := size_of_rows hr
    have : ∀ l : List Nat, (∀ i ∈ l, i < L.length) → ((l.filterMap fun i => L[i]?).map fun p => HK.hash p.2) = l.map fun i => (es.map (·.1)).getD i 0 := by
      intro l
      induction l with
      | nil => exact fun _ => rfl
      | cons i l ih =>
        intro hl
        have hi := hl i List.mem_cons_self
        have e5 : (es.map (·.1))[i]? = some (HK.hash (L[i]).2) := by rw [Array.getElem?_map, entry_of_rows hr (List.getElem?_eq_getElem hi)]; rfl
        rw [List.filterMap_cons_some (List.getElem?_eq_getElem hi), List.map_cons, List.map_cons, ih fun j hj => hl j (List.mem_cons_of_mem _ hj), Array.getD_eq_getD_getElem?, e5]; rfl
    exact this _ fun i hi => List.mem_range.mp (hp.mem_iff.mp hi)
theorem grow_at {o : Obj} (ho : s.heap.get? a = some o) (hex : o.ExactSet) (hd : o.data = .set es ep t) (hr : es.toList = rowsK HK L) (hz : t.place.size = es.size) (hdm : t.dummies = #[]) (hm : es.size ≤ t.mask)
    (nd : (L.map (·.2)).Nodup) (pl : t.plain = true) (ld : w.params.followText "set-order" = true ∨ t.led = true) (few : L.length < 64) {wanted M : Nat}
    (hw : SetTable.sizeAbove wanted - 1 = M) (hM : MaskOk M) (hw2 : SetTable.sizeAbove wanted ≤ 128) (hn : L.length * 5 < M * 3) {Q : Unit → Shared → Prop}
    (hQ : ∀ h' L' es' ep' t', Heap.SameBut a s.heap h' → SetQ HK h' a L' es' ep' t' → L'.Perm L → Q () { s with heap := h' }) : wpAny (model P w) A (setRelay a wanted) Q E s := by
  have sz := size_of_rows hr
  obtain ⟨t', order, e, g1, g2, g3, g4, g5, g6⟩ := relaid_ok t (hs := es.map (·.1)) (wanted := wanted) hw hM (by rw [Array.size_map]; omega)
  rw [Array.size_map, sz] at g1
  obtain ⟨L2, r1, r2, r3⟩ := reorder hr g1
  rw [← r3] at g2
  have sz2 : (order.filterMap (es[·]?)).size = es.size := by rw [size_of_rows r1, r2.length_eq, sz]
  rw [setRelay_eq]
  refine wpAny_bind (wpAny_setState_of ho hd (fits_of hz hdm hm) ?_)
  dsimp only
  rw [if_neg (by rw [sizeLine_eq]; omega)]
  try refine wpAny_bind (wpAny_pure ?_)
  rw [e]
  dsimp only
  refine wpAny_bind ?_
  rw [if_neg (by rw [sz2]; simp)]
  try refine wpAny_bind (wpAny_pure ?_)
  refine wpAny_pure ?_
  dsimp only
  refine wpAny_storeSet_of ho hd ?_ (by rw [sz2, sz, sizeLine_eq]; omega)
  refine hQ _ L2 (order.filterMap (es[·]?)) (ep + 1) t' (Heap.SameBut.update ..) ⟨⟨_, store_at ho hd, ⟨hex.1, hex.2.1, hex.2.2⟩, rfl⟩, r1, g2, (r2.map (·.2)).nodup_iff.mpr nd, by rw [g5]; exact pl, by rw [g4]; exact ld, by rw [r2.length_eq, g3]; exact hn, by rw [r2.length_eq]; exact few⟩ r2
theorem add_key (z : Easy HK) (R : SetQ HK s.heap a L es ep t) (hL : Lie HK s.heap L) {x : Addr} {k : K} (hx : HK.is s.heap k x) (hu : A.units < cLine) (hfew : L.length + 1 < 64) {Q : Bool → Shared → Prop}
    (hQ : ∀ b h' L' es' ep' t', Heap.SameBut a s.heap h' → SetQ HK h' a L' es' ep' t' → (k ∈ L.map (·.2) → L' = L) → (k ∉ L.map (·.2) → L'.Perm ((x, k) :: L)) → Q b { s with heap := h' }) :
    wpAny (model P w) A (setAddHashed a (.ref x) (HK.hash k)) Q E s := by
  obtain ⟨o, ho, hex, hd⟩ := R.ob
  have sz := size_of_rows R.rows
  have hroom := R.room
  unfold setAddHashed
  refine wpAny_holding ?_
  rw [show (100000 : Nat) = 99999 + 1 from rfl, setAddHashedIn_succ]
  refine wpAny_bind (wpAny_setState_of ho hd R.fits ?_)
  dsimp only
  rw [if_neg (not_scan x es)]
  try refine wpAny_bind (wpAny_pure ?_)
  refine wpAny_bind (look z R hL hx hu true (fun hm r hr => ?_) fun K0 hm hK hb => ?_)
  · dsimp only
    exact wpAny_pure (hQ false s.heap L es ep t (Heap.SameBut.refl a s.heap) R (fun _ => rfl) fun n => absurd hm n)
  · dsimp only
    refine wpAny_bind (wpAny_setState_of ho hd R.fits ?_)
    dsimp only
    obtain ⟨q1, q2, q3, q4, q5, q6, q7, q8, q9⟩ := R.tab.put hK hb
    have hp1 : (t.put (way t.mask (HK.hash k) K0)).1.plain = true := by rw [q6]; exact R.plain
    generalize hpt : t.put (way t.mask (HK.hash k) K0) = pt at q1 q3 q4 q5 q9 hp1 ⊢
    obtain ⟨t1, p⟩ := pt
    dsimp only at q1 q3 q4 q5 q9 hp1 ⊢
    subst q1
    rw [if_pos hp1]
    refine wpAny_bind (z.val hx ?_)
    simp only [if_true]
    have hin : (SetTable.insertAt es (SetTable.below t.place (way t.mask (HK.hash k) K0)) (HK.hash k, Value.ref x)).toList = rowsK HK (L.take (SetTable.below t.place (way t.mask (HK.hash k) K0)) ++ (x, k) :: L.drop (SetTable.below t.place (way t.mask (HK.hash k) K0))) := by
      rw [SetTable.toList_insertAt, rowsK_put, R.rows]
    generalize SetTable.below t.place (way t.mask (HK.hash k) K0) = p at q2 q3 hin ⊢
    have pm : (L.take p ++ (x, k) :: L.drop p).Perm ((x, k) :: L) := by
      have h : (L.take p ++ (x, k) :: L.drop p).Perm ((x, k) :: (L.take p ++ L.drop p)) := List.perm_middle
      rwa [List.take_append_drop] at h
    have hhs : (L.take p ++ (x, k) :: L.drop p).map (fun p => HK.hash p.2) = (L.map fun p => HK.hash p.2).take p ++ HK.hash k :: (L.map fun p => HK.hash p.2).drop p := by
      rw [List.map_append, List.map_cons, List.map_take, List.map_drop]
    rw [← hhs] at q3
    have hes := size_of_rows hin
    generalize SetTable.insertAt es p (HK.hash k, Value.ref x) = es1 at hin hes ⊢
    generalize L.take p ++ (x, k) :: L.drop p = L1 at pm q3 hin hes
    have hlen : L1.length = L.length + 1 := pm.length_eq
    rw [hlen] at hes
    have nd1 : (L1.map (·.2)).Nodup := (pm.map (·.2)).nodup_iff.mpr (by rw [List.map_cons]; exact List.nodup_cons.mpr ⟨hm, R.nd⟩)
    refine wpAny_bind (wpAny_storeSet_of ho hd ?_ (by rw [hes, sizeLine_eq]; omega))
    have sb : Heap.SameBut a s.heap (s.heap.update a (Obj.putSet es1 t1)) := Heap.SameBut.update ..
    have ho1 := store_at (es' := es1) (t' := t1) ho hd
    generalize s.heap.update a (Obj.putSet es1 t1) = h1 at sb ho1 ⊢
    have ld1 : w.params.followText "set-order" = true ∨ t1.led = true := by rw [q5]; exact R.led
    have hsz1 : t1.place.size = L1.length := by have := q3.sz; rwa [List.length_map] at this
    have full : t1.tooFull = decide ((L.length + 1) * 5 ≥ t.mask * 3) := by
      unfold SetTable.tooFull
      rw [q9, List.length_map, q4]
    by_cases hf : t1.tooFull = true
    · have hfull : (L.length + 1) * 5 ≥ t.mask * 3 := by rw [full] at hf; exact of_decide_eq_true hf
      have cs : L.length = 4 ∨ L.length = 18 := by
        rcases R.tab.mok with e | e | e <;> rw [e] at hfull hroom <;> omega
      have go : ∀ M, SetTable.sizeAbove (SetTable.grown (L.length + 1)) - 1 = M → MaskOk M → SetTable.sizeAbove (SetTable.grown (L.length + 1)) ≤ 128 → (L.length + 1) * 5 < M * 3 → ∀ Q2 : Unit → Shared → Prop, (∀ h', (∃ L' es' ep' t', Heap.SameBut a h1 h' ∧ SetQ HK h' a L' es' ep' t' ∧ L'.Perm L1) → Q2 () { s with heap := h' }) →
          wpAny (model P w) A (setRelay a (SetTable.grown (L.length + 1))) Q2 E { s with heap := h1 } := fun M g1 g2 g3 g4 Q2 hq =>
        grow_at (s := { s with heap := h1 }) ho1 ⟨hex.1, hex.2.1, hex.2.2⟩ rfl hin (by rw [hsz1, hlen, hes]) q3.dm (by rw [hes, q4]; omega) nd1 hp1 ld1 (by rw [hlen]; exact hfew) g1 g2 g3 (by rw [hlen]; exact g4) fun h' L' es' ep' t' sb2 R2 pm2 => hq h' ⟨L', es', ep', t', sb2, R2, pm2⟩
      have go2 : ∀ Q2 : Unit → Shared → Prop, (∀ h', (∃ L' es' ep' t', Heap.SameBut a h1 h' ∧ SetQ HK h' a L' es' ep' t' ∧ L'.Perm L1) → Q2 () { s with heap := h' }) → wpAny (model P w) A (setRelay a (SetTable.grown (L.length + 1))) Q2 E { s with heap := h1 } := by
        rcases cs with e | e
        · exact go 31 (by rw [e, size_20]) (.inr (.inl rfl)) (by rw [e, size_20]; decide) (by omega)
        · exact go 127 (by rw [e, size_76]) (.inr (.inr rfl)) (by rw [e, size_76]; decide) (by omega)
      have fin : ∀ h', (∃ L' es' ep' t', Heap.SameBut a h1 h' ∧ SetQ HK h' a L' es' ep' t' ∧ L'.Perm L1) → Q true { s with heap := h' } := fun h' ⟨L', es', ep', t', sb2, R2, pm2⟩ => hQ true h' L' es' ep' t' (sb.trans sb2) R2 (fun n => absurd n hm) fun _ => pm2.trans pm
      rw [sz]
      first
        | (rw [if_pos (by simp [hf])]; exact wpAny_bind (go2 _ fun h' hh => wpAny_pure (fin h' hh)))
        | (refine wpAny_bind ?_; rw [if_pos (by simp [hf])]; exact go2 _ fun h' hh => wpAny_pure (fin h' hh))
    · have hr : L1.length * 5 < t1.mask * 3 := by
        rw [full] at hf
        have := of_decide_eq_false (Bool.eq_false_iff.mpr hf)
        rw [hlen, q4]; omega
      have fin : Q true { s with heap := h1 } := hQ true h1 L1 es1 (ep + 1) t1 sb ⟨⟨_, ho1, ⟨hex.1, hex.2.1, hex.2.2⟩, rfl⟩, hin, q3, nd1, hp1, ld1, hr, by rw [hlen]; exact hfew⟩ (fun n => absurd n hm) fun _ => pm
      rw [sz]
      first
        | (rw [if_neg (by simp [hf])]; exact wpAny_pure fin)
        | (refine wpAny_bind ?_; rw [if_neg (by simp [hf])]; exact wpAny_pure (wpAny_pure fin))
end
end OS
set_option maxRecDepth 100000
set_option maxHeartbeats 4000000
namespace OS
set_option autoImplicit false
open PySem PySem.Spec PyProof.Rows L2
abbrev up (k : Option Int) : Option Key := k.map Sum.inl
theorem up_inj {a b : Option Int} (h : up a = up b) : a = b := by
  cases a with
  | none => cases b with
    | none => rfl
    | some j => cases h
  | some i => cases b with
    | none => cases h
    | some j =>
      have : (Sum.inl i : Key) = Sum.inl j := Option.some.inj h
      injection this with e
      rw [e]
def oKind (P : Program) (w : World) : KeyKind P w (Option Int) where
  is := fun k v => (noneKind P w).is (up k) v
  hash := fun k => (noneKind P w).hash (up k)
  inj := fun v a b ha hb => up_inj ((noneKind P w).inj v _ _ ha hb)
  byValue := fun k v h => (noneKind P w).byValue _ v h
  pyHash := fun hv h => (noneKind P w).pyHash hv h
  eqBool := fun {A E s a b u v Q} hu hv h => (noneKind P w).eqBool hu hv (by
    have : decide (up a = up b) = decide (a = b) := by
      by_cases c : a = b
      · rw [c, decide_eq_true rfl, decide_eq_true rfl]
      · rw [decide_eq_false c, decide_eq_false fun e => c (up_inj e)]
    rw [this]; exact h)
  «strs» := fun k x t v h => (noneKind P w).«strs» _ x t v h
abbrev OK (P : Program) (w : World) : HeapKind P w (List (Option Int)) := tupleKind (oKind P w)
theorem ok_item {P : Program} {w : World} {k : Option Int} {v : Value} (h : (oKind P w).is k v = true) : v = .none ∨ ∃ i t, v = Value.int i t := by
  cases k with
  | none => exact .inl (nk_none h)
  | some i =>
    rcases keyIs_shape (k := .inl i) h with ⟨j, t, _, e⟩ | ⟨x, t, e, _⟩
    · exact .inr ⟨j, t, e⟩
    · cases e
theorem ok_items {P : Program} {w : World} {k : List (Option Int)} {vs : List Value} (h : ItemsAre (oKind P w) k vs) : ∀ v ∈ vs, v = .none ∨ ∃ i t, v = Value.int i t := by
  induction h with
  | nil => exact fun v hv => absurd hv (by simp)
  | cons h1 _ ih =>
    intro v hv
    rcases List.mem_cons.mp hv with rfl | hv
    · exact ok_item h1
    · exact ih v hv
section
variable {P : Program} {w : World} {A : Around} {E : Value → Shared → Prop} {s : Shared}
theorem cls_item (n : Nat) {v : Value} (h : v = .none ∨ ∃ i t, v = Value.int i t) : ofAClassStatement n v = pure false := by
  rcases h with rfl | ⟨i, t, rfl⟩ <;> cases n <;> rfl
theorem val_item (n : Nat) {v : Value} (h : v = .none ∨ ∃ i t, v = Value.int i t) : hashByValue n v = pure true := by
  rcases h with rfl | ⟨i, t, rfl⟩ <;> cases n <;> rfl
theorem easy_ok : Easy (OK P w) where
  rm := fun h => h
  cls := fun {A E s k b Q} hk h => by
    have ht := hk.typeIs
    obtain ⟨o, items, n, ho, _, hd, hi⟩ := hk
    unfold ofAClassStatement
    refine wpAny_bind (wpAny_typeOf ht ?_)
    dsimp only
    simp only [show (("tuple" : String) == "tuple") = true by decide, if_true, Bool.not_true, Bool.false_eq_true, if_false]
    try refine wpAny_bind (wpAny_pure ?_)
    try simp only [Bool.not_true, Bool.false_eq_true, if_false]
    show wpAny _ _ (seqItems? (.ref b) >>= _) _ _ s
    refine wpAny_bind (wpAny_seqItems ho hd ?_)
    dsimp only
    refine wpAny_bind ?_
    show wpAny _ _ (forIn items _ _) _ _ s
    rw [← Array.forIn_toList]
    refine wpAny_forIn_list _ (fun rest r s' => r.1 = none ∧ s' = s ∧ ∀ v ∈ rest, v = Value.none ∨ ∃ i t, v = Value.int i t) _ ?_ ?_ _ _ ⟨rfl, rfl, ok_items hi⟩
    · rintro v rest r s' ⟨hr, rfl, all⟩
      rw [cls_item _ (all v List.mem_cons_self)]
      refine wpAny_bind (wpAny_pure ?_)
      simp only [Bool.false_eq_true, if_false]
      exact wpAny_pure ⟨rfl, rfl, fun u hu => all u (List.mem_cons_of_mem _ hu)⟩
    · rintro ⟨r1, r2⟩ s' ⟨hr, rfl, _⟩
      simp only at hr
      subst hr
      exact wpAny_pure h
  val := fun {A E s k b Q} hk h => by
    have ht := hk.typeIs
    obtain ⟨o, items, n, ho, _, hd, hi⟩ := hk
    unfold hashByValue
    refine wpAny_bind (wpAny_specialOf ht F.slot_tuple_hash.lookup ?_)
    show wpAny _ _ (seqItems? (.ref b) >>= _) _ _ s
    refine wpAny_bind (wpAny_seqItems ho hd ?_)
    refine wpAny_bind ?_
    show wpAny _ _ (forIn items _ _) _ _ s
    rw [← Array.forIn_toList]
    refine wpAny_forIn_list _ (fun rest r s' => r.1 = none ∧ s' = s ∧ ∀ v ∈ rest, v = Value.none ∨ ∃ i t, v = Value.int i t) _ ?_ ?_ _ _ ⟨rfl, rfl, ok_items hi⟩
    · rintro v rest r s' ⟨hr, rfl, all⟩
      rw [val_item _ (all v List.mem_cons_self)]
      refine wpAny_bind (wpAny_pure ?_)
      simp only [Bool.not_true, Bool.false_eq_true, if_false]
      exact wpAny_pure ⟨rfl, rfl, fun u hu => all u (List.mem_cons_of_mem _ hu)⟩
    · rintro ⟨r1, r2⟩ s' ⟨hr, rfl, _⟩
      simp only at hr
      subst hr
      exact wpAny_pure h
variable {K : Type} [DecidableEq K] {HK : HeapKind P w K} {a : Addr} {L : List (Addr × K)} {es : Array (Int × Value)} {ep : Nat} {t : SetTable}
theorem SetQ.typeIs (R : SetQ HK s.heap a L es ep t) : s.TypeIs (.ref a) "set" := let ⟨o, ho, hc, _⟩ := R.ob; ⟨o, ho, hc.1⟩
theorem SetQ.noDict (R : SetQ HK s.heap a L es ep t) : ∀ b, Value.ref a = .ref b → ∃ ob, s.heap.get? b = some ob ∧ ob.dict = none := fun b e => by
  injection e with e
  subst e
  obtain ⟨o, ho, hc, _⟩ := R.ob
  exact ⟨o, ho, hc.2.1⟩
theorem in_setQ (z : Easy HK) (R : SetQ HK s.heap a L es ep t) (hL : Lie HK s.heap L) {x : Addr} {k : K} (hx : HK.is s.heap k x) (hu : A.units + 1 < cLine) {Q : Value → Shared → Prop}
    (h : ∀ c : Bool, (c = true ↔ k ∈ L.map (·.2)) → Q (.bool c) { s with toks := s.toks + HK.draws k }) : wpAny (model P w) A (compareOp .In (.ref x) (.ref a)) Q E s := by
  show wpAny _ _ (do return .bool (← contains (.ref a) (.ref x))) Q E s
  refine wpAny_bind ?_
  unfold contains
  try with_reducible refine wpAny_holding ?_
  refine wpAny_bind (wpAny_specialOf R.typeIs F.slot_set_contains.lookup ?_)
  show wpAny _ _ (if (some (Value.builtin "set.__contains__") == some Value.none) = true then _ else _) _ E s
  rw [if_neg (by rw [beq_builtin_none]; exact Bool.false_ne_true)]
  refine wpAny_bind (wpAny_callSpecialUnlessNone?_slot (name := Str.ofString "__contains__") R.typeIs F.slot_set_contains
    (wpAny_call_entry F.slot_set_contains R.typeIs entry_set_contains ?_ (F.args_set_contains_2 _ _)))
  unfold Builtin.«frozenset.__contains__» Builtin.Frozenset.oneOther
  simp only [List.isEmpty_nil, bind_assoc]
  unfold Builtin.Frozenset.addrOf Builtin.Frozenset.withSetAsKey setContains
  refine wpAny_bind (wpAny_pure ?_)
  try dsimp only
  refine wpAny_bind (wpAny_pure ?_)
  try dsimp only
  refine wpAny_bind (wpAny_tryCatch ?_)
  refine wpAny_holding ?_
  refine wpAny_bind (HK.pyHash (z.rm (by first | exact hu | simpa using hu)) hx ?_)
  refine wpAny_bind (found_at z (s := { s with toks := s.toks + HK.draws k }) R hL hx (by first | exact hu | simpa using hu) fun r hr => ?_)
  refine wpAny_pure ?_
  show wpAny _ _ (ret (Value.bool r.isSome)) _ _ _
  rw [hr]
  exact wpAny_pure ⟨_, rfl, wpAny_truthy_bool (wpAny_pure (h _ decide_eq_true_iff))⟩
theorem add_setQ (z : Easy HK) (R : SetQ HK s.heap a L es ep t) (hL : Lie HK s.heap L) {x : Addr} {k : K} (hx : HK.is s.heap k x) (hu : A.units + 1 < cLine) (hfew : L.length + 1 < 64) {Q : Value → Shared → Prop}
    (h : ∀ h' L' es' ep' t', Heap.SameBut a s.heap h' → SetQ HK h' a L' es' ep' t' → (k ∈ L.map (·.2) → L' = L) → (k ∉ L.map (·.2) → L'.Perm ((x, k) :: L)) → Q .none { s with heap := h', toks := s.toks + HK.draws k }) :
    wpAny (model P w) A (call (.builtin "set.add") [.ref a, .ref x]) Q E s := by
  refine wpAny_call_entry F.slot_set_add R.typeIs F.entry_set_add ?_ (F.args_set_add_2 _ _)
  unfold Builtin.«set.add» Builtin.Frozenset.oneOther
  simp only [List.isEmpty_nil, bind_assoc]
  unfold Builtin.Frozenset.addrOf setAdd
  refine wpAny_bind (wpAny_pure ?_)
  try dsimp only
  refine wpAny_bind (wpAny_pure ?_)
  try dsimp only
  refine wpAny_bind ?_
  refine wpAny_holding ?_
  refine wpAny_bind (HK.pyHash (z.rm (by first | exact hu | simpa using hu)) hx ?_)
  refine add_key z (s := { s with toks := s.toks + HK.draws k }) R hL hx (by first | exact hu | simpa using hu) hfew fun b h' L' es' ep' t' sb R' g1 g2 => ?_
  show wpAny _ _ (ret Value.none) _ _ _
  exact wpAny_pure ⟨_, rfl, h h' L' es' ep' t' sb R' g1 g2⟩
end
structure SetN (P : Program) (w : World) (h : Heap) (a : Addr) (L : List (Addr × List (Option Int))) : Prop where
  ex : ∃ (es : Array (Int × Value)) (ep : Nat) (t : SetTable), SetQ (OK P w) h a L es ep t
def SetNO (P : Program) (w : World) (a : Addr) (L : List (Addr × List (Option Int))) : HO := .ext fun h => SetN P w h a L
theorem SetN.at {P : Program} {w : World} {h h' : Heap} {a : Addr} {L : List (Addr × List (Option Int))} (R : SetN P w h a L) (k : ∀ o, h.get? a = some o → h'.get? a = some o) : SetN P w h' a L := by
  obtain ⟨es, ep, t, q⟩ := R.ex
  obtain ⟨o, ho, r⟩ := q.ob
  exact ⟨es, ep, t, ⟨o, k o ho, r⟩, q.rows, q.tab, q.nd, q.plain, q.led, q.room, q.few⟩
theorem setN_new {P : Program} {w : World} {H : Hp} {h : Heap} {a : Addr} {L : List (Addr × List (Option Int))} (R : SetN P w h a L) : ObjOk P w H h a (SetNO P w a L) := by
  obtain ⟨es, ep, t, q⟩ := R.ex
  obtain ⟨o, ho, r⟩ := q.ob
  exact ⟨R, ⟨o, ho⟩, fun h1 h2 p k => SetN.at p k⟩
def oV : Option Int → V
  | none => .non
  | some i => .int i
theorem items_ok {P : Program} {w : World} : ∀ {k : List (Option Int)} {us : List Value}, Vals (k.map oV) us → ItemsAre (oKind P w) k us
  | [], _, .nil => .nil
  | n :: k, _, .cons r t => by
    refine .cons ?_ (items_ok t)
    cases n with
    | none =>
      have r : _ = Value.none := r
      rw [r]; rfl
    | some i => exact kV_is (P := P) (w := w) (k := .inl i) r
section
variable {X : Cx} {pins : List (Addr × Obj)} {σ : L2.St} {H : Hp} {s : Shared}
theorem isK (I : Inv X pins σ H s) {b : Addr} {k : List (Option Int)} (h : SqT X.K H b (k.map oV)) : (OK X.prog X.w).is s.heap k b := by
  obtain ⟨its, r, ⟨o, ho, hc, n, hd⟩, _⟩ := I.tuple h
  exact ⟨o, its.toArray, n, ho, hc, hd, by simpa using items_ok r⟩
theorem setN_get (I : Inv X pins σ H s) {a : Addr} {L : List (Addr × List (Option Int))} (ha : H a = some (SetNO X.prog X.w a L)) : SetN X.prog X.w s.heap a L := (I.hok a _ ha).1
def KeysT (K : PySem.W.Frag) (H : Hp) (L : List (Addr × List (Option Int))) : Prop := ∀ p ∈ L, SqT K H p.1 (p.2.map oV)
def rSet0N (P : Program) (w : World) : List V → Hp → VK → Prop := fun xs H Q => xs = [] ∧ ∀ p, H p = none → Q (.ref p) (upd H p (SetNO P w p []))
theorem cr_set0N : CallR X (.type "set") (rSet0N X.prog X.w) := by
  intro pins s σ H xs us Q I r h
  obtain ⟨rfl, q⟩ := h
  cases r
  refine setR_new fun _ => ?_
  have new : SetN X.prog X.w (s.heap.push { cls := .type "set", dict := none, data := .set #[] 0 (.fresh 0 0 (!X.w.params.followText "set-order")) }) s.heap.objs.size [] := by
    refine ⟨#[], 0, _, ⟨_, Heap.get?_push_size _ rfl, ⟨rfl, rfl, rfl⟩, rfl⟩, rfl, ⟨List.Pairwise.nil, rfl, rfl, .inl rfl, (fun x hx => by cases hx), fun i h j hi => by simp at hi⟩, List.nodup_nil, rfl, ?_, ?_, ?_⟩
    · show _ ∨ (!X.w.params.followText "set-order") = true
      cases X.w.params.followText "set-order"
      · exact .inr rfl
      · exact .inl rfl
    · show 0 * 5 < 7 * 3; decide
    · show 0 < 64; decide
  exact ⟨.ref _, upd H s.heap.objs.size (SetNO X.prog X.w s.heap.objs.size []), I.laid (t' := s.toks) (fun b u e => Heap.get?_push_of_some _ e) (Nat.le_refl _) (setN_new new), rfl, q _ (I.hok.fresh (Nat.le_refl _))⟩
def rSAddN (K : PySem.W.Frag) (P : Program) (w : World) : V → List V → Hp → VK → Prop := fun x xs H Q => ∃ (a b : Addr) (k : List (Option Int)) (L : List (Addr × List (Option Int))), x = V.ref a ∧ xs = [V.ref b] ∧ SqT K H b (k.map oV) ∧ H a = some (SetNO P w a L) ∧ KeysT K H L ∧ L.length + 1 < 64 ∧
  ∀ L', (k ∈ L.map (·.2) → L' = L) → (k ∉ L.map (·.2) → L'.Perm ((b, k) :: L)) → Q .non (upd H a (SetNO P w a L'))
theorem mt_saddN (hu : X.A.units + 1 < cLine) : MtR X "set.add" (rSAddN X.K X.prog X.w) := by
  intro pins s σ H x xs v us Q I rx rxs h
  obtain ⟨a, b, k, L, rfl, rfl, hb, ha, hk, room, q⟩ := h
  cases rx
  cases rxs with
  | cons ry rt =>
    cases rt
    cases ry
    obtain ⟨es, ep, t, R⟩ := (setN_get I ha).ex
    refine add_setQ easy_ok R (fun p hp => isK I (hk p hp)) (isK I hb) hu room fun h' L' es' ep' t' sb R' g1 g2 => ?_
    have he : ∃ u, h'.get? a = some u := let ⟨o, ho, _⟩ := R'.ob; ⟨o, ho⟩
    exact ⟨.non, upd H a (SetNO X.prog X.w a L'), I.write (e := a) (by rw [ha]; trivial) (.inl rfl) (fun b u hb hu => (sb.2 b hb).trans hu) he (setN_new ⟨es', ep', t', R'⟩), rfl, q L' g1 g2⟩
def tSAddN (K : PySem.W.Frag) (P : Program) (w : World) (to : TE) (t : TA) : TE := fun σ H Q => to σ H fun x H1 => (∃ a L, x = V.ref a ∧ H1 a = some (SetNO P w a L)) ∧ t σ H1 fun xs H2 => rSAddN K P w x xs H2 Q
theorem pe_saddN {o e : Expr} {to : TE} {t : TA} {apos cpos : Pos} (hu : X.A.units + 1 < cLine) (ho : PE X o to) (ha : PA X [e] t)
    (hbase : attributeBase o "add" X.env (eval o X.env) = eval o X.env := by rfl)
    (hfew : ((backTo cpos (starEach [e] X.env)).all (fun x => !x.1) && (backToKw cpos (keywordEach [] X.env)).all (fun x => x.1.isSome)
      && decide ([e].length + ([] : List Keyword).length + (if ([] : List Keyword).isEmpty then 0 else 1) < 30)) = true := by rfl)
    (hline : (apos.endLine == cpos.line) = true := by rfl) (hs : starEach [e] X.env = (false, eval e X.env) :: starEach [] X.env := by rfl) (hplain : (backTo cpos (starEach [] X.env)).any (·.1) = false := by rfl) :
    PE X (.Call (.Attribute o "add" apos) [e] [] cpos) (tSAddN X.K X.prog X.w to t) := by
  refine ⟨fun pins s σ H Q I h => ?_⟩
  refine wpAny_Call_method_late hbase hfew hline rfl (thn (ho.run pins s σ H _ I h) fun v s1 ⟨x, H1, I1, r1, ty, q1⟩ => ?_)
  obtain ⟨a, L, rfl, hka⟩ := ty
  obtain ⟨es, ep, tb, R⟩ := (setN_get I1 hka).ex
  cases r1
  refine ⟨"set", "set.add", F.plainAttrs_set, F.slot_set_add, F.type_set_add, R.typeIs, R.noDict, ?_⟩
  have hA := ha.run cpos pins s1 σ H1 _ I1 q1
  rw [hs] at hA ⊢
  refine Calls.callWith_builtin (by show (false || (backTo cpos (starEach [] X.env)).any (·.1)) = false; rw [hplain] <;> rfl) (Calls.evalArgs_plain ?_)
  exact thn hA fun us s2 ⟨vs, H2, I2, r2, q2⟩ => mt_saddN hu pins s2 σ H2 (.ref a) vs (.ref a) us Q I2 rfl r2 q2
def rSInN (K : PySem.W.Frag) (P : Program) (w : World) : V → V → Hp → VK → Prop := fun x y H Q => ∃ (b a : Addr) (k : List (Option Int)) (L : List (Addr × List (Option Int))), x = V.ref b ∧ y = V.ref a ∧ SqT K H b (k.map oV) ∧ H a = some (SetNO P w a L) ∧ KeysT K H L ∧ ∀ c : Bool, (c = true ↔ k ∈ L.map (·.2)) → Q (.bl c) H
theorem or_sinN (hu : X.A.units + 1 < cLine) : OpR X (compareOp .In) (rSInN X.K X.prog X.w) := by
  intro pins s σ H x y v u Q I rx ry h
  obtain ⟨b, a, k, L, rfl, rfl, hb, ha, hk, q⟩ := h
  cases rx
  cases ry
  obtain ⟨es, ep, t, R⟩ := (setN_get I ha).ex
  exact in_setQ easy_ok R (fun p hp => isK I (hk p hp)) (isK I hb) hu fun c hc => ⟨.bl c, H, I.tok _, rfl, q c hc⟩
end
end OS
set_option maxRecDepth 100000
set_option maxHeartbeats 4000000
namespace VF
set_option autoImplicit false
open PySem PySem.Spec PyProof.Rows L2
open AT (cells cellsL er ers)
def NoExt (o : HO) : Prop := ∀ φ, o ≠ .ext φ
def SameX (F F' : Hp) : Prop := ∀ a o, F a = some o → NoExt o → F' a = some o
def wo (F : Hp) (S : Addr) : Hp := fun a => if a = S then none else F a
section
variable {K : PySem.W.Frag} {mg : Str → Option Value} {pv : List (Nat × V)} {F F' H H' : Hp} {σ : L2.St} {e e' : Env} {as as' : List (Option AT)} {held tr ts us : List AT} {E : XS}
theorem sqT_sameX (s : SameX F F') {p : Addr} {xs : List V} (h : SqT K F p xs) : SqT K F' p xs := by
  rcases h with (h | ⟨o, h⟩) | h
  · exact .inl (.inl (s _ _ h fun _ e => by cases e))
  · exact .inl (.inr ⟨o, s _ _ h fun _ e => by cases e⟩)
  · exact .inr h
theorem sqL_sameX (s : SameX F F') {p : Addr} {xs : List V} (h : SqL K F p xs) : SqL K F' p xs := by
  rcases h with (h | ⟨o, h⟩) | h
  · exact .inl (.inl (s _ _ h fun _ e => by cases e))
  · exact .inl (.inr ⟨o, s _ _ h fun _ e => by cases e⟩)
  · exact .inr h
mutual
theorem Rep.sameX (s : SameX F F') : ∀ {d : D} {v : V}, Rep K mg F v d → Rep K mg F' v d
  | .non, _, h => h
  | .bl _, _, h => h
  | .int _, _, h => h
  | .str _, _, h => h
  | .ty _, _, h => h
  | .lst ds, _, ⟨p, vs, e, h1, h2⟩ => ⟨p, vs, e, s _ _ h1 (fun _ e => by cases e), Reps.sameX s h2⟩
  | .tup ds, _, ⟨p, vs, e, h1, h2⟩ => ⟨p, vs, e, sqT_sameX s h1, Reps.sameX s h2⟩
  | .dct ks ds, _, ⟨p, vs, e, h1, h3, h2⟩ => ⟨p, vs, e, s _ _ h1 (fun _ e => by cases e), h3, Reps.sameX s h2⟩
  | .obj c ns ds, _, ⟨p, C, dx, vs, e, h0, h1, h3, h2⟩ => ⟨p, C, dx, vs, e, h0, s _ _ h1 (fun _ e => by cases e), h3, Reps.sameX s h2⟩
  | .scr ns, _, ⟨p, e, h1⟩ => ⟨p, e, sqL_sameX s h1⟩
  | .hl, _, h => h
theorem Reps.sameX (s : SameX F F') : ∀ {ds : List D} {vs : List V}, Reps K mg F vs ds → Reps K mg F' vs ds
  | [], [], _ => trivial
  | _ :: _, _ :: _, ⟨h1, h2⟩ => ⟨Rep.sameX s h1, Reps.sameX s h2⟩
  | [], _ :: _, h => h.elim
  | _ :: _, [], h => h.elim
end
mutual
theorem Ok.sameX (s : SameX F F') : ∀ {t : AT}, Ok K mg F t → Ok K mg F' t
  | .fz _ _, h => Rep.sameX s h
  | .ol _ xs, h => Oks.sameX (ts := xs) s h
  | .oo _ _ _ _ _ xs, ⟨h1, h2, h3⟩ => ⟨h1, h2, Oks.sameX (ts := xs) s h3⟩
  | .od _ _ xs, ⟨h1, h2⟩ => ⟨h1, Oks.sameX (ts := xs) s h2⟩
theorem Oks.sameX (s : SameX F F') : ∀ {ts : List AT}, Oks K mg F ts → Oks K mg F' ts
  | [], _ => trivial
  | _ :: _, ⟨h1, h2⟩ => ⟨Ok.sameX s h1, Oks.sameX s h2⟩
end
mutual
theorem cells_plain : ∀ (t : AT), ∀ c ∈ cells t, NoExt c.2
  | .fz _ _, c, h => absurd h (by simp [AT.cells])
  | .ol p xs, c, h => by
    rcases List.mem_cons.mp (show c ∈ (p, HO.lst (vals xs)) :: cellsL xs from h) with rfl | h
    · exact fun _ e => by cases e
    · exact cellsL_plain xs c h
  | .oo p C dx _ ns xs, c, h => by
    rcases List.mem_cons.mp (show c ∈ (p, HO.ins C dx (ns.zip (vals xs))) :: cellsL xs from h) with rfl | h
    · exact fun _ e => by cases e
    · exact cellsL_plain xs c h
  | .od p ks xs, c, h => by
    rcases List.mem_cons.mp (show c ∈ (p, HO.dK (ks.zip (vals xs))) :: cellsL xs from h) with rfl | h
    · exact fun _ e => by cases e
    · exact cellsL_plain xs c h
theorem cellsL_plain : ∀ (ts : List AT), ∀ c ∈ cellsL ts, NoExt c.2
  | [], c, h => absurd h (by simp [AT.cellsL])
  | t :: ts, c, h => by
    rcases List.mem_append.mp (show c ∈ cells t ++ cellsL ts from h) with h | h
    · exact cells_plain t c h
    · exact cellsL_plain ts c h
end
theorem wo_sameX {S : Addr} {φ : Heap → Prop} (hS : F S = some (.ext φ)) : SameX F (wo F S) := fun a o h n => by
  unfold wo
  rw [if_neg]
  · exact h
  · rintro rfl
    rw [hS] at h
    cases h
    exact n _ rfl
theorem Cf.wo {S : Addr} {φ : Heap → Prop} (c : Cf K mg pv F H σ e as held) (hS : F S = some (.ext φ)) : Cf K mg pv (VF.wo F S) H σ e as held :=
  ⟨fun a o h => by
    unfold VF.wo at h
    by_cases q : a = S
    · rw [if_pos q] at h; cases h
    · rw [if_neg q] at h; exact c.s _ _ h, c.r, ⟨fun x hx => ⟨(c.g.at_ x hx).1, by
      unfold VF.wo
      by_cases q : x.1 = S
      · rw [if_pos q]
      · rw [if_neg q]; exact (c.g.at_ x hx).2⟩, Oks.sameX (wo_sameX hS) c.g.ok, c.g.nd⟩⟩
theorem Cf.updX {S : Addr} {φ ψ : Heap → Prop} (c : Cf K mg pv F H σ e as held) (hS : H S = some (.ext φ)) (hF : F S = none) : Cf K mg pv F (upd H S (.ext ψ)) σ e as held :=
  ⟨same_own c.s hF, c.r, ⟨fun x hx => ⟨by
    have a := c.g.at_ x hx
    rw [upd_ne]
    · exact a.1
    · intro q
      rw [q, hS] at a
      exact cellsL_plain _ x hx _ (Option.some.inj a.1).symm, (c.g.at_ x hx).2⟩, c.g.ok, c.g.nd⟩⟩
theorem Cf.setClr {j : Nat} {v : V} (c : Cf K mg pv F H σ e as held) (hj : e.sl[j]? = some none) (hp : j ∉ e.pn) : Cf K mg pv F H (σ.set j (some v)) e as held := by
  refine ⟨c.s, ⟨c.r.sl, by rw [List.length_set]; exact c.r.len, fun i t h => ?_, fun p hp' => ?_⟩, c.g⟩
  · have : i ≠ j := by
      rintro rfl
      have := c.r.slot h
      rw [hj] at this
      cases this
    rw [List.getElem?_set_ne (Ne.symm this)]
    exact c.r.at_ i t h
  · obtain ⟨h1, h2⟩ := c.r.pin p hp'
    have : p.1 ≠ j := by
      rintro rfl
      exact hp h1
    exact ⟨h1, by rw [List.getElem?_set_ne (Ne.symm this)]; exact h2⟩
theorem wipe_at {σ : L2.St} {i : Nat} : ∀ {vs : List Nat}, i ∉ vs → (wipe σ vs)[i]? = σ[i]?
  | [], _ => rfl
  | v :: vs, h => by
    rw [List.mem_cons, not_or] at h
    show ((wipe σ vs).set v none)[i]? = _
    rw [List.getElem?_set_ne (Ne.symm h.1), wipe_at h.2]
theorem er_fzQ {t : AT} {d : D} (h : er t = .fz d) : ∃ v, t = .fz v d := by
  cases t with
  | fz v d' =>
    have h' : SV.fz d' = .fz d := h
    cases h'
    exact ⟨v, rfl⟩
  | ol _ _ => cases h
  | oo _ _ _ _ _ _ => cases h
  | od _ _ _ => cases h
def keyP : D → Option (Int × Option Int)
  | .tup [.int a, .int b] => some (a, some b)
  | .tup [.int a, .non] => some (a, none)
  | _ => none
def kL (k : Int × Option Int) : List (Option Int) := [some k.1, k.2]
theorem kL_inj {a b : Int × Option Int} (h : kL a = kL b) : a = b := by
  unfold kL at h
  injection h with h1 h2
  injection h2 with h2 _
  exact Prod.ext (Option.some.inj h1) h2
theorem keyP_rep {v : V} {d : D} {k : Int × Option Int} (q : keyP d = some k) (r : Rep K mg F v d) : ∃ p, v = .ref p ∧ SqT K F p ((kL k).map OS.oV) := by
  unfold keyP at q
  split at q
  · cases q
    obtain ⟨p, vs, e, h1, h2⟩ := r
    match vs, h2 with
    | [x, y], ⟨(hx : x = _), (hy : y = _), _⟩ => subst hx hy; exact ⟨p, e, h1⟩
  · cases q
    obtain ⟨p, vs, e, h1, h2⟩ := r
    match vs, h2 with
    | [x, y], ⟨(hx : x = _), (hy : y = _), _⟩ => subst hx hy; exact ⟨p, e, h1⟩
  · cases q
def seenG (jr jl : Nat) : Tg := gTp 2 (gCo (gN jr) (gCo (gN jl) gNo))
def loopS (jf jr jl : Nat) : List D → Nat → List (Int × Option Int) → Env → Option Env
  | [], _, _, e => some e
  | d :: ds, i, sn, e => match keyP d, seenG jr jl (.tup [.int i, d]) e with
    | some k, some e1 => if k.2 = none ∨ k ∈ sn then (match e1.sl[jf]? with
        | some (some (.ol xs)) => if xs.length < sizeLine then loopS jf jr jl ds (i + 1) (k :: sn) (e1.setS jf (.ol (xs ++ [.fz (.int i)]))) else none
        | _ => none) else loopS jf jr jl ds (i + 1) (k :: sn) e1
    | _, _ => none
def clrB (e : Env) (i : Nat) : Bool := match e.sl[i]? with
  | some none => true
  | _ => false
theorem clrB_iff {i : Nat} (h : clrB e i = true) : e.sl[i]? = some none := by
  unfold clrB at h
  split at h
  · assumption
  · cases h
def dSeen (jf js jr jl : Nat) (ma : M (List RV)) : M Fl := fun e => if clrB e js = true ∧ js ∉ e.pn ∧ js ≠ jr ∧ js ≠ jl ∧ jr ≠ jl then
  (ma e).bind fun rs e1 => match frzRs rs e1 with
  | some (ds, e2) => (match oneL ds with
    | some xs => if xs.length < 60 ∧ jr < e2.sl.length ∧ jl < e2.sl.length then (match loopS jf jr jl xs 0 [] e2 with
      | some e3 => .ok .nx e3
      | none => .st) else .st
    | none => .st)
  | none => .st
  else .st
abbrev tSeenT (K : PySem.W.Frag) (P : Program) (w : World) (js jl : Nat) : TT := tOr (tTest (tOp (fun x y H Q => y = .non ∧ Q (.bl (decide (x = .non))) H) (tOp (rIx K) (tVar jl) (tC (.int 1))) (tC .non))) (tTest (tOp (OS.rSInN K P w) (tVar jl) (tVar js)))
abbrev tSeenB (K : PySem.W.Frag) (P : Program) (w : World) (jf js jr jl : Nat) : TS := tSeq (tIfS (tSeenT K P w js jl) (tDrop (tBM K "list" rAppend (tVar jf) (tCons (tVar jr) tNil))) tNext) (tDrop (OS.tSAddN K P w (tVar js) (tCons (tVar jl) tNil)))
structure Turn (K : PySem.W.Frag) (mg : Str → Option Value) (P : Program) (w : World) (pv : List (Nat × V)) (F0 F H : Hp) (σ : L2.St) (e : Env) (as : List (Option AT)) (held : List AT) (S : Addr) (js jr jl : Nat) (i : Nat) (L : List (Addr × List (Option Int))) (sn : List (Int × Option Int)) : Prop where
  s : Same F0 F
  c : Cf K mg pv F H σ e as held
  f : F S = none
  h : H S = some (OS.SetNO P w S L)
  v : σ[js]? = some (some (.ref S))
  k : OS.KeysT K F L
  m : ∀ k, k ∈ L.map (·.2) ↔ k ∈ sn.map kL
  l : L.length ≤ i
  r1 : jr < e.sl.length
  r2 : jl < e.sl.length
theorem keys_same (s : Same F F') {L : List (Addr × List (Option Int))} (h : OS.KeysT K F L) : OS.KeysT K F' L := fun p hp => SqT_same s (h p hp)
theorem turn_body {P : Program} {w : World} {F0 : Hp} {S : Addr} {jf js jr jl i : Nat} {L : List (Addr × List (Option Int))} {sn : List (Int × Option Int)} {d : D} {k : Int × Option Int} {D' : Ends} (hi : i < 60)
    (T : Turn K mg P w pv F0 F H σ e as held S js jr jl i L sn) (hk : keyP d = some k) (er1 : e.sl[jr]? = some (some (.fz (.int (i : Nat))))) (el1 : e.sl[jl]? = some (some (.fz d)))
    (hin : ∀ xs, (k.2 = none ∨ k ∈ sn) → e.sl[jf]? = some (some (.ol xs)) → xs.length < sizeLine → ∀ H1 as1 L1, Turn K mg P w pv F0 F H1 σ (e.setS jf (.ol (xs ++ [.fz (.int (i : Nat))]))) as1 held S js jr jl (i + 1) L1 (k :: sn) → D'.nx σ H1)
    (hok : (k.2 = none ∨ k ∈ sn) → ∃ xs, e.sl[jf]? = some (some (.ol xs)) ∧ xs.length < sizeLine)
    (hout : ¬ (k.2 = none ∨ k ∈ sn) → ∀ H1 L1, Turn K mg P w pv F0 F H1 σ e as held S js jr jl (i + 1) L1 (k :: sn) → D'.nx σ H1) :
    tSeenB K P w jf js jr jl D' σ H := by
  obtain ⟨tl, hl, etl⟩ := T.c.r.slotOf el1
  obtain ⟨vl, rfl⟩ := er_fzQ etl
  have hvl := T.c.r.at_ jl _ hl
  have okl : Rep K mg F vl d := Oks.mem.mp T.c.g.ok (.fz vl d) (List.mem_append_left _ (mem_opts hl))
  obtain ⟨pl, rfl, hsq⟩ := keyP_rep hk okl
  have hsH : SqT K H pl ((kL k).map OS.oV) := SqT_same T.c.s hsq
  have add : ∀ {H1 : Hp} {e1 : Env} {as1 : List (Option AT)}, Cf K mg pv F H1 σ e1 as1 held → H1 S = some (OS.SetNO P w S L) → jr < e1.sl.length → jl < e1.sl.length → (∀ H2 L1, Turn K mg P w pv F0 F H2 σ e1 as1 held S js jr jl (i + 1) L1 (k :: sn) → D'.nx σ H2) → tDrop (OS.tSAddN K P w (tVar js) (tCons (tVar jl) tNil)) D' σ H1 := by
    intro H1 e1 as1 c1 hS g1 g2 kk
    refine ⟨_, T.v, ⟨S, L, rfl, hS⟩, _, hvl, S, pl, kL k, L, rfl, rfl, SqT_same c1.s hsq, hS, keys_same c1.s T.k, by have := T.l; omega, fun L' a b => kk _ L' ?_⟩
    have c2 := c1.updX (ψ := fun h => OS.SetN P w h S L') hS T.f
    by_cases hm : kL k ∈ L.map (·.2)
    · have e := a hm
      subst e
      refine ⟨T.s, c2, T.f, upd_same, T.v, T.k, fun q => ?_, by have := T.l; omega, g1, g2⟩
      rw [T.m q, List.map_cons, List.mem_cons]
      refine ⟨fun h => .inr h, fun h => ?_⟩
      rcases h with rfl | h
      · exact (T.m _).mp hm
      · exact h
    · have pm := b hm
      refine ⟨T.s, c2, T.f, upd_same, T.v, fun p hp => ?_, fun q => ?_, by have := T.l; rw [pm.length_eq, List.length_cons]; omega, g1, g2⟩
      · rcases List.mem_cons.mp (pm.mem_iff.mp hp) with rfl | hp
        · exact hsq
        · exact T.k p hp
      · rw [(pm.map (·.2)).mem_iff, List.map_cons, List.mem_cons, List.map_cons, List.mem_cons, T.m q]
  have fnd : (k.2 = none ∨ k ∈ sn) → tDrop (tBM K "list" rAppend (tVar jf) (tCons (tVar jr) tNil)) { D' with nx := tDrop (OS.tSAddN K P w (tVar js) (tCons (tVar jl) tNil)) D' } σ H := by
    intro hc
    obtain ⟨xs, z, hz⟩ := hok hc
    obtain ⟨pf, ysf, h0, ey, hv, hp⟩ := T.c.ownL z
    obtain ⟨tr1, hr, etr⟩ := T.c.r.slotOf er1
    obtain ⟨vr, rfl⟩ := er_fzQ etr
    have hvr := T.c.r.at_ jr _ hr
    have okr : Rep K mg F vr (.int (i : Nat)) := Oks.mem.mp T.c.g.ok (.fz vr _) (List.mem_append_left _ (mem_opts hr))
    have er' : vr = .int (i : Nat) := okr
    subst er'
    have ly : (vals ysf).length = xs.length := by rw [← ey, ers_length]; exact List.length_map _
    refine ⟨_, hv, .inl ⟨rfl, _, SqL.of hp⟩, _, hvr, pf, vals ysf, .int (i : Nat), rfl, rfl, hp, by rw [ly]; exact hz, ?_⟩
    have c3 := (T.c.fz okr).relist (ys := ysf ++ [.fz (.int (i : Nat)) (.int (i : Nat))]) (zs := held) (junk := []) h0 (by simp)
    rw [vals_snoc, ers_snoc, ey] at c3
    have ne : S ≠ pf := by
      rintro rfl
      have := T.h
      rw [hp] at this
      cases this
    refine add c3 (by rw [upd_ne ne]; exact T.h) (by rw [show (e.setS jf _).sl = e.sl.set jf _ from rfl, List.length_set]; exact T.r1) (by rw [show (e.setS jf _).sl = e.sl.set jf _ from rfl, List.length_set]; exact T.r2) fun H2 L1 T1 => hin xs hc z hz H2 _ L1 T1
  refine ⟨_, hvl, .inr (.inl ⟨pl, _, 1, OS.oV k.2, rfl, rfl, hsH, rfl, rfl, _, rfl, ?_⟩)⟩
  cases hk2 : k.2 with
  | none =>
    show (if decide (V.non = V.non) = true then _ else _)
    rw [if_pos (by decide)]
    show (if true = true then _ else _)
    rw [if_pos rfl]
    exact fnd (.inl hk2)
  | some b =>
    show (if decide (V.int b = V.non) = true then _ else _)
    rw [if_neg (by rw [decide_eq_true_eq]; intro h; cases h)]
    refine ⟨_, hvl, _, T.v, pl, S, kL k, L, rfl, rfl, hsH, T.h, keys_same T.c.s T.k, fun c hc => ⟨c, rfl, ?_⟩⟩
    by_cases hm : k ∈ sn
    · have : c = true := hc.mpr ((T.m _).mpr (List.mem_map.mpr ⟨k, hm, rfl⟩))
      show (if c = true then _ else _)
      rw [if_pos this]
      exact fnd (.inr hm)
    · have : ¬ c = true := fun h => by
        obtain ⟨q, hq, e⟩ := List.mem_map.mp ((T.m _).mp (hc.mp h))
        rw [kL_inj e] at hq
        exact hm hq
      show (if c = true then _ else _)
      rw [if_neg this]
      exact add T.c T.h T.r1 T.r2 fun H2 L1 T1 => hout (fun h => h.elim (fun h => by rw [hk2] at h; cases h) hm) H2 L1 T1
theorem putN_at {i : Nat} {d : D} {e e' : Env} (h : gN i d e = some e') : e' = e.setS i (.fz d) ∧ i ∉ e.pn := by
  unfold gN VF.putR at h
  by_cases hi : i ∈ e.pn
  · rw [if_pos hi] at h; cases h
  · rw [if_neg hi] at h
    cases h
    exact ⟨rfl, hi⟩
theorem seenG_at {jr jl i : Nat} {d : D} {e e' : Env} (h : seenG jr jl (.tup [.int (i : Nat), d]) e = some e') : e' = (e.setS jr (.fz (.int (i : Nat)))).setS jl (.fz d) := by
  have h' : (match gN jr (.int (i : Nat)) e with
    | some e1 => (match gN jl d e1 with
      | some e2 => some e2
      | none => none)
    | none => none) = some e' := h
  cases q : gN jr (.int (i : Nat)) e with
  | none => rw [q] at h'; cases h'
  | some e1 =>
    rw [q] at h'
    simp only at h'
    cases q2 : gN jl d e1 with
    | none => rw [q2] at h'; cases h'
    | some e2 =>
      rw [q2] at h'
      cases h'
      rw [(putN_at q2).1, (putN_at q).1]
theorem ss_seen {P : Program} {w : World} {jf js jr jl : Nat} {ta : TA} {ma : M (List RV)} (ha : SA K mg E ta ma) :
    SS K mg E (tSeq (tAsg (tCB (OS.rSet0N P w) tNil) (gName js)) (tFor (iEnum K ta) (gTup K 2 (L2.gCons (gName jr) (L2.gCons (gName jl) L2.gNil))) (tSeenB K P w jf js jr jl))) (dSeen jf js jr jl ma) := by
  intro pv F H σ e as held D' cf w0
  unfold dSeen at w0
  by_cases hz : clrB e js = true ∧ js ∉ e.pn ∧ js ≠ jr ∧ js ≠ jl ∧ jr ≠ jl
  · rw [if_pos hz] at w0
    obtain ⟨hcl, hpn, hn1, hn2, hn3⟩ := hz
    have hcl := clrB_iff hcl
    refine ⟨rfl, fun S hS => ?_⟩
    have sb := same_both (o := OS.SetNO P w S []) cf.s hS
    have cf1 : Cf K mg pv (upd F S (OS.SetNO P w S [])) (upd H S (OS.SetNO P w S [])) (σ.set js (some (.ref S))) e as held :=
      Cf.setClr ⟨sb.2, cf.r, cf.g.newF cf.s hS⟩ hcl hpn
    have ljs : js < σ.length := by
      rw [cf.r.len]
      have := (List.getElem?_eq_some_iff.mp hcl).1
      rwa [cf.r.sl, List.length_map] at this
    refine ha pv _ _ _ e as held _ cf1 (WA.bindA (W := WS K mg pv F held E D') (fun z => z) w0 (fun _ _ z => WX.mono sb.1 z) fun r1 e1 v1 F1 H1 as1 tr1 s1 c1 rr1 w1 => ?_)
    cases q : frzRs r1 e1 with
    | none => simp only [q] at w1; exact w1.elim
    | some pr =>
      obtain ⟨ds, e2⟩ := pr
      simp only [q] at w1
      obtain ⟨F2, as2, s2, c2, rp⟩ := c1.frzRs rr1 q
      cases q2 : oneL ds with
      | none => simp only [q2] at w1; exact w1.elim
      | some xs =>
        simp only [q2] at w1
        by_cases hx : xs.length < 60 ∧ jr < e2.sl.length ∧ jl < e2.sl.length
        · rw [if_pos hx] at w1
          rw [oneL_some q2] at rp
          obtain ⟨v, e3, p, vs, ev, h1, h2⟩ := reps1 rp
          subst ev
          have fS : F2 S = some (.ext fun h => OS.SetN P w h S []) := s2 _ _ (s1 _ _ upd_same)
          have hS1 : H1 S = some (OS.SetNO P w S []) := c2.s _ _ fS
          have c3 := c2.wo fS
          have sx := wo_sameX fS
          have h1' : wo F2 S p = some (.lst vs) := sx _ _ h1 fun _ e => by cases e
          have h2' : Reps K mg (wo F2 S) vs xs := Reps.sameX sx h2
          have sF : Same F (wo F2 S) := fun a o h => by
            unfold wo
            rw [if_neg]
            · exact s2 _ _ (s1 _ _ (sb.1 _ _ h))
            · rintro rfl
              have := cf.s _ _ h
              rw [hS] at this
              cases this
          have wS : wo F2 S S = none := by unfold wo; rw [if_pos rfl]
          have hl := h2'.length
          refine ⟨p, vs, e3, SqL.of (c3.s _ _ h1'), ?_⟩
          refine ⟨fun i m σ H => m = xs.length - i ∧ ∃ F e as L sn, Turn K mg P w pv (wo F2 S) F H σ e as held S js jr jl i L sn ∧ WS K mg pv F held E D' (match loopS jf jr jl (xs.drop i) i sn e with
            | some e3 => .ok .nx e3
            | none => .st), ⟨_, rfl, wo F2 S, e2, as2, [], [], ⟨Same.refl _, c3, wS, hS1, by rw [List.getElem?_set_self ljs], (fun p hp => absurd hp (by simp)), (fun k => by simp), Nat.le_refl _, hx.2.1, hx.2.2⟩, WS.mono sF w1⟩, ?_⟩
          rintro i m σ2 H2 ⟨rfl, F3, e4, as3, L, sn, T, w2⟩
          by_cases hlt : i < xs.length
          · refine .inr ⟨⟨vs, vs[i]'(by omega), SqL.of (T.c.s _ _ (T.s _ _ h1')), List.getElem?_eq_getElem _⟩, fun σ' H' => ∃ F e as L sn, Turn K mg P w pv (wo F2 S) F H' σ' e as held S js jr jl (i + 1) L sn ∧ WS K mg pv F held E D' (match loopS jf jr jl (xs.drop (i + 1)) (i + 1) sn e with
              | some e3 => .ok .nx e3
              | none => .st), fun σ' H' ⟨F, e, as, L, sn, T, w⟩ => ⟨xs.length - (i + 1), by omega, rfl, F, e, as, L, sn, T, w⟩, fun x H' y => ?_⟩
            obtain ⟨Tt, u, rfl, hT, rfl, y⟩ := y
            obtain ⟨d, hd, rd⟩ := h2'.getV (y vs (SqL.of (T.c.s _ _ (T.s _ _ h1'))))
            have sb3 := same_both (o := .tup [.int (i : Nat), u]) T.c.s hT
            have c4 : Cf K mg pv (upd F3 Tt (.tup [.int (i : Nat), u])) (upd H2 Tt (.tup [.int (i : Nat), u])) σ2 e4 as3 held := ⟨sb3.2, T.c.r, T.c.g.newF T.c.s hT⟩
            have rx : Rep K mg (upd F3 Tt (.tup [.int (i : Nat), u])) (.ref Tt) (.tup [.int (i : Nat), d]) := ⟨Tt, _, rfl, SqT.of upd_same, rfl, Rep.same (T.s.trans sb3.1) rd, trivial⟩
            have neT : S ≠ Tt := by
              rintro rfl
              rw [T.h] at hT
              cases hT
            have edr : xs.drop i = d :: xs.drop (i + 1) := by
              have hdd : xs[i] = d := by rw [List.getElem?_eq_getElem hlt] at hd; exact Option.some.inj hd
              rw [List.drop_eq_getElem_cons hlt, hdd]
            rw [edr] at w2
            unfold loopS at w2
            cases qk : keyP d with
            | none => simp only [qk] at w2; exact w2.elim
            | some k =>
              cases qg : seenG jr jl (.tup [.int (i : Nat), d]) e4 with
              | none => simp only [qk, qg] at w2; exact w2.elim
              | some e5 =>
                simp only [qk, qg] at w2
                refine sg_tup (sgs_cons sg_name (sgs_cons sg_name sgs_nil)) pv _ _ σ2 e4 as3 held (.ref Tt) _ e5 _ c4 rx qg fun σ4 as4 hw c5 => ?_
                have e5e := seenG_at qg
                have l5 : e5.sl.length = e4.sl.length := by rw [e5e]; show ((e4.sl.set jr _).set jl _).length = _; rw [List.length_set, List.length_set]
                have er1 : e5.sl[jr]? = some (some (.fz (.int (i : Nat)))) := by
                  rw [e5e]
                  show ((e4.sl.set jr _).set jl _)[jr]? = _
                  rw [List.getElem?_set_ne (Ne.symm hn3), List.getElem?_set_self T.r1]
                have el1 : e5.sl[jl]? = some (some (.fz d)) := by
                  rw [e5e]
                  show ((e4.sl.set jr _).set jl _)[jl]? = _
                  rw [List.getElem?_set_self (by rw [List.length_set]; exact T.r2)]
                have vS : σ4[js]? = some (some (.ref S)) := by
                  have hw2 := hw [jr, jl] (fun q hq => by simpa using hq)
                  have hj : js ∉ [jr, jl] := by simp [hn1, hn2]
                  have a := wipe_at (σ := σ4) hj
                  have b := wipe_at (σ := σ2) hj
                  rw [← a, hw2, b]
                  exact T.v
                have T5 : Turn K mg P w pv (wo F2 S) (upd F3 Tt (.tup [.int (i : Nat), u])) (upd H2 Tt (.tup [.int (i : Nat), u])) σ4 e5 as4 held S js jr jl i L sn :=
                  ⟨T.s.trans sb3.1, c5, by rw [upd_ne neT]; exact T.f, by rw [upd_ne neT]; exact T.h, vS, keys_same sb3.1 T.k, T.m, T.l, by rw [l5]; exact T.r1, by rw [l5]; exact T.r2⟩
                refine turn_body (by omega) T5 qk er1 el1 (fun ys hc hy hyz H3 as5 L1 T6 => ?_) (fun hc => ?_) fun hc H3 L1 T6 => ?_
                · rw [if_pos hc] at w2
                  simp only [hy] at w2
                  rw [if_pos hyz] at w2
                  exact ⟨_, _, as5, L1, _, T6, WS.mono sb3.1 w2⟩
                · rw [if_pos hc] at w2
                  cases z : e5.sl[jf]? with
                  | none => simp only [z] at w2; exact w2.elim
                  | some o => cases o with
                    | none => simp only [z] at w2; exact w2.elim
                    | some s => cases s with
                      | ol ys =>
                        simp only [z] at w2
                        by_cases hyz : ys.length < sizeLine
                        · exact ⟨ys, rfl, hyz⟩
                        · rw [if_neg hyz] at w2; exact w2.elim
                      | _ => simp only [z] at w2; exact w2.elim
                · rw [if_neg hc] at w2
                  exact ⟨_, _, as4, L1, _, T6, WS.mono sb3.1 w2⟩
          · refine .inl ⟨⟨vs, SqL.of (T.c.s _ _ (T.s _ _ h1')), by omega⟩, ?_⟩
            rw [List.drop_eq_nil_of_le (by omega)] at w2
            unfold loopS at w2
            exact w2 σ2 F3 H2 as3 (Same.refl _) T.c
        · rw [if_neg hx] at w1; exact w1.elim
  · rw [if_neg hz] at w0; exact w0.elim
end
section
variable {X : Cx} {E : XS} {a : Expr} {mr : M (List RV)} {rest : List Stmt} {m' : M Fl} {jf js jr jl : Nat} {f sn r l : Str} {pa pa1 pa2 pa3 p0 p1 p2 p3 p4 p5 p6 p7 p8 p9 q1 q2 q3 q4 q5 q6 q7 q8 q9 r3 r4 r5 r6 r4' r5' pf : Pos} {kk kk1 kk2 kk3 : Nat}
theorem b_seen (hp : PassesOwn (model X.prog X.w) X.A X.env X.xe) (hc : X.calm = true) (hu : X.A.units + 1 < cLine) (nd : X.N.Nodup) (gset : Gl X "set") (mset : X.mg "set" = none) (gen : Gl X "enumerate") (men : X.mg "enumerate" = none)
    (hf : X.N[jf]? = some f) (vf : Vis X.env.scope f) (hs : X.N[js]? = some sn) (vs : Vis X.env.scope sn) (ls : Loc X.env.scope sn) (hr : X.N[jr]? = some r) (vr : Vis X.env.scope r) (lr : Loc X.env.scope r) (hl : X.N[jl]? = some l) (vl : Vis X.env.scope l) (ll : Loc X.env.scope l)
    (ha : VA X E [a] mr) (hb : VB X E rest m') (hst : starEach [a] X.env = [(false, eval a X.env)] := by rfl)
    (f1 : (f == ("__debug__" : Str)) = false := by decide) (f2 : (f == ("__classdict__" : Str)) = false := by decide) (s1 : (sn == ("__debug__" : Str)) = false := by decide) (s2 : (sn == ("__classdict__" : Str)) = false := by decide) (r1 : (r == ("__debug__" : Str)) = false := by decide) (r2 : (r == ("__classdict__" : Str)) = false := by decide) (l1 : (l == ("__debug__" : Str)) = false := by decide) (l2 : (l == ("__classdict__" : Str)) = false := by decide)
    (es : X.fn sn = true ∨ X.env.scope.names.lookup sn = some .local := by first | exact .inl rfl | exact .inr rfl | assumption) (er : X.fn r = true ∨ X.env.scope.names.lookup r = some .local := by first | exact .inl rfl | exact .inr rfl | assumption) (el : X.fn l = true ∨ X.env.scope.names.lookup l = some .local := by first | exact .inl rfl | exact .inr rfl | assumption)
    (happ : ∀ {to : TE} {t : TA}, PE X (.Name f p6) to → L2.PA X [.Name r p7] t → PE X (.Call (.Attribute (.Name f p6) "append" p8) [.Name r p7] [] p9) (tBM X.K "list" rAppend to t))
    (hadd : ∀ {to : TE} {t : TA}, PE X (.Name sn q1) to → L2.PA X [.Name l q2] t → PE X (.Call (.Attribute (.Name sn q1) "add" q3) [.Name l q2] [] q4) (OS.tSAddN X.K X.prog X.w to t))
    (hsw1 : swapsWith (.Call (.Name "set" pa1) [] [] pa2) (some (.Name sn pa3)) pa.line X.env = pure false := by rfl)
    (hsw2 : swapsWith (.Call (.Attribute (.Name f p6) "append" p8) [.Name r p7] [] p9) none r4.line X.env = pure false := by rfl) (hsw3 : swapsWith (.Call (.Attribute (.Name sn q1) "add" q3) [.Name l q2] [] q4) none r5.line X.env = pure false := by rfl)
    (hfs : ∀ x, foldedSetIterable (.Call (.Name "enumerate" q8) [a] [] q9) X.env x = pure x := by intro _; rfl) (hplx : PlainIx (.Constant (.int 1) kk1 p1) := by intro _ _; rfl) :
    VB X E (.Assign [.Name sn pa3] (.Call (.Name "set" pa1) [] [] pa2) pa :: .For (.Tuple [.Name r q5, .Name l q6] kk q7) (.Call (.Name "enumerate" q8) [a] [] q9)
      [.If (.BoolOp .Or [.Compare (.Subscript (.Name l p0) (.Constant (.int 1) kk1 p1) p2) [.Is] [.Constant .none kk2 p3] p4, .Compare (.Name l p5) [.In] [.Name sn r3] r4'] r5') [.Expr (.Call (.Attribute (.Name f p6) "append" p8) [.Name r p7] [] p9) r4] [] r6, .Expr (.Call (.Attribute (.Name sn q1) "add" q3) [.Name l q2] [] q4) r5] [] pf :: rest) (dSeq (dSeen jf js jr jl mr) m') :=
  .mk (t := tSeq (tAsg (tCB (OS.rSet0N X.prog X.w) tNil) (gName js)) (tSeq (tFor (iEnum X.K (wA X.K X.mg E mr)) (gTup X.K 2 (L2.gCons (gName jr) (L2.gCons (gName jl) L2.gNil))) (tSeenB X.K X.prog X.w jf js jr jl)) (wS X.K X.mg E m')))
    (pss_cons (ps_set nd hs ls (pe_callTy0 OS.cr_set0N gset mset PyProof.Rows.boot_set) hsw1 es)
      (pss_cons (ps_for hp hc (pi_enum gen men ha hst) (pg_tup hc (pgs_cons (pg_name nd hr lr er) (pgs_cons (pg_name nd hl ll el) pgs_nil)))
        (pss_cons (ps_if (PW.pt (pw_or (pt_cmpR op_isN (pe_ix ix_seq (pe_var hl vl l1 l2) pe_int hplx) pe_non (nomark _)) (pw_or1 (pt_cmpR (OS.or_sinN hu) (pe_var hl vl l1 l2) (pe_var hs vs s1 s2) rfl))))
          (pss_one (ps_expr (happ (pe_var hf vf f1 f2) (pa_cons (pe_var hr vr r1 r2) pa_nil)) hsw2)) pss_nil)
          (pss_one (ps_expr (hadd (pe_var hs vs s1 s2) (pa_cons (pe_var hl vl l1 l2) pa_nil)) hsw3))) hfs) hb))
    (ss_seq (ta := tSeq (tAsg (tCB (OS.rSet0N X.prog X.w) tNil) (gName js)) (tFor (iEnum X.K (wA X.K X.mg E mr)) (gTup X.K 2 (L2.gCons (gName jr) (L2.gCons (gName jl) L2.gNil))) (tSeenB X.K X.prog X.w jf js jr jl))) (tb := wS X.K X.mg E m') (ss_seen sa_w) ss_w)
end
end VF
set_option maxRecDepth 100000
set_option maxHeartbeats 4000000
namespace VF
set_option autoImplicit false
open PySem L2
open Enc (enc)
def cauL : List (Int × Option Int) → Nat → List (Int × Option Int) → List Int
  | [], _, _ => []
  | k :: ks, i, sn => if k.2 = none ∨ k ∈ sn then (i : Int) :: cauL ks (i + 1) (k :: sn) else cauL ks (i + 1) (k :: sn)
def seenR (xs : List (Int × Option Int)) (fs : List Int) : Res (List Int) := if xs.length < 60 ∧ fs.length ≤ 1000 then .ok (fs ++ cauL xs 0 []) else .st
section
variable {α γ τ ω : Type} {P : Res α} {pn : List Nat} {S S1 : List SD} {e : Env} {G : α → γ → Env → Prop} {X : Exc → Env → Prop} {r q : RV} {o oa ob : Opd}
theorem keyP_enc (k : Int × Option Int) : keyP (enc k) = some k := by
  obtain ⟨a, o⟩ := k
  cases o <;> rfl
theorem set_id {A : Type} {l : List A} {i : Nat} {x : A} (h : l[i]? = some x) : l.set i x = l := by
  refine List.ext_getElem? fun n => ?_
  rw [List.getElem?_set]
  split
  · rename_i hh
    subst hh
    split
    · exact h.symm
    · rename_i hl
      rw [List.getElem?_eq_none_iff.mpr (by omega)]
  · rfl
theorem loopS_ok {jf jr jl : Nat} (n1 : jf ≠ jr) (n2 : jf ≠ jl) (p1 : jr ∉ pn) (p2 : jl ∉ pn) : ∀ (xs : List (Int × Option Int)) (i : Nat) (sn : List (Int × Option Int)) (fs : List Int) (S : List SD) (e : Env),
    Has pn S e → S[jr]? = some .any → S[jl]? = some .any → S[jf]? = some (.ol (encs fs)) → fs.length + xs.length < 10000 →
    ∃ e', loopS jf jr jl (encs xs) i sn e = some e' ∧ Has pn (S.set jf (.ol (encs (fs ++ cauL xs i sn)))) e'
  | [], i, sn, fs, S, e, h, hr, hl, hf, _ => ⟨e, rfl, by
      unfold cauL
      rw [List.append_nil, set_id hf]
      exact h⟩
  | k :: xs, i, sn, fs, S, e, h, hr, hl, hf, hz => by
    rw [List.length_cons] at hz
    have h1 : Has pn S ((e.setS jr (.fz (.int (i : Nat)))).setS jl (.fz (enc k))) := by
      have a := (h.setS (s := .any) (v := .fz (.int (i : Nat))) jr trivial).setS (s := .any) (v := .fz (enc k)) jl trivial
      rw [set_id hr, set_id hl] at a
      exact a
    have eg : seenG jr jl (.tup [.int (i : Nat), enc k]) e = some ((e.setS jr (.fz (.int (i : Nat)))).setS jl (.fz (enc k))) := by
      show (match gN jr (.int (i : Nat)) e with
        | some e1 => (match gN jl (enc k) e1 with
          | some e2 => some e2
          | none => none)
        | none => none) = _
      have a : gN jr (.int (i : Nat)) e = some (e.setS jr (.fz (.int (i : Nat)))) := by
        unfold gN VF.putR
        rw [if_neg (by rw [h.pn]; exact p1)]
      rw [a]
      simp only
      have b : gN jl (enc k) (e.setS jr (.fz (.int (i : Nat)))) = some ((e.setS jr (.fz (.int (i : Nat)))).setS jl (.fz (enc k))) := by
        unfold gN VF.putR
        rw [if_neg (by show jl ∉ e.pn; rw [h.pn]; exact p2)]
      rw [b]
    generalize (e.setS jr (.fz (.int (i : Nat)))).setS jl (.fz (enc k)) = e1 at h1 eg
    obtain ⟨o1, a1, a2⟩ := h1.slot hf
    have a2 : o1 = some (.ol (fzs (encs fs))) := a2
    subst a2
    by_cases c : k.2 = none ∨ k ∈ sn
    · have h2 := h1.setS (s := .ol (encs (fs ++ [(i : Int)]))) (v := .ol (fzs (encs (fs ++ [(i : Int)])))) jf rfl
      obtain ⟨e', b1, b2⟩ := loopS_ok n1 n2 p1 p2 xs (i + 1) (k :: sn) (fs ++ [(i : Int)]) _ _ h2 (by rw [List.getElem?_set_ne n1]; exact hr) (by rw [List.getElem?_set_ne n2]; exact hl) (by
        rw [List.getElem?_set_self (by exact (List.getElem?_eq_some_iff.mp hf).1)]) (by rw [List.length_append, List.length_singleton]; omega)
      refine ⟨e', ?_, ?_⟩
      · show loopS jf jr jl (enc k :: encs xs) i sn e = _
        unfold loopS
        rw [keyP_enc, eg]
        simp only
        rw [if_pos c, a1]
        simp only
        rw [if_pos (by unfold fzs encs; rw [List.length_map, List.length_map, sizeLine_eq]; omega)]
        have : fzs (encs fs) ++ [SV.fz (.int (i : Nat))] = fzs (encs (fs ++ [(i : Int)])) := by unfold fzs encs; rw [List.map_append, List.map_append]; rfl
        rw [this]
        exact b1
      · rw [List.set_set, List.append_assoc] at b2
        show Has pn (S.set jf (.ol (encs (fs ++ cauL (k :: xs) i sn)))) e'
        unfold cauL
        rw [if_pos c]
        exact b2
    · obtain ⟨e', b1, b2⟩ := loopS_ok n1 n2 p1 p2 xs (i + 1) (k :: sn) fs S e1 h1 hr hl hf (by omega)
      refine ⟨e', ?_, ?_⟩
      · show loopS jf jr jl (enc k :: encs xs) i sn e = _
        unfold loopS
        rw [keyP_enc, eg]
        simp only
        rw [if_neg c]
        exact b1
      · show Has pn (S.set jf (.ol (encs (fs ++ cauL (k :: xs) i sn)))) e'
        unfold cauL
        rw [if_neg c]
        exact b2
def seenK (jf jr jl : Nat) (K : Fl → M γ) : List RV → M γ := fun rs e1 => R.bind (match frzRs rs e1 with
  | some (ds, e2) => (match oneL ds with
    | some xs => if xs.length < 60 ∧ jr < e2.sl.length ∧ jl < e2.sl.length then (match loopS jf jr jl xs 0 [] e2 with
      | some e3 => .ok .nx e3
      | none => .st) else .st
    | none => .st)
  | none => .st) K
theorem c_seen {jf js jr jl : Nat} {ma : M (List RV)} {K : Fl → M γ} (h : Has pn S e) (q : S[js]? = some .clr) (hp : js ∉ pn) (ne : js ≠ jr ∧ js ≠ jl ∧ jr ≠ jl) (k : Sm ((ma e).bind (seenK jf jr jl K)) P G X) : Sm ((dSeen jf js jr jl ma e).bind K) P G X := by
  obtain ⟨o1, a1, a2⟩ := h.slot q
  have a2 : o1 = none := a2
  subst a2
  have : (dSeen jf js jr jl ma e).bind K = (ma e).bind (seenK jf jr jl K) := by
    unfold dSeen
    rw [if_pos ⟨by unfold clrB; rw [a1], by rw [h.pn]; exact hp, ne⟩, rbind_assoc]
    rfl
  rw [this]; exact k
theorem f_seen {jf jr jl : Nat} {xs : List (Int × Option Int)} {fs : List Int} {K : Fl → M γ} {k : List Int → Res α} (h : Has pn S e) (k1 : ROk r (.w (encs xs))) (qf : S[jf]? = some (.ol (encs fs))) (ne : jf ≠ jr ∧ jf ≠ jl ∧ jr ≠ jl) (p1 : jr ∉ pn) (p2 : jl ∉ pn) (l1 : jr < S.length) (l2 : jl < S.length)
    (kk : ∀ fs' e', Has pn (((S.set jr .any).set jl .any).set jf (.ol (encs fs'))) e' → Sm (K .nx e') (k fs') G X) : Sm (seenK jf jr jl K [r] e) ((seenR xs fs).bind k) G X := by
  unfold seenR
  split
  · rename_i hz
    have k1 : r = .own (.ol (fzs (encs xs))) := k1
    subst k1
    have el : e.sl.length = S.length := (F2.len h.sl).symm
    have fr : frzRs [RV.own (.ol (fzs (encs xs)))] e = some ([.lst (encs xs)], e) := VF.Cls.frz (os := [.w (encs xs)]) (rs := [RV.own (.ol (fzs (encs xs)))]) (.cons .w .nil) (show ROks _ _ from ⟨rfl, trivial⟩) e
    have h1 : Has pn ((S.set jr .any).set jl .any) e := ⟨h.pn, F2.any jl (F2.any jr h.sl)⟩
    obtain ⟨e', b1, b2⟩ := loopS_ok (pn := pn) ne.1 ne.2.1 p1 p2 xs 0 [] fs _ e h1 (by rw [List.getElem?_set_ne (Ne.symm ne.2.2), List.getElem?_set_self l1]) (by rw [List.getElem?_set_self (by rw [List.length_set]; exact l2)]) (by rw [List.getElem?_set_ne (Ne.symm ne.2.1), List.getElem?_set_ne (Ne.symm ne.1)]; exact qf) (by omega)
    have : seenK jf jr jl K [RV.own (.ol (fzs (encs xs)))] e = K .nx e' := by
      unfold seenK
      rw [fr]
      show R.bind (if (encs xs).length < 60 ∧ jr < e.sl.length ∧ jl < e.sl.length then _ else _) K = _
      rw [if_pos ⟨by unfold encs; rw [List.length_map]; exact hz.1, by omega, by omega⟩, b1]
      rfl
    rw [this, Res.bind_ok]
    exact kk _ _ b2
  · exact ⟨trivial⟩
end
end VF
set_option maxRecDepth 100000
set_option maxHeartbeats 4000000
namespace VF
set_option autoImplicit false
open PySem L2
def Hd {α : Type} (p : Res α) (Q : α → Prop) : Prop := ∃ a, p = .ok a ∧ Q a
section
variable {α β γ σ τ : Type}
theorem Hd.bind {p : Res α} {q : α → Res β} {Q : β → Prop} {R : α → Prop} (h : Hd p R) (k : ∀ a, R a → Hd (q a) Q) : Hd (p.bind q) Q := by
  obtain ⟨a, rfl, h2⟩ := h
  exact k a h2
theorem Hd.ok {a : α} {Q : α → Prop} (h : Q a) : Hd (.ok a) Q := ⟨a, rfl, h⟩
theorem Hd.true {p : Res Bool} (h : Hd p (· = true)) : p = .ok true := by obtain ⟨a, h1, rfl⟩ := h; exact h1
theorem Hd.mono {p : Res α} {Q R : α → Prop} (h : Hd p Q) (k : ∀ a, Q a → R a) : Hd p R := by obtain ⟨a, h1, h2⟩ := h; exact ⟨a, h1, k a h2⟩
@[simp] theorem bind_ok_self (p : Res α) : (p.bind fun a => .ok a) = p := by cases p <;> rfl
@[simp] theorem bind_ok_self' (p : Res α) : p.bind Res.ok = p := by cases p <;> rfl
theorem size_le {n : Nat} (h : n ≤ 1000000) : n ≤ sizeLine := size_ge (by omega)
theorem size_lt {n : Nat} (h : n ≤ 1000000) : n < sizeLine := size_gt (by omega)
theorem s62 {n : Int} (h : -1000000000 ≤ n) (h2 : n ≤ 1000000000) : small62 n = true := by
  rw [small62_def]; exact decide_eq_true (by omega)
theorem modR_ok {x y : Int} (h : 0 < y) : modR x y = .ok (x % y) := if_pos h
theorem divR_ok {x y : Int} (h : 0 < y) (h2 : y < 1073741824) : divR x y = .ok (x / y) := by unfold divR; rw [okDiv_eq]; exact if_pos (decide_eq_true ⟨h, h2⟩)
theorem mulR_ok {x y : Int} (h : -18446744073709551616 < y ∧ y < 18446744073709551616) : mulR x y = .ok (x * y) := by
  unfold mulR
  rw [okMul_eq, if_pos]
  rw [Bool.or_eq_true]; right
  rw [inB_def]; exact decide_eq_true (by omega)
theorem appR_ok {xs : List α} {x : α} (h : xs.length ≤ 1000000) : appR xs x = .ok (xs ++ [x]) := by unfold appR; rw [okLt_eq]; exact if_pos (decide_eq_true (size_lt h))
theorem catR_ok {xs ys : List α} (h : xs.length + ys.length ≤ 1000000) : catR xs ys = .ok (xs ++ ys) := by unfold catR; rw [okLe_eq]; exact if_pos (decide_eq_true (size_le h))
theorem geti_nat {xs : List α} {i : Nat} (h : i < xs.length) : geti xs (i : Int) = .ok xs[i] := by
  unfold geti
  rw [atI_nonneg _ _ (by omega), Int.toNat_natCast, List.getElem?_eq_getElem h]
theorem irng_len (lo : Int) (n : Nat) : (irng lo n).length = n := by simp [irng]
theorem irng0 (n : Nat) : irng 0 n = (List.range n).map (fun k : Nat => (k : Int)) := by unfold irng; simp
theorem irng_mem {lo : Int} {n : Nat} {x : Int} : x ∈ irng lo n ↔ lo ≤ x ∧ x < lo + n := by
  unfold irng
  rw [List.mem_map]
  constructor
  · rintro ⟨i, hi, rfl⟩
    rw [List.mem_range] at hi
    omega
  · rintro ⟨h1, h2⟩
    exact ⟨(x - lo).toNat, by rw [List.mem_range]; omega, by omega⟩
theorem rng1_ok {n : Int} (h : n ≤ 1000000) (h0 : -1000000 ≤ n) : rng1R n = .ok (irng 0 n.toNat) := by unfold rng1R; rw [ok62_eq]; exact if_pos (s62 (by omega) (by omega))
theorem rng1_nat {n : Nat} (h : n ≤ 1000000) : rng1R (n : Int) = .ok ((List.range n).map fun k : Nat => (k : Int)) := by
  rw [rng1_ok (by omega) (by omega), Int.toNat_natCast, irng0]
theorem rng_ok {a b : Int} (h : -1000000 ≤ a) (h1 : a ≤ 1000000) (h2 : -1000000 ≤ b) (h3 : b ≤ 1000000) : rngR a b = .ok (irng a (b - a).toNat) := by
  unfold rngR
  rw [if_pos]
  rw [ok62_eq, ok62_eq, s62 (by omega) (by omega), s62 (by omega) (by omega)]; rfl
theorem compGo_ok {f : α → σ → Res (Option β × σ)} {g : α → Option β} {s : σ} : ∀ (xs : List α) (acc : List β), (∀ x ∈ xs, f x s = .ok (g x, s)) → compGo f xs s acc = .ok (acc ++ xs.filterMap g, s)
  | [], acc, _ => by simp [compGo]
  | x :: xs, acc, h => by
    have hx := h x List.mem_cons_self
    have ht := fun y hy => h y (List.mem_cons_of_mem _ hy)
    unfold compGo
    rw [hx]
    cases q : g x with
    | none => simp only; rw [compGo_ok xs acc ht, List.filterMap_cons, q]
    | some y => simp only; rw [compGo_ok xs (acc ++ [y]) ht, List.filterMap_cons, q]; simp
theorem filC_some {f : α → Res (Option β)} {g : α → Option β} {xs : List α} (hl : xs.length ≤ 1000000) (h : ∀ x ∈ xs, f x = .ok (g x)) : filC f xs = .ok (xs.filterMap g) := by
  unfold filC filS
  rw [okLe_eq, if_pos (decide_eq_true (size_le hl)), compGo_ok (g := g) xs [] (fun x hx => by rw [h x hx]; rfl)]
  rfl
theorem mapC_ok {f : α → Res β} {g : α → β} {xs : List α} (hl : xs.length ≤ 1000000) (h : ∀ x ∈ xs, f x = .ok (g x)) : mapC f xs = .ok (xs.map g) := by
  unfold mapC
  rw [filC_some (g := fun x => some (g x)) hl (fun x hx => by rw [h x hx]; rfl)]
  simp
theorem filC_ok {f : α → Res (Option β)} {c : α → Bool} {g : α → β} {xs : List α} (hl : xs.length ≤ 1000000) (h : ∀ x ∈ xs, f x = .ok (if c x = true then some (g x) else none)) : filC f xs = .ok ((xs.filter c).map g) := by
  rw [filC_some hl h]
  congr 1
  induction xs with
  | nil => rfl
  | cons x xs ih =>
    have := ih (by simp only [List.length_cons] at hl; omega) (fun y hy => h y (List.mem_cons_of_mem _ hy))
    rw [List.filterMap_cons]
    cases q : c x with
    | true => rw [if_pos rfl, List.filter_cons, q, if_pos rfl, List.map_cons]; simp only; rw [this]
    | false => rw [if_neg (by decide), List.filter_cons, q, if_neg (by decide)]; simp only; rw [this]
theorem filC_id {f : α → Res (Option α)} {c : α → Bool} {xs : List α} (hl : xs.length ≤ 1000000) (h : ∀ x ∈ xs, f x = .ok (if c x = true then some x else none)) : filC f xs = .ok (xs.filter c) := by
  rw [filC_ok (g := id) hl h, List.map_id]
theorem filC_idI {f : α → Res (Option α)} {c : α → Bool} {xs : List α} (hl : xs.length ≤ 1000000) (h : ∀ x ∈ xs, f x = if c x = true then .ok (some x) else .ok none) : filC f xs = .ok (xs.filter c) :=
  filC_id hl fun x hx => by rw [h x hx]; split <;> rfl
inductive All2 (Q : α → β → Prop) : List α → List β → Prop
  | nil : All2 Q [] []
  | cons {a : α} {b : β} {as : List α} {bs : List β} : Q a b → All2 Q as bs → All2 Q (a :: as) (b :: bs)
theorem All2.len {Q : α → β → Prop} {as : List α} {bs : List β} (h : All2 Q as bs) : bs.length = as.length := by
  induction h with
  | nil => rfl
  | cons _ _ ih => simp [ih]
theorem All2.mem {Q : α → β → Prop} {as : List α} {bs : List β} (h : All2 Q as bs) : ∀ b ∈ bs, ∃ a ∈ as, Q a b := by
  induction h with
  | nil => intro b hb; cases hb
  | cons q _ ih =>
    intro b hb
    rcases List.mem_cons.mp hb with rfl | hb
    · exact ⟨_, List.mem_cons_self, q⟩
    · obtain ⟨a, h1, h2⟩ := ih b hb
      exact ⟨a, List.mem_cons_of_mem _ h1, h2⟩
theorem All2.get {Q : α → β → Prop} {as : List α} {bs : List β} (h : All2 Q as bs) : ∀ (i : Nat) (h1 : i < as.length) (h2 : i < bs.length), Q as[i] bs[i] := by
  induction h with
  | nil => intro i h1; simp at h1
  | cons q _ ih =>
    intro i h1 h2
    cases i with
    | zero => exact q
    | succ i => exact ih i (by simpa using h1) (by simpa using h2)
theorem compGo_hd {f : α → σ → Res (Option β × σ)} {Q : α → β → Prop} : ∀ (xs : List α) (s : σ) (acc : List β), (∀ x ∈ xs, ∀ s, Hd (f x s) fun p => ∃ y, p.1 = some y ∧ Q x y) → Hd (compGo f xs s acc) fun p => ∃ ys, p.1 = acc ++ ys ∧ All2 Q xs ys
  | [], s, acc, _ => ⟨(acc, s), rfl, [], by simp, .nil⟩
  | x :: xs, s, acc, h => by
    obtain ⟨⟨o, s'⟩, h1, y, h2, h3⟩ := h x List.mem_cons_self s
    cases h2
    obtain ⟨p, h4, ys, h5, h6⟩ := compGo_hd xs s' (acc ++ [y]) (fun y hy => h y (List.mem_cons_of_mem _ hy))
    refine ⟨p, ?_, y :: ys, by rw [h5]; simp, .cons h3 h6⟩
    unfold compGo
    rw [h1]
    exact h4
theorem mapS_hd {f : α → σ → Res (β × σ)} {Q : α → β → Prop} {xs : List α} {s : σ} (hl : xs.length ≤ 1000000) (h : ∀ x ∈ xs, ∀ s, Hd (f x s) fun p => Q x p.1) : Hd (mapS f xs s) fun p => All2 Q xs p.1 := by
  unfold mapS filS
  rw [okLe_eq, if_pos (decide_eq_true (size_le hl))]
  refine (compGo_hd (Q := Q) xs s [] fun x hx s => ?_).mono fun p ⟨ys, h1, h2⟩ => by rw [h1]; simpa using h2
  obtain ⟨p, h1, h2⟩ := h x hx s
  exact ⟨(some p.1, p.2), by rw [h1]; rfl, p.1, rfl, h2⟩
theorem foldR_hd {f : α → σ → Res σ} {xs : List α} {s : σ} (I : Nat → σ → Prop) (h0 : I 0 s) (step : ∀ (i : Nat) (h : i < xs.length) s, I i s → Hd (f xs[i] s) (I (i + 1))) : Hd (foldR f xs s) (I xs.length) := by
  induction xs generalizing s I with
  | nil => exact ⟨s, rfl, h0⟩
  | cons x xs ih =>
    obtain ⟨s', h1, h2⟩ := step 0 (by simp) s h0
    unfold foldR
    rw [show f x s = .ok s' from h1]
    exact ih (fun i => I (i + 1)) h2 fun i h s hs => step (i + 1) (by simpa using h) s hs
theorem foldR_app {f : α → List β → Res (List β)} {g : α → β} : ∀ (xs : List α) (acc : List β), acc.length + xs.length ≤ 1000000 → (∀ x ∈ xs, ∀ acc, f x acc = appR acc (g x)) → foldR f xs acc = .ok (acc ++ xs.map g)
  | [], acc, _, _ => by simp [foldR]
  | x :: xs, acc, hl, h => by
    rw [List.length_cons] at hl
    unfold foldR
    rw [h x List.mem_cons_self, appR_ok (by omega)]
    show foldR f xs (acc ++ [g x]) = _
    rw [foldR_app xs (acc ++ [g x]) (by simp; omega) fun y hy => h y (List.mem_cons_of_mem _ hy)]
    simp
theorem foldR_app0 {f : α → List β → Res (List β)} {g : α → β} {xs : List α} (hl : xs.length ≤ 1000000) (h : ∀ x ∈ xs, ∀ acc, f x acc = appR acc (g x)) : foldR f xs [] = .ok (xs.map g) := by
  rw [foldR_app xs [] (by simpa using hl) h]; simp
end
end VF
set_option maxRecDepth 100000
set_option maxHeartbeats 4000000
namespace V
set_option autoImplicit false
open PySem L2 VF
open Enc (enc)
end V
set_option maxRecDepth 100000
set_option maxHeartbeats 4000000
namespace V
set_option autoImplicit false
open PySem L2 VF
section
variable {α β γ : Type}
def Sg : Nat → (Nat → Int) → Int
  | 0, _ => 0
  | n + 1, f => Sg n f + f n
theorem getD_lt {xs : List α} {i : Nat} (d : α) (h : i < xs.length) : xs.getD i d = xs[i] := by
  rw [List.getD_eq_getElem?_getD, List.getElem?_eq_getElem h]; rfl
theorem geti_D {xs : List α} {i : Nat} (d : α) (h : i < xs.length) : geti xs (i : Int) = .ok (xs.getD i d) := by rw [geti_nat h, getD_lt d h]
end
end V
set_option maxRecDepth 100000
set_option maxHeartbeats 4000000
namespace V
set_option autoImplicit false
open PySem L2 VF
section
variable {α β γ : Type}
theorem foldR_rngE {f : α → List β → Res (List β)} {g : Nat → β} {e : Nat → α} {n : Nat} (hl : n ≤ 1000000) (h : ∀ k, k < n → ∀ acc, f (e k) acc = appR acc (g k)) : foldR f ((List.range n).map e) [] = .ok ((List.range n).map g) := by
  have : ∀ (ks : List Nat) (acc : List β), acc.length + ks.length ≤ 1000000 → (∀ k ∈ ks, k < n) → foldR f (ks.map e) acc = .ok (acc ++ ks.map g) := by
    intro ks
    induction ks with
    | nil => intro acc _ _; simp [foldR]
    | cons k ks ih =>
      intro acc hl2 hk
      rw [List.length_cons] at hl2
      rw [List.map_cons]
      unfold foldR
      rw [h k (hk k List.mem_cons_self), appR_ok (by omega), Res.bind_ok, ih _ (by simp; omega) fun j hj => hk j (List.mem_cons_of_mem _ hj)]
      simp
  have := this (List.range n) [] (by simpa using hl) (fun k hk => List.mem_range.mp hk)
  simpa using this
theorem enumL_rng (d : α) (xs : List α) : enumL xs = (List.range xs.length).map fun i : Nat => ((i : Int), xs.getD i d) := by
  refine List.ext_getElem (by simp [enumL]) fun i h1 h2 => ?_
  have hi : i < xs.length := by simpa using h2
  simp only [enumL, List.getElem_mapIdx, List.getElem_map, List.getElem_range]
  rw [getD_lt d hi]
end
def tb (t : List (List Int)) (k : Nat) (m : Int) : Int := (t.getD k []).getD m.toNat 0
def at3 (ps : List (List (List Int))) (a k h : Nat) : Int := ((ps.getD a []).getD k []).getD h 0
def newL (p : Int) (ps : List (List (List Int))) (m n : Nat) : List (List Int) :=
  (List.range n).map fun k => (List.range m).map fun j => (Sg ps.length fun h => at3 ps h k j) % p
end V
set_option maxRecDepth 100000
set_option maxHeartbeats 4000000
namespace V
set_option autoImplicit false
open PySem L2 VF
section
variable {α β γ σ τ : Type}
end
abbrev nt (L : List Int) (j : Nat) : Int := L.getD j 0
structure LM (L : List Int) (j : Nat) : Prop where
  lt : j < L.length
  le : ∀ i, i < L.length → nt L j ≤ nt L i
  last : ∀ i, i < L.length → j < i → nt L j < nt L i
structure FM (L : List Int) (j : Nat) : Prop where
  lt : j < L.length
  ge : ∀ i, i < L.length → nt L i ≤ nt L j
  first : ∀ i, i < j → nt L i < nt L j
end V
set_option maxRecDepth 100000
set_option maxHeartbeats 4000000
namespace V
set_option autoImplicit false
open PySem L2 VF
open Enc (enc)
def d__law_draw : M Fl := (dSeq (dSet 2 (dIx (dVar 0) (dC (.int 1))))
  (dSeq (dSetIx 0 (dC (.int 1)) (dOp (fI (· + ·)) (dVar 2) (dC (.int 1))))
  (dSeq (dIf (dT (dOp (fB fun i j => decide (i < j)) (dVar 2) (dCB lenD (dCons (dIx (dVar 0) (dC (.int 0))) dNil)))) (dRet (dOp fMod (dCB intD (dCons (dIx (dIx (dVar 0) (dC (.int 0))) (dVar 2)) dNil)) (dVar 1))) dNext)
  (dRet (dOp fMod (dCB intD (dCons (dOp (fI (· + ·)) (dOp fMul (dVar 2) (dC (.int 7))) (dC (.int 3))) dNil)) (dVar 1))))))
def φ__law_draw : Fn := mkFn0 [true, false] 3 d__law_draw
def drawW (ds : List Int) (at_ : Nat) (many : Int) : Int := match ds[at_]? with
  | some d => d % many
  | none => ((at_ : Int) * 7 + 3) % many
theorem mul7 (a : Int) : fMul (.int a) (.int 7) = some (.int (a * 7)) := if_pos (by rw [show inB 7 64 = true by decide, Bool.or_true])
def dDr (f : D → D → Option D) : M Fl := (dSeq (dSet 2 (dIx (dVar 0) (dC (.int 1))))
  (dSeq (dSetIx 0 (dC (.int 1)) (dOp (fI (· + ·)) (dVar 2) (dC (.int 1))))
  (dSeq (dIf (dT (dOp (fB fun i j => decide (i < j)) (dVar 2) (dCB lenD (dCons (dIx (dVar 0) (dC (.int 0))) dNil)))) (dRet (dOp fMod (dCB intD (dCons (dIx (dIx (dVar 0) (dC (.int 0))) (dVar 2)) dNil)) (dVar 1))) dNext)
  (dRet (dOp fMod (dCB intD (dCons (dOp (fI (· + ·)) (dOp f (dVar 2) (dC (.int 7))) (dC (.int 3))) dNil)) (dVar 1))))))
theorem drawW_okG (f : D → D → Option D) (hf : ∀ a : Int, f (.int a) (.int 7) = some (.int (a * 7))) (ds : List Int) (at_ : Nat) (many : Int) (hm : 0 < many) : mkFn0 [true, false] 3 (dDr f) [box ds at_, .fz (.int many)] = .ok (.fz (.int (drawW ds at_ many))) [box ds (at_ + 1), .fz (.int many)] := by
  have hb := hf at_
  cases h : ds[at_]? with
  | some d =>
    have h1 : (at_ : Int) < ds.length := by have := (List.getElem?_eq_some_iff.mp h).1; omega
    simp [mkFn0, mkFn, okArgs, env0, pinIx, dDr, box, List.replicate, h, h1, hm, drawW]
  | none =>
    have h1 : ¬ (at_ : Int) < ds.length := by have := List.getElem?_eq_none_iff.mp h; omega
    simp [mkFn0, mkFn, okArgs, env0, pinIx, dDr, box, List.replicate, h, h1, hm, drawW, hb]
theorem drawW_ok (ds : List Int) (at_ : Nat) (many : Int) (hm : 0 < many) : φ__law_draw [box ds at_, .fz (.int many)] = .ok (.fz (.int (drawW ds at_ many))) [box ds (at_ + 1), .fz (.int many)] := drawW_okG fMul mul7 ds at_ many hm
def p__law_draw (b : Bx) (many : Int) : Res (Int × Bx) := if 0 < many then .ok (drawW b.ds b.at_ many, ⟨b.ds, b.at_ + 1⟩) else .st
theorem ss__law_draw (b : Bx) (many : Int) : FS false (φ__law_draw [.ol (fzs (boxD b)), .fz (enc many)]) (p__law_draw b many) (fun t => .fz (enc t.1)) (fun t => [.ol (fzs (boxD t.2)), .fz (enc many)]) := by
  unfold p__law_draw
  split
  · rename_i h
    exact ⟨drawW_ok b.ds b.at_ many h⟩
  · exact ⟨trivial⟩
noncomputable def cellC (ns : List Int) (k : Nat) : Int := Classical.choose (cell_ok ns k)
noncomputable def p__law_cell (ns : List Int) (k : Int) : Res Int := if 0 ≤ k then .ok (cellC ns k.toNat) else .st
theorem ss__law_cell (ns : List Int) (k : Int) : FS false (φ__law_cell [.fz (.scr ns), .fz (enc k)]) (p__law_cell ns k) (fun t => .fz (enc t)) (fun _ => [.fz (.scr ns), .fz (enc k)]) := by
  unfold p__law_cell
  split
  · rename_i h
    obtain ⟨j, rfl⟩ := Int.eq_ofNat_of_zero_le h
    exact ⟨Classical.choose_spec (cell_ok ns j)⟩
  · exact ⟨trivial⟩
theorem drawW_lt (ds : List Int) (a : Nat) (m : Int) (h : 0 < m) : 0 ≤ drawW ds a m ∧ drawW ds a m < m := by
  unfold drawW
  split <;> exact ⟨Int.emod_nonneg _ (by omega), Int.emod_lt_of_pos _ h⟩
theorem hd_drw {β : Type} {b : Bx} {m : Int} {q : Int × Bx → Res β} {Q : β → Prop} (h : 0 < m) (k : ∀ v b, 0 ≤ v → v < m → Hd (q (v, b)) Q) : Hd ((p__law_draw b m).bind q) Q := by
  unfold p__law_draw
  rw [if_pos h, Res.bind_ok]
  exact k _ _ (drawW_lt _ _ _ h).1 (drawW_lt _ _ _ h).2
end V
set_option maxRecDepth 100000
set_option maxHeartbeats 4000000
namespace V
set_option autoImplicit false
open PySem L2 VF
open Enc (enc)
def d__law_row : M Fl := (dSeq (dSet 3 (dLst dNil))
  (dSeq (dIf (dT (dOp (fB fun i j => decide (i < j)) (dVar 0) (dC (.int 0)))) (dSet 0 (dOp (fI (· - ·)) (dC (.int 1)) (dOp fMul (dC (.int 2)) (dVar 0)))) dNext)
  (dSeq (dIf (dT (dOp (fB fun i j => decide (j ≤ i)) (dVar 0) (dOp fPow (dC (.int 10)) (dC (.int 18))))) (dSeq (dFor (dRng1 (dCons (dC (.int 60)) dNil)) (gN 5) (dIf (dAnd (dT (dOp (fB fun i j => decide (j < i)) (dVar 0) (dC (.int 0)))) (dT (dOp (fB fun i j => decide (i < j)) (dCB lenD (dCons (dVar 3) dNil)) (dVar 2)))) (dSeq (dDrop (dApp 3 (dOp fMod (dCB intD (dCons (dVar 0) dNil)) (dC (.int 1000)))))
  (dSet 0 (dOp fDiv (dVar 0) (dC (.int 1000))))) dNext))
  (dRet (dVar 3))) dNext)
  (dSeq (dSet 4 (dOp fMod (dCB intD (dCons (dOp (fI (· + ·)) (dOp (fI (· + ·)) (dOp fMul (dVar 0) (dC (.int 48271))) (dOp fMul (dVar 1) (dC (.int 69621)))) (dC (.int 11))) dNil)) (dC (.int 2147483647))))
  (dSeq (dFor (dRng1 (dCons (dVar 2) dNil)) (gN 5) (dSeq (dSet 4 (dOp fMod (dCB intD (dCons (dOp (fI (· + ·)) (dOp (fI (· + ·)) (dOp fMul (dVar 4) (dC (.int 16807))) (dOp fMul (dC (.int 7)) (dVar 5))) (dC (.int 1))) dNil)) (dC (.int 2147483647))))
  (dDrop (dApp 3 (dOp fMod (dCB intD (dCons (dOp fDiv (dVar 4) (dC (.int 997))) dNil)) (dC (.int 1000)))))))
  (dRet (dVar 3)))))))
def φ__law_row : Fn := mkFn0 [false, false, false] 6 d__law_row
def d__law_box : M Fl := (dSeq (dSet 3 (dLst dNil))
  (dSeq (dFor (dRng2 (dCons (dVar 1) (dCons (dVar 2) dNil))) (gN 4) (dSet 3 (dAddL (dVar 3) (dCall [false, false, false] φ__law_row (dCons (dCall [false, false] φ__law_cell (dCons (dVar 0) (dCons (dVar 4) dNil))) (dCons (dVar 4) (dCons (dC (.int 12)) dNil)))))))
  (dRet (dLst (dCons (dVar 3) (dCons (dC (.int 0)) dNil))))))
def φ__law_box : Fn := mkFn0 [false, false, false] 5 d__law_box
def p__law_row (cellH : Int) (k' : Int) (many : Int) : Res (List Int) :=
(Res.ok (([] : List Int) : List Int)).bind fun rowH =>
(if (decide (cellH < 0)) = true then
(Res.ok ((1 - (2 * cellH)) : Int)).bind fun cellH =>
Res.ok cellH
else
Res.ok cellH).bind fun cellH =>
(powR 10 18).bind fun t19 =>
if (decide (t19 ≤ cellH)) = true then
(rng1R 60).bind fun xs22 =>
(foldR (fun turn (cellH, rowH) =>
(if ((decide (0 < cellH)) && (decide ((rowH.length : Int) < many))) = true then
(appR rowH ((cellH % 1000))).bind fun rowH =>
(Res.ok ((cellH / 1000) : Int)).bind fun cellH =>
Res.ok (cellH, rowH)
else
Res.ok (cellH, rowH)).bind fun (cellH, rowH) =>
Res.ok (cellH, rowH)) xs22 (cellH, rowH)).bind fun (cellH, rowH) =>
Res.ok rowH
else
(Res.ok (((((cellH * 48271) + (k' * 69621)) + 11) % 2147483647) : Int)).bind fun seed =>
(rng1R many).bind fun xs70 =>
(foldR (fun turn (rowH, seed) =>
(Res.ok (((((seed * 16807) + (7 * turn)) + 1) % 2147483647) : Int)).bind fun seed =>
(appR rowH (((seed / 997) % 1000))).bind fun rowH =>
Res.ok (rowH, seed)) xs70 (rowH, seed)).bind fun (rowH, seed) =>
Res.ok rowH
theorem ss__law_row (cellH : Int) (k' : Int) (many : Int) : FS false (φ__law_row [.fz (enc cellH), .fz (enc k'), .fz (enc many)]) (p__law_row cellH k' many) (fun t => .ol (fzs (encs t))) (fun t => [.fz (enc cellH), .fz (enc k'), .fz (enc many)]) := by
  refine fs_mk0 [.fz (enc cellH), .fz (enc k'), .fz (enc many), .clr, .clr, .clr] rfl (by repeat (first | exact trivial | refine ⟨rfl, ?_⟩)) fun e0 h0 => ?_
  unfold p__law_row
  unfold d__law_row
  refine c_seq ?_
  refine c_set ?_
  refine c_pure h0 (p_lst pa_nil' .nil) fun r1 k2 => ?_
  refine f_setL (v := (([] : List Int) : List Int)) (fun v => .ol (encs v)) h0 k2 .w (by decide) fun rowH _ h3 => ?_
  try dsimp only [List.set_cons_zero, List.set_cons_succ] at h3
  refine c_nx ?_
  refine c_seq ?_
  refine c_if ?_
  refine c_pureB h3 (b_t (p_cmp (p_fz rfl) (p_c))) ?_
  refine f_ifJ h3 (fun (s : Int) => [.fz (enc s), .fz (enc k'), .fz (enc many), .ol (encs rowH), .clr, .clr]) (fun _ => ?_) (fun _ => ?_) ?_
  · refine c_set ?_
    refine c_pure h3 (p_int (p_c) (p_mulL (p_c) (p_fz rfl))) fun r8 k9 => ?_
    refine f_setL (v := ((1 - (2 * cellH)) : Int)) (fun v => .fz (enc v)) h3 k9 .f (by decide) fun cellH _ h10 => ?_
    try dsimp only [List.set_cons_zero, List.set_cons_succ] at h10
    exact f_jn h10
  · refine c_next ?_
    exact f_jn h3
  rintro cellH _ h12
  try dsimp only [List.set_cons_zero, List.set_cons_succ] at h12 ⊢
  refine c_nx ?_
  refine c_seq ?_
  refine c_if ?_
  refine c_t ?_
  refine c_op ?_
  refine c_pure h12 (p_fz rfl) fun r13 k14 => ?_
  refine c_op2 ?_
  refine c_op ?_
  refine c_pure h12 (p_c) fun r15 k16 => ?_
  refine c_op2 ?_
  refine c_pure h12 (p_c) fun r17 k18 => ?_
  refine f_pow h12 k16 k18 (kk := fun t19 => ?_)
  refine f_cmp h12 k14 rk_f (kk := ?_)
  refine f_t h12 rk_f ?_
  refine f_if (fun _ => ?_) (fun _ => ?_)
  · refine c_seq ?_
    refine c_for ?_
    refine c_rng1 ?_
    refine c_pureA h12 (pa_cons' (p_c) pa_nil') fun r20 k21 => ?_
    refine f_rng1' h12 k21 fun xs22 => ?_
    refine f_fold (fun (s : Int × List Int) => [.fz (enc s.1), .fz (enc k'), .fz (enc many), .ol (encs s.2), .clr, .cf]) (fun _ _ => tg_n) ?_ ?_ h12
    · rintro turn ⟨cellH, rowH⟩ _ h42
      try dsimp only [List.set_cons_zero, List.set_cons_succ] at h42 ⊢
      refine c_if ?_
      refine c_pureB h42 (b_and (b_t (p_cmp (p_fz rfl) (p_c))) (b_t (p_cmp (p_len (p_ol rfl)) (p_fz rfl)))) ?_
      refine f_ifJ h42 (fun (s : Int × List Int) => [.fz (enc s.1), .fz (enc k'), .fz (enc many), .ol (encs s.2), .clr, .fz (enc turn)]) (fun _ => ?_) (fun _ => ?_) ?_
      · refine c_seq ?_
        refine c_drop ?_
        refine c_app (ds := encs rowH) h42 rfl ?_
        refine c_pure h42 (p_modK (p_toInt (p_fz rfl)) (p_c) (h := by decide)) fun r52 k53 => ?_
        refine f_app (xs := rowH) (v := (cellH % 1000)) h42 k53 .f rfl fun rowH r54 _ k55 h56 => ?_
        try dsimp only [List.set_cons_zero, List.set_cons_succ] at h56
        refine f_drop ?_
        refine c_nx ?_
        refine c_set ?_
        refine c_pure h56 (p_divK (p_fz rfl) (p_c) (h := by decide)) fun r57 k58 => ?_
        refine f_setL (v := ((cellH / 1000) : Int)) (fun v => .fz (enc v)) h56 k58 .f (by decide) fun cellH _ h59 => ?_
        try dsimp only [List.set_cons_zero, List.set_cons_succ] at h59
        exact f_jn h59
      · refine c_next ?_
        exact f_jn h42
      rintro ⟨cellH, rowH⟩ _ h61
      try dsimp only [List.set_cons_zero, List.set_cons_succ] at h61 ⊢
      exact f_jc h61
    rintro ⟨cellH, rowH⟩ _ h62
    try dsimp only [List.set_cons_zero, List.set_cons_succ] at h62 ⊢
    refine c_nx ?_
    refine c_ret ?_
    refine c_pure h62 (p_ol rfl) fun r63 k64 => ?_
    refine f_ret ?_
    exact f_rt h62 k64 (.v rfl (by decide)) (.f (.f (.f .nil)))
  · refine c_next ?_
    refine c_nx ?_
    refine c_seq ?_
    refine c_set ?_
    refine c_pure h12 (p_modK (p_toInt (p_int (p_int (p_mulR (p_fz rfl) (p_c)) (p_mulR (p_fz rfl) (p_c))) (p_c))) (p_c) (h := by decide)) fun r65 k66 => ?_
    refine f_setL (v := (((((cellH * 48271) + (k' * 69621)) + 11) % 2147483647) : Int)) (fun v => .fz (enc v)) h12 k66 .f (by decide) fun seed _ h67 => ?_
    try dsimp only [List.set_cons_zero, List.set_cons_succ] at h67
    refine c_nx ?_
    refine c_seq ?_
    refine c_for ?_
    refine c_rng1 ?_
    refine c_pureA h67 (pa_cons' (p_fz rfl) pa_nil') fun r68 k69 => ?_
    refine f_rng1' h67 k69 fun xs70 => ?_
    refine f_fold (fun (s : List Int × Int) => [.fz (enc cellH), .fz (enc k'), .fz (enc many), .ol (encs s.1), .fz (enc s.2), .cf]) (fun _ _ => tg_n) ?_ ?_ h67
    · rintro turn ⟨rowH, seed⟩ _ h80
      try dsimp only [List.set_cons_zero, List.set_cons_succ] at h80 ⊢
      refine c_seq ?_
      refine c_set ?_
      refine c_pure h80 (p_modK (p_toInt (p_int (p_int (p_mulR (p_fz rfl) (p_c)) (p_mulL (p_c) (p_fz rfl))) (p_c))) (p_c) (h := by decide)) fun r81 k82 => ?_
      refine f_setL (v := (((((seed * 16807) + (7 * turn)) + 1) % 2147483647) : Int)) (fun v => .fz (enc v)) h80 k82 .f (by decide) fun seed _ h83 => ?_
      try dsimp only [List.set_cons_zero, List.set_cons_succ] at h83
      refine c_nx ?_
      refine c_drop ?_
      refine c_app (ds := encs rowH) h83 rfl ?_
      refine c_pure h83 (p_modK (p_toInt (p_divK (p_fz rfl) (p_c) (h := by decide))) (p_c) (h := by decide)) fun r84 k85 => ?_
      refine f_app (xs := rowH) (v := ((seed / 997) % 1000)) h83 k85 .f rfl fun rowH r86 _ k87 h88 => ?_
      try dsimp only [List.set_cons_zero, List.set_cons_succ] at h88
      refine f_drop ?_
      exact f_jc h88
    rintro ⟨rowH, seed⟩ _ h90
    try dsimp only [List.set_cons_zero, List.set_cons_succ] at h90 ⊢
    refine c_nx ?_
    refine c_ret ?_
    refine c_pure h90 (p_ol rfl) fun r91 k92 => ?_
    refine f_ret ?_
    exact f_rt h90 k92 (.v rfl (by decide)) (.f (.f (.f .nil)))
noncomputable def p__law_box (script : List Int) (first : Int) (last : Int) : Res Bx :=
(Res.ok (([] : List Int) : List Int)).bind fun rowH =>
(rngR first last).bind fun xs6 =>
(foldR (fun k' rowH =>
(p__law_cell script k').bind fun t36 =>
(p__law_row t36 k' 12).bind fun t44 =>
(catR rowH t44).bind fun t48 =>
(Res.ok (t48 : List Int)).bind fun rowH =>
Res.ok rowH) xs6 rowH).bind fun rowH =>
Res.ok (Bx.mk rowH 0)
theorem ss__law_box (script : List Int) (first : Int) (last : Int) : FS false (φ__law_box [.fz (.scr script), .fz (enc first), .fz (enc last)]) (p__law_box script first last) (fun t => .ol (fzs (boxD t))) (fun t => [.fz (.scr script), .fz (enc first), .fz (enc last)]) := by
  refine fs_mk0 [.fz (.scr script), .fz (enc first), .fz (enc last), .clr, .clr] rfl (by repeat (first | exact trivial | refine ⟨rfl, ?_⟩)) fun e0 h0 => ?_
  unfold p__law_box
  unfold d__law_box
  refine c_seq ?_
  refine c_set ?_
  refine c_pure h0 (p_lst pa_nil' .nil) fun r1 k2 => ?_
  refine f_setL (v := (([] : List Int) : List Int)) (fun v => .ol (encs v)) h0 k2 .w (by decide) fun rowH _ h3 => ?_
  try dsimp only [List.set_cons_zero, List.set_cons_succ] at h3
  refine c_nx ?_
  refine c_seq ?_
  refine c_for ?_
  refine c_rng2 ?_
  refine c_pureA h3 (pa_cons' (p_fz rfl) (pa_cons' (p_fz rfl) pa_nil')) fun r4 k5 => ?_
  refine f_rng2' h3 k5 fun xs6 => ?_
  refine f_fold (fun (s : List Int) => [.fz (.scr script), .fz (enc first), .fz (enc last), .ol (encs s), .cf]) (fun _ _ => tg_n) ?_ ?_ h3
  · rintro k' rowH _ h30
    try dsimp only [List.set_cons_zero, List.set_cons_succ] at h30 ⊢
    refine c_set ?_
    refine c_addL ?_
    refine c_pure h30 (p_ol rfl) fun r31 k32 => ?_
    refine f_addL1 (xs := rowH) h30 k32 (.v rfl) fun _ h33 => ?_
    refine c_call ?_
    refine c_cons ?_
    refine c_call ?_
    refine c_pureA h33 (pa_cons' (p_fz rfl) (pa_cons' (p_fz rfl) pa_nil')) fun r34 k35 => ?_
    refine f_call h33 k35 (.f .f (.f .f .nil)) (ss__law_cell script k') (fun _ => (.f (.f .nil))) (fun _ => rk_f) fun t36 r37 _ k38 h39 => ?_
    try dsimp only [List.set_cons_zero, List.set_cons_succ] at h39
    refine c_cons2 ?_
    refine c_cons ?_
    refine c_pure h39 (p_fz rfl) fun r40 k41 => ?_
    refine c_cons2 ?_
    refine c_cons ?_
    refine c_pure h39 (p_c) fun r42 k43 => ?_
    refine c_cons2 ?_
    refine c_nil ?_
    refine f_cons ?_
    refine f_cons ?_
    refine f_cons ?_
    refine f_call h39 (rks k38 (rks k41 (rks k43 rks0))) (.f .f (.f .f (.f .f .nil))) (ss__law_row t36 k' 12) (fun _ => (.f (.f (.f .nil)))) (fun _ => rk_w) fun t44 r45 _ k46 h47 => ?_
    try dsimp only [List.set_cons_zero, List.set_cons_succ] at h47
    refine f_addL2 h47 k46 .w fun t48 r49 _ k50 h51 => ?_
    refine f_setL (v := (t48 : List Int)) (fun v => .ol (encs v)) h51 k50 .w (by decide) fun rowH _ h52 => ?_
    try dsimp only [List.set_cons_zero, List.set_cons_succ] at h52
    exact f_jc h52
  rintro rowH _ h54
  try dsimp only [List.set_cons_zero, List.set_cons_succ] at h54 ⊢
  refine c_nx ?_
  refine c_ret ?_
  refine c_lst ?_
  refine c_pureA h54 (pa_cons' (p_ol rfl) (pa_cons' (p_c) pa_nil')) fun r55 k56 => ?_
  refine f_lst h54 k56 (.cons (.v rfl) (.cons .f .nil)) (Nat.le_of_ble_eq_true rfl) fun r57 _ k58 h59 => ?_
  refine f_ret ?_
  exact f_rt h59 k58 .w (.f (.f (.f .nil)))
end V
set_option maxRecDepth 100000
set_option maxHeartbeats 4000000
namespace V
set_option autoImplicit false
open PySem L2 VF
theorem p18 : powR 10 18 = .ok (10 ^ 18) := by unfold powR; rw [okPow_eq]; rfl
theorem row_hd (c k : Int) : Hd (p__law_row c k 12) fun L => L.length ≤ 60 := by
  unfold p__law_row
  rw [Res.bind_ok]
  refine Hd.bind (R := fun _ => True) (by split <;> exact ⟨_, rfl, trivial⟩) fun c _ => ?_
  rw [p18, Res.bind_ok]
  split
  · rw [rng1_ok (by omega) (by omega), Res.bind_ok]
    refine (foldR_hd (fun i (s : Int × List Int) => s.2.length ≤ i) (Nat.le_refl _) fun i hi s hs => ?_).bind fun s hs => Hd.ok (by rw [irng_len] at hs; exact hs)
    obtain ⟨c, L⟩ := s
    rw [irng_len] at hi
    dsimp only at hs ⊢
    have hi' : i < 60 := hi
    split
    · rw [appR_ok (by omega), Res.bind_ok, Res.bind_ok, Res.bind_ok]
      exact Hd.ok (by simp; omega)
    · rw [Res.bind_ok]
      exact Hd.ok (by dsimp only; omega)
  · rw [Res.bind_ok, rng1_ok (by omega) (by omega), Res.bind_ok]
    refine (foldR_hd (fun i (s : List Int × Int) => s.1.length ≤ i) (Nat.le_refl _) fun i hi s hs => ?_).bind fun s hs => Hd.ok (by rw [irng_len] at hs; exact Nat.le_trans hs (by decide))
    obtain ⟨L, c⟩ := s
    rw [irng_len] at hi
    dsimp only at hs ⊢
    have hi' : i < 12 := hi
    rw [Res.bind_ok, appR_ok (by omega), Res.bind_ok]
    exact Hd.ok (by simp; omega)
theorem box_hd (ns : List Int) {j : Int} (h0 : 0 ≤ j) (h1 : j ≤ 1000) : Hd (p__law_box ns 0 j) fun _ => True := by
  unfold p__law_box
  rw [Res.bind_ok, rng_ok (by omega) (by omega) (by omega) (by omega), Res.bind_ok]
  refine (foldR_hd (fun i (L : List Int) => L.length ≤ 60 * i) (Nat.le_refl _) fun i hi L hL => ?_).bind fun L _ => Hd.ok trivial
  rw [irng_len] at hi
  have ex : (irng 0 (j - 0).toNat)[i]'(by rw [irng_len]; exact hi) = (i : Int) := by simp [irng]
  rw [ex]
  have hc : p__law_cell ns (i : Int) = .ok (cellC ns i) := by unfold p__law_cell; rw [if_pos (by omega), Int.toNat_natCast]
  rw [hc, Res.bind_ok]
  refine (row_hd _ _).bind fun M hM => ?_
  rw [catR_ok (by omega), Res.bind_ok, Res.bind_ok]
  exact Hd.ok (by simp; omega)
end V
set_option maxRecDepth 100000
set_option maxHeartbeats 4000000
namespace V
set_option autoImplicit false
open PySem L2 VF
open Enc (enc)
section
variable {α γ ω ψ : Type} {pn : List Nat} {S S' S1 : List SD} {e : VF.Env} {X : Exc → VF.Env → Prop} {P : Res α} {G : α → γ → VF.Env → Prop} {oa ob : Opd}
end
def d__law_same : M Fl := (dRet (dOp fEqS (dCB reprD (dCons (dVar 0) dNil)) (dCB reprD (dCons (dVar 1) dNil))))
def φ__law_same : Fn := mkFn0 [false, false] 2 d__law_same
def showD (d : D) : Option Str := (toP d).bind fun p => if shownOk p = true then some p.shown else none
theorem reprD_show (d : D) : reprD [d] = (showD d).map D.str := by
  show (match toP d with | some p => if shownOk p = true then some (D.str p.shown) else none | none => none) = _
  unfold showD
  cases toP d with
  | none => rfl
  | some p => simp only [Option.bind_some]; split <;> rfl
def p__law_same {α β : Type} [Enc α] [Enc β] (a : α) (b : β) : Res Bool := match showD (enc a), showD (enc b) with
  | some x, some y => .ok (decide (x = y))
  | _, _ => .st
theorem same_ok (f g : D → D → Option D) (r : List D → Option D) (da db : D) (x y : Str) (c : Bool) (h1 : r [da] = some (.str x)) (h2 : r [db] = some (.str y)) (h3 : f (.str x) (.str y) = some (.bl c)) : mkFn0 [false, false] 2 (dRet (dOp f (dCB r (dCons (dVar 0) dNil)) (dCB r (dCons (dVar 1) dNil)))) [.fz da, .fz db] = .ok (.fz (.bl c)) [.fz da, .fz db] := by
  simp [mkFn0, mkFn, okArgs, env0, pinIx, List.replicate, h1, h2, h3]
theorem ss__law_same {α β : Type} [Enc α] [Enc β] (a : α) (b : β) : FS false (φ__law_same [.fz (enc a), .fz (enc b)]) (p__law_same a b) (fun t => .fz (enc t)) (fun _ => [.fz (enc a), .fz (enc b)]) := by
  unfold p__law_same
  cases h1 : showD (enc a) with
  | none => exact ⟨trivial⟩
  | some x =>
    cases h2 : showD (enc b) with
    | none => exact ⟨trivial⟩
    | some y => exact ⟨same_ok fEqS fEqS reprD _ _ x y (decide (x = y)) (by rw [reprD_show, h1]; rfl) (by rw [reprD_show, h2]; rfl) rfl⟩
theorem same_eq {α β : Type} [Enc α] [Enc β] {a : α} {b : β} {x : Str} (h : showD (enc a) = some x) (e : enc a = enc b) : p__law_same a b = .ok true := by
  unfold p__law_same
  rw [← e, h]
  simp
end V
set_option maxRecDepth 100000
set_option maxHeartbeats 4000000
namespace V
set_option autoImplicit false
open PySem L2 VF
open Enc (enc)
section
variable {α σ τ : Type}
@[simp] theorem noX_raise {p : Res α} {x : Exc} (h : p = .ex x) : noX p = .st := by rw [h]; rfl
end
end V
set_option maxRecDepth 100000
set_option maxHeartbeats 4000000
namespace V
set_option autoImplicit false
open PySem L2 VF
open Enc (enc)
end V
set_option maxRecDepth 100000
set_option maxHeartbeats 4000000
namespace V
set_option autoImplicit false
open PySem L2 VF
open Enc (enc)
theorem small_logN {n : Nat} (h : n < 2 ^ 40) : n.log2 < 40 := by
  by_cases c : n = 0
  · subst c; decide
  · exact (Nat.log2_lt c).mpr h
section
variable {α β γ : Type}
structure ShP (k w : Nat) (p : PyData) : Prop where
  a : p.showable = true
  b : p.hasDict = false
  c : p.canLay0 = true
  d : p.depth ≤ k
  e : p.weight ≤ w
  f : p.intsShort 13 = true
def Sh (k w : Nat) (d : D) : Prop := ∃ p, toP d = some p ∧ ShP k w p
theorem Sh.le {k w k' w' : Nat} {d : D} (h : Sh k w d) (hk : k ≤ k') (hw : w ≤ w') : Sh k' w' d := by
  obtain ⟨p, h1, h2⟩ := h
  exact ⟨p, h1, h2.a, h2.b, h2.c, Nat.le_trans h2.d hk, Nat.le_trans h2.e hw, h2.f⟩
theorem Sh.show {k w : Nat} {d : D} (h : Sh k w d) (hk : k ≤ 60 := by decide) (hw : w ≤ 1000000 := by decide) : ∃ t, showD d = some t := by
  obtain ⟨p, e, h⟩ := h
  refine ⟨p.shown, ?_⟩
  unfold showD
  rw [e]
  show (if shownOk _ = true then some _ else none) = _
  rw [if_pos]
  have hd := h.d
  have he := h.e
  have hl : PyData.layable0 p = true := by
    unfold PyData.layable0
    rw [h.c, decide_eq_true (show p.depth ≤ 64 by omega), decide_eq_true (show p.weight ≤ 2 ^ 20 by omega)]
    rfl
  have h4 : p.shown.length ≤ sizeLine := PyData.shown_fits_of_layable0 (B := 13) (by decide) (by decide) hl h.f
  unfold shownOk
  rw [h.a, h.b, decide_eq_true (show p.depth ≤ 60 by omega), decide_eq_true h4]
  rfl
theorem Sh.int {i : Int} (h : i.natAbs < 10 ^ 12) : Sh 0 41 (.int i) := by
  have l := small_logN (Nat.lt_trans h (show 10 ^ 12 < 2 ^ 40 by decide))
  refine ⟨.int i, rfl, ?_, rfl, by simp [PyData.canLay0], Nat.le_refl _, ?_, ?_⟩
  · simp only [PyData.showable, decide_eq_true_eq]; omega
  · simp only [PyData.weight]; split <;> omega
  · have := PyData.intsShortAll_ints [i] (by simpa using h)
    simp only [List.map_cons, PyData.intsShortAll, Bool.and_eq_true] at this
    exact this.1
theorem Sh.bl (b : Bool) : Sh 0 41 (.bl b) := ⟨.bool b, rfl, rfl, rfl, by simp [PyData.canLay0], Nat.le_refl _, by simp [PyData.weight], rfl⟩
theorem Sh.non : Sh 0 41 .non := ⟨.none, rfl, rfl, rfl, by simp [PyData.canLay0], Nat.le_refl _, by simp [PyData.weight], rfl⟩
theorem Sh.str {s : Str} (h : PyData.canLay0 (.str s) = true) (h2 : s.cps.size ≤ 41) : Sh 0 41 (.str s) := ⟨.str s, rfl, rfl, rfl, h, Nat.le_refl _, h2, rfl⟩
theorem Shs {k w : Nat} : ∀ {ds : List D}, (∀ d ∈ ds, Sh k w d) → ∃ ps, toPs ds = some ps ∧ PyData.showableAll ps = true ∧ PyData.hasDictAll ps = false ∧ PyData.canLayAll0 ps = true ∧ PyData.depthAll ps ≤ k ∧ PyData.weightAll ps ≤ (w + 1) * ds.length ∧ PyData.intsShortAll 13 ps = true
  | [], _ => ⟨[], rfl, rfl, rfl, rfl, Nat.zero_le _, Nat.zero_le _, rfl⟩
  | d :: ds, h => by
    obtain ⟨ps, h0, h1, h2, h3, h4, h5, h6⟩ := Shs (ds := ds) fun x hx => h x (List.mem_cons_of_mem _ hx)
    obtain ⟨p, q0, q⟩ := h d List.mem_cons_self
    refine ⟨p :: ps, ?_, ?_, ?_, ?_, ?_, ?_, ?_⟩
    · show (match toP d, toPs ds with | some p, some ps => some (p :: ps) | _, _ => none) = _
      rw [q0, h0]
    · simp only [PyData.showableAll, q.a, h1, Bool.and_self]
    · simp only [PyData.hasDictAll, q.b, h2, Bool.or_self]
    · simp only [PyData.canLayAll0, q.c, h3, Bool.and_self]
    · simp only [PyData.depthAll]; exact Nat.max_le.mpr ⟨q.d, h4⟩
    · have := q.e
      simp only [PyData.weightAll, List.length_cons, Nat.mul_add, Nat.mul_one]; omega
    · simp only [PyData.intsShortAll, q.f, h6, Bool.and_self]
theorem Sh.lst {k w n : Nat} {ds : List D} (h : ∀ d ∈ ds, Sh k w d) (hn : ds.length ≤ n) : Sh (k + 1) ((w + 1) * n) (.lst ds) := by
  obtain ⟨ps, h0, h1, h2, h3, h4, h5, h6⟩ := Shs h
  refine ⟨.list ps, by show (toPs ds).map _ = _; rw [h0]; rfl, by simpa only [PyData.showable] using h1, by simpa only [PyData.hasDict] using h2, by simpa only [PyData.canLay0] using h3, by simp only [PyData.depth]; omega, ?_, by simpa only [PyData.intsShort] using h6⟩
  simp only [PyData.weight]
  exact Nat.le_trans h5 (Nat.mul_le_mul_left _ hn)
theorem Sh.tup {k w n : Nat} {ds : List D} (h : ∀ d ∈ ds, Sh k w d) (hn : ds.length ≤ n) : Sh (k + 1) ((w + 1) * n) (.tup ds) := by
  obtain ⟨ps, h0, h1, h2, h3, h4, h5, h6⟩ := Shs h
  refine ⟨.tuple ps, by show (toPs ds).map _ = _; rw [h0]; rfl, by simpa only [PyData.showable] using h1, by simpa only [PyData.hasDict] using h2, by simpa only [PyData.canLay0] using h3, by simp only [PyData.depth]; omega, ?_, by simpa only [PyData.intsShort] using h6⟩
  simp only [PyData.weight]
  exact Nat.le_trans h5 (Nat.mul_le_mul_left _ hn)
theorem Sh.list [Enc α] {k w n : Nat} {xs : List α} (h : ∀ x ∈ xs, Sh k w (enc x)) (hn : xs.length ≤ n) : Sh (k + 1) ((w + 1) * n) (enc xs) :=
  Sh.lst (ds := xs.map enc) (fun d hd => by obtain ⟨x, hx, rfl⟩ := List.mem_map.mp hd; exact h x hx) (by simpa using hn)
theorem Sh.encI {i : Int} (h : i.natAbs < 10 ^ 12) : Sh 0 41 (enc i) := Sh.int h
theorem Sh.t3 [Enc α] [Enc β] [Enc γ] {k w : Nat} {a : α} {b : β} {c : γ} (h : Sh k w (enc a)) (h2 : Sh k w (enc b)) (h3 : Sh k w (enc c)) : Sh (k + 1) ((w + 1) * 3) (enc (⟨a, b, c⟩ : T3 α β γ)) :=
  Sh.tup (ds := [enc a, enc b, enc c]) (fun d hd => by
    rcases List.mem_cons.mp hd with rfl | hd
    · exact h
    · rcases List.mem_cons.mp hd with rfl | hd
      · exact h2
      · rcases List.mem_cons.mp hd with rfl | hd
        · exact h3
        · cases hd) (Nat.le_refl _)
end
end V
set_option maxRecDepth 100000
set_option maxHeartbeats 4000000
namespace VF
set_option autoImplicit false
open PySem L2
open Enc (enc)
section
variable {α β γ δ σ τ ω ψ : Type} {pn : List Nat} {S S' S1 S2 : List SD} {e : Env} {X : Exc → Env → Prop} {P : Res α} {G : α → γ → Env → Prop} {r q : RV} {o oa ob oc : Opd} {d : D}
inductive LdO : List SD → List Opd → List SV → List SD → Prop
  | nil {S : List SD} : LdO S [] [] S
  | f {S S2 : List SD} {d : D} {os : List Opd} {ss : List SV} : LdO S os ss S2 → LdO S (.f d :: os) (.fz d :: ss) S2
  | v {S S2 : List SD} {i : Nat} {ds : List D} {os : List Opd} {ss : List SV} : S[i]? = some (.ol ds) → LdO (S.set i (.fz (.lst ds))) os ss S2 → LdO S (.v i :: os) (.fz (.lst ds) :: ss) S2
  | w {S S2 : List SD} {ds : List D} {os : List Opd} {ss : List SV} : LdO S os ss S2 → LdO S (.w ds :: os) (.ol (fzs ds) :: ss) S2
theorem LdO.keep {os : List Opd} {ss : List SV} (q : LdO S os ss S') : ∀ {e : Env} {rs : List RV}, Has pn S e → ROks rs os → ∃ e', keepAll rs e = some (ss, e') ∧ Has pn S' e' := by
  induction q with
  | nil => intro e rs h k; cases rs with
    | nil => exact ⟨e, rfl, h⟩
    | cons _ _ => exact k.elim
  | f q2 ih => intro e rs h k; cases rs with
    | nil => exact k.elim
    | cons r rs =>
      obtain ⟨k1, k2⟩ := k
      cases k1
      obtain ⟨e2, h3, h4⟩ := ih h k2
      exact ⟨e2, by unfold keepAll keepOne; simp only [frzR, h3], h4⟩
  | v q1 q2 ih => intro e rs h k; cases rs with
    | nil => exact k.elim
    | cons r rs =>
      obtain ⟨k1, k2⟩ := k
      obtain ⟨e1, h1, h2⟩ := (Fz.v q1).frz h k1
      cases k1
      obtain ⟨e2, h3, h4⟩ := ih h2 k2
      exact ⟨e2, by unfold keepAll keepOne; simp only [h1, h3], h4⟩
  | w q2 ih => intro e rs h k; cases rs with
    | nil => exact k.elim
    | cons r rs =>
      obtain ⟨k1, k2⟩ := k
      cases k1
      obtain ⟨e2, h3, h4⟩ := ih h k2
      exact ⟨e2, by unfold keepAll keepOne; simp only [h3], h4⟩
end
end VF
set_option maxRecDepth 100000
set_option maxHeartbeats 4000000
namespace VF
set_option autoImplicit false
open PySem L2
open Enc (enc)
inductive Hole where
  | mk
instance : Enc Hole := ⟨fun _ => .hl⟩
structure K_DH_world where
  prime : Int
  mixers : Int
  family : List (List Int)
  votes : List Int
  numbers : List Int
  box : Hole
section
variable {α β γ δ σ τ ω ψ : Type} {pn : List Nat} {S S' S1 S2 : List SD} {e : Env} {X : Exc → Env → Prop} {P : Res α} {G : α → γ → Env → Prop} {r q : RV} {o oa ob oc : Opd} {d : D}
end
end VF
set_option maxRecDepth 100000
set_option maxHeartbeats 4000000
namespace VF
set_option autoImplicit false
open PySem L2
open Enc (enc)
instance {α β : Type} [Enc α] [LayE α] [Enc β] [LayE β] : LayE (α × β) := ⟨fun a p h => by
  have h' : (toPs [enc a.1, enc a.2]).map PyData.tuple = some p := h
  obtain ⟨x, y⟩ := a
  cases z1 : toP (enc x) with
  | none => simp only [toPs, z1] at h'; cases h'
  | some q1 => cases z2 : toP (enc y) with
    | none => simp only [toPs, z1, z2] at h'; cases h'
    | some q2 =>
      simp only [toPs, z1, z2] at h'
      cases h'
      simp only [PyData.canLay0, PyData.canLayAll0, LayE.can x q1 z1, LayE.can y q2 z2, Bool.and_self]⟩
section
variable {α β γ δ σ τ ω ψ : Type} {pn : List Nat} {S S' S1 S2 : List SD} {e : Env} {X : Exc → Env → Prop} {P : Res α} {G : α → γ → Env → Prop} {r q : RV} {o oa ob oc : Opd} {d : D}
end
end VF
set_option maxRecDepth 100000
set_option maxHeartbeats 4000000
namespace V
set_option autoImplicit false
open PySem L2 VF
open Enc (enc)
section
variable {ω : Type} [DecidableEq ω]
structure PInv (rows P : List (List ω)) : Prop where
  nd : P.flatten.Nodup
  ne : ∀ p ∈ P, p ≠ []
  mem : ∀ e, (∃ p ∈ P, e ∈ p) ↔ ∃ r ∈ rows, e ∈ r
  row : ∀ r ∈ rows, ∀ a ∈ r, ∀ b ∈ r, ∀ p ∈ P, a ∈ p → b ∈ p
  conn : ∀ f : ω → Prop, (∀ r ∈ rows, ∀ a ∈ r, ∀ b ∈ r, f a → f b) → ∀ p ∈ P, ∀ a ∈ p, ∀ b ∈ p, f a → f b
theorem PInv.nil : PInv ([] : List (List ω)) [] := ⟨List.nodup_nil, fun _ h => absurd h (by simp), fun e => by simp, fun _ h => absurd h (by simp), fun _ _ _ h => absurd h (by simp)⟩
theorem PInv.skip {rows P : List (List ω)} (h : PInv rows P) : PInv (rows ++ [[]]) P := by
  have e : ∀ r : List ω, r ∈ rows ++ [[]] → r = [] ∨ r ∈ rows := fun r hr => by
    rcases List.mem_append.mp hr with q | q
    · exact .inr q
    · exact .inl (List.mem_singleton.mp q)
  refine ⟨h.nd, h.ne, fun x => ?_, fun r hr a ha => ?_, fun f hf => h.conn f fun r hr => hf r (List.mem_append_left _ hr)⟩
  · rw [h.mem]
    constructor
    · rintro ⟨r, hr, hx⟩
      exact ⟨r, List.mem_append_left _ hr, hx⟩
    · rintro ⟨r, hr, hx⟩
      rcases e r hr with rfl | hr
      · cases hx
      · exact ⟨r, hr, hx⟩
  · rcases e r hr with rfl | hr
    · cases ha
    · exact h.row r hr a ha
def tch (ends p : List ω) : Bool := ends.any fun e => decide (e ∈ p)
theorem tch_iff {ends p : List ω} : tch ends p = true ↔ ∃ e ∈ ends, e ∈ p := by simp [tch]
def addN (w ends : List ω) : List ω := ends.foldl (fun w e => if e ∈ w then w else w ++ [e]) w
theorem addN_mem (x : ω) : ∀ (ends w : List ω), x ∈ addN w ends ↔ x ∈ w ∨ x ∈ ends
  | [], w => by simp [addN]
  | e :: ends, w => by
    show x ∈ addN (if e ∈ w then w else w ++ [e]) ends ↔ _
    rw [addN_mem x ends]
    by_cases c : e ∈ w
    · rw [if_pos c]
      constructor
      · rintro (h | h)
        · exact .inl h
        · exact .inr (List.mem_cons_of_mem _ h)
      · rintro (h | h)
        · exact .inl h
        · rcases List.mem_cons.mp h with rfl | h
          · exact .inl c
          · exact .inr h
    · rw [if_neg c]; simp only [List.mem_append, List.mem_singleton, List.mem_cons, or_assoc, List.not_mem_nil, false_or]
theorem addN_nd : ∀ (ends w : List ω), w.Nodup → (addN w ends).Nodup
  | [], w, h => h
  | e :: ends, w, h => by
    show (addN (if e ∈ w then w else w ++ [e]) ends).Nodup
    by_cases c : e ∈ w
    · rw [if_pos c]; exact addN_nd ends w h
    · rw [if_neg c]
      refine addN_nd ends _ (List.nodup_append.mpr ⟨h, by simp, fun a ha b hb => ?_⟩)
      rw [List.mem_singleton] at hb
      subst hb
      exact fun z => c (z ▸ ha)
def joinP (P : List (List ω)) (ends : List ω) : List (List ω) := P.filter (fun p => !tch ends p) ++ [addN (P.filter (tch ends)).flatten ends]
theorem flat_mem {P : List (List ω)} {x : ω} : x ∈ P.flatten ↔ ∃ p ∈ P, x ∈ p := List.mem_flatten
theorem fil_sub (c : List ω → Bool) : ∀ P : List (List ω), (P.filter c).flatten.Sublist P.flatten
  | [] => .slnil
  | p :: P => by
    rw [List.filter_cons]
    by_cases h : c p = true
    · rw [if_pos h, List.flatten_cons, List.flatten_cons]
      exact (List.Sublist.refl p).append (fil_sub c P)
    · rw [if_neg h, List.flatten_cons]
      exact (fil_sub c P).trans (List.sublist_append_right _ _)
theorem PInv.join {rows P : List (List ω)} (h : PInv rows P) {ends : List ω} (hn : ends ≠ []) : PInv (rows ++ [ends]) (joinP P ends) := by
  have dj := (List.pairwise_flatten.mp h.nd)
  have inw : ∀ x, x ∈ (P.filter (tch ends)).flatten ↔ ∃ p ∈ P, (∃ e ∈ ends, e ∈ p) ∧ x ∈ p := fun x => by
    rw [flat_mem]
    constructor
    · rintro ⟨p, hp, hx⟩
      obtain ⟨h1, h2⟩ := List.mem_filter.mp hp
      exact ⟨p, h1, tch_iff.mp h2, hx⟩
    · rintro ⟨p, h1, h2, hx⟩
      exact ⟨p, List.mem_filter.mpr ⟨h1, tch_iff.mpr h2⟩, hx⟩
  have ino : ∀ p, p ∈ P.filter (fun p => !tch ends p) ↔ p ∈ P ∧ ∀ e ∈ ends, e ∉ p := fun p => by
    rw [List.mem_filter]
    constructor
    · rintro ⟨h1, h2⟩
      refine ⟨h1, fun e he hp => ?_⟩
      rw [tch_iff.mpr ⟨e, he, hp⟩] at h2
      cases h2
    · rintro ⟨h1, h2⟩
      refine ⟨h1, ?_⟩
      cases z : tch ends p with
      | false => rfl
      | true =>
        obtain ⟨e, he, hp⟩ := tch_iff.mp z
        exact absurd hp (h2 e he)
  have inj : ∀ p, p ∈ joinP P ends ↔ (p ∈ P ∧ ∀ e ∈ ends, e ∉ p) ∨ p = addN (P.filter (tch ends)).flatten ends := fun p => by
    unfold joinP
    rw [List.mem_append, ino, List.mem_singleton]
  have inW : ∀ x, x ∈ addN (P.filter (tch ends)).flatten ends ↔ (∃ p ∈ P, (∃ e ∈ ends, e ∈ p) ∧ x ∈ p) ∨ x ∈ ends := fun x => by rw [addN_mem, inw]
  have memP : ∀ e, (∃ p ∈ joinP P ends, e ∈ p) ↔ (∃ p ∈ P, e ∈ p) ∨ e ∈ ends := fun e => by
    constructor
    · rintro ⟨p, hp, he⟩
      rcases (inj p).mp hp with ⟨h1, _⟩ | rfl
      · exact .inl ⟨p, h1, he⟩
      · rcases (inW e).mp he with ⟨q, h1, _, h2⟩ | h1
        · exact .inl ⟨q, h1, h2⟩
        · exact .inr h1
    · rintro (⟨p, hp, he⟩ | he)
      · by_cases c : ∃ x ∈ ends, x ∈ p
        · exact ⟨_, (inj _).mpr (.inr rfl), (inW e).mpr (.inl ⟨p, hp, c, he⟩)⟩
        · exact ⟨p, (inj p).mpr (.inl ⟨hp, fun x hx hq => c ⟨x, hx, hq⟩⟩), he⟩
      · exact ⟨_, (inj _).mpr (.inr rfl), (inW e).mpr (.inr he)⟩
  refine ⟨?_, fun p hp => ?_, fun e => ?_, fun r hr a ha b hb p hp hap => ?_, fun f hf p hp a ha b hb fa => ?_⟩
  · -- no end twice
    have n1 : (P.filter (fun p => !tch ends p)).flatten.Nodup := (fil_sub _ P).nodup h.nd
    have n2 : (P.filter (tch ends)).flatten.Nodup := (fil_sub _ P).nodup h.nd
    unfold joinP
    rw [List.flatten_append]
    refine List.nodup_append.mpr ⟨n1, ?_, fun a ha b hb z => ?_⟩
    · show ([addN (P.filter (tch ends)).flatten ends].flatten).Nodup
      rw [List.flatten_cons, List.flatten_nil, List.append_nil]
      exact addN_nd _ _ n2
    · subst z
      obtain ⟨p, hp, hap⟩ := flat_mem.mp ha
      obtain ⟨h1, h2⟩ := (ino p).mp hp
      rw [List.flatten_cons, List.flatten_nil, List.append_nil] at hb
      rcases (inW a).mp hb with ⟨q, q1, ⟨e, he, heq⟩, haq⟩ | h3
      · have : p = q := by
          by_cases c : p = q
          · exact c
          · exfalso
            obtain ⟨i, hi, ei⟩ := List.getElem_of_mem h1
            obtain ⟨j, hj, ej⟩ := List.getElem_of_mem q1
            have pw := List.pairwise_iff_getElem.mp dj.2
            rcases Nat.lt_trichotomy i j with l | l | l
            · exact pw i j hi hj l a (ei ▸ hap) a (ej ▸ haq) rfl
            · subst l; exact c (ei.symm.trans ej)
            · exact pw j i hj hi l a (ej ▸ haq) a (ei ▸ hap) rfl
        subst this
        exact h2 e he heq
      · exact h2 a h3 hap
  · rcases (inj p).mp hp with ⟨h1, _⟩ | rfl
    · exact h.ne p h1
    · obtain ⟨e, he⟩ := List.exists_mem_of_ne_nil ends hn
      exact List.ne_nil_of_mem ((inW e).mpr (.inr he))
  · rw [memP, h.mem]
    constructor
    · rintro (⟨r, hr, he⟩ | he)
      · exact ⟨r, List.mem_append_left _ hr, he⟩
      · exact ⟨ends, List.mem_append_right _ (List.mem_singleton.mpr rfl), he⟩
    · rintro ⟨r, hr, he⟩
      rcases List.mem_append.mp hr with q | q
      · exact .inl ⟨r, q, he⟩
      · rw [List.mem_singleton] at q
        subst q
        exact .inr he
  · rcases (inj p).mp hp with ⟨h1, h2⟩ | rfl
    · rcases List.mem_append.mp hr with q | q
      · exact h.row r q a ha b hb p h1 hap
      · rw [List.mem_singleton] at q
        subst q
        exact absurd hap (h2 a ha)
    · rcases List.mem_append.mp hr with q | q
      · obtain ⟨pa, hpa, hapa⟩ := (h.mem a).mpr ⟨r, q, ha⟩
        have hbpa := h.row r q a ha b hb pa hpa hapa
        rcases (inW a).mp hap with ⟨p2, g1, g2, g3⟩ | g
        · exact (inW b).mpr (.inl ⟨p2, g1, g2, h.row r q a ha b hb p2 g1 g3⟩)
        · exact (inW b).mpr (.inl ⟨pa, hpa, ⟨a, g, hapa⟩, hbpa⟩)
      · rw [List.mem_singleton] at q
        subst q
        exact (inW b).mpr (.inr hb)
  · have hf1 : ∀ r ∈ rows, ∀ a ∈ r, ∀ b ∈ r, f a → f b := fun r hr => hf r (List.mem_append_left _ hr)
    have hf2 : ∀ a ∈ ends, ∀ b ∈ ends, f a → f b := hf ends (List.mem_append_right _ (List.mem_singleton.mpr rfl))
    rcases (inj p).mp hp with ⟨h1, _⟩ | rfl
    · exact h.conn f hf1 p h1 a ha b hb fa
    · obtain ⟨e0, he0⟩ := List.exists_mem_of_ne_nil ends hn
      have up : f e0 := by
        rcases (inW a).mp ha with ⟨p2, g1, ⟨e, he, hep⟩, g3⟩ | g
        · exact hf2 e he e0 he0 (h.conn f hf1 p2 g1 a g3 e hep fa)
        · exact hf2 a g e0 he0 fa
      rcases (inW b).mp hb with ⟨p2, g1, ⟨e, he, hep⟩, g3⟩ | g
      · exact h.conn f hf1 p2 g1 e hep b g3 (hf2 e0 he0 e he up)
      · exact hf2 e0 he0 b g up
end
end V
set_option maxRecDepth 100000
set_option maxHeartbeats 4000000
namespace V
set_option autoImplicit false
open PySem L2 VF
open Enc (enc)
section
variable {ω : Type} [DecidableEq ω]
def same (P : List (List ω)) (a b : ω) : Prop := ∃ p ∈ P, a ∈ p ∧ b ∈ p
theorem part_eq {P : List (List ω)} (h : P.flatten.Nodup) {p q : List ω} (hp : p ∈ P) (hq : q ∈ P) {a : ω} (ha : a ∈ p) (hb : a ∈ q) : p = q := by
  by_cases c : p = q
  · exact c
  · exfalso
    have dj := (List.pairwise_flatten.mp h).2
    obtain ⟨i, hi, ei⟩ := List.getElem_of_mem hp
    obtain ⟨j, hj, ej⟩ := List.getElem_of_mem hq
    have pw := List.pairwise_iff_getElem.mp dj
    rcases Nat.lt_trichotomy i j with l | l | l
    · exact pw i j hi hj l a (ei ▸ ha) a (ej ▸ hb) rfl
    · subst l; exact c (ei.symm.trans ej)
    · exact pw j i hj hi l a (ej ▸ hb) a (ei ▸ ha) rfl
variable {rows P : List (List ω)} (h : PInv rows P) {E : List ω} (hE : ∀ e, e ∈ E ↔ ∃ r ∈ rows, e ∈ r) (ie : ω → Int)
theorem same.symm {a b : ω} (s : same P a b) : same P b a := by
  obtain ⟨p, hp, ha, hb⟩ := s
  exact ⟨p, hp, hb, ha⟩
include h in
theorem same_trans {a b c : ω} (s : same P a b) (t : same P b c) : same P a c := by
  obtain ⟨p, hp, ha, hb⟩ := s
  obtain ⟨q, hq, hb2, hc⟩ := t
  have := part_eq h.nd hp hq hb hb2
  subst this
  exact ⟨p, hp, ha, hc⟩
include h in
theorem same_row {r : List ω} (hr : r ∈ rows) {a b : ω} (ha : a ∈ r) (hb : b ∈ r) : same P a b := by
  obtain ⟨p, hp, hap⟩ := (h.mem a).mpr ⟨r, hr, ha⟩
  exact ⟨p, hp, hap, h.row r hr a ha b hb p hp hap⟩
def MInv (P : List (List ω)) (E : List ω) (ie : ω → Int) (μ : ω → Int) : Prop := ∀ e ∈ E, ∃ x ∈ E, μ e = ie x ∧ same P e x
def Full (P : List (List ω)) (ie : ω → Int) (μ : ω → Int) (e : ω) : Prop := ∀ x, same P e x → μ e ≤ ie x
def StepR (r : List ω) (μ μ' : ω → Int) : Prop := ∃ l, (∀ e ∈ r, l ≤ μ e) ∧ (∃ e ∈ r, l = μ e) ∧ ∀ e, μ' e = if e ∈ r then l else μ e
include h hE in
theorem step_inv {r : List ω} (hr : r ∈ rows) {μ μ' : ω → Int} (s : StepR r μ μ') (m : MInv P E ie μ) : MInv P E ie μ' := by
  obtain ⟨l, _, ⟨e0, h0, rfl⟩, h3⟩ := s
  intro e he
  by_cases c : e ∈ r
  · obtain ⟨x, hx, ex, sx⟩ := m e0 ((hE e0).mpr ⟨r, hr, h0⟩)
    exact ⟨x, hx, by rw [h3, if_pos c, ex], same_trans h (same_row h hr c h0) sx⟩
  · obtain ⟨x, hx, ex, sx⟩ := m e he
    exact ⟨x, hx, by rw [h3, if_neg c, ex], sx⟩
theorem step_full {r : List ω} {μ μ' : ω → Int} (s : StepR r μ μ') {e : ω} (f : Full P ie μ e) : Full P ie μ' e := by
  obtain ⟨l, h1, _, h3⟩ := s
  intro x hx
  have := f x hx
  rw [h3]
  by_cases c : e ∈ r
  · rw [if_pos c]; have := h1 e c; omega
  · rw [if_neg c]; exact this
include h in
theorem step_row {r : List ω} (hr : r ∈ rows) {μ μ' : ω → Int} (s : StepR r μ μ') {a : ω} (ha : a ∈ r) (f : Full P ie μ a) : ∀ b ∈ r, Full P ie μ' b := by
  obtain ⟨l, h1, _, h3⟩ := s
  intro b hb x hx
  rw [h3, if_pos hb]
  have := f x (same_trans h (same_row h hr ha hb) hx)
  have := h1 a ha
  omega
theorem countP_lt {α : Type} (p q : α → Bool) : ∀ (L : List α), (∀ x ∈ L, p x = true → q x = true) → (∃ x ∈ L, p x = false ∧ q x = true) → L.countP p < L.countP q
  | [], _, h => by obtain ⟨x, hx, _⟩ := h; cases hx
  | y :: L, h1, ⟨x, hx, h2, h3⟩ => by
    have le : L.countP p ≤ L.countP q := List.countP_mono_left fun z hz => h1 z (List.mem_cons_of_mem _ hz)
    rw [List.countP_cons, List.countP_cons]
    rcases List.mem_cons.mp hx with rfl | hx
    · rw [h2, h3]; simp; omega
    · have lt := countP_lt p q L (fun z hz => h1 z (List.mem_cons_of_mem _ hz)) ⟨x, hx, h2, h3⟩
      have := h1 y List.mem_cons_self
      cases z1 : p y with
      | false => simp; omega
      | true => rw [this z1]; simp; omega
open Classical in
noncomputable def cnt (rows P : List (List ω)) (ie μ : ω → Int) : Nat := rows.countP fun r => decide (∀ e ∈ r, Full P ie μ e)
structure Turn (rows P : List (List ω)) (E : List ω) (ie : ω → Int) (t : Nat) (μ : ω → Int) : Prop where
  inv : MInv P E ie μ
  root : ∀ p ∈ P, ∃ e ∈ p, Full P ie μ e
  far : (∀ r ∈ rows, ∀ e ∈ r, Full P ie μ e) ∨ t ≤ cnt rows P ie μ
structure InTurn (rows P : List (List ω)) (E : List ω) (ie : ω → Int) (μ0 : ω → Int) (i : Nat) (μ : ω → Int) : Prop where
  inv : MInv P E ie μ
  keep : ∀ e, Full P ie μ0 e → Full P ie μ e
  did : ∀ j, j < i → ∀ a ∈ rows.getD j [], Full P ie μ0 a → ∀ b ∈ rows.getD j [], Full P ie μ b
theorem InTurn.start {μ0 : ω → Int} (m : MInv P E ie μ0) : InTurn rows P E ie μ0 0 μ0 := ⟨m, fun _ f => f, fun j hj => absurd hj (Nat.not_lt_zero _)⟩
include h hE in
theorem InTurn.step {μ0 μ μ' : ω → Int} {i : Nat} (T : InTurn rows P E ie μ0 i μ) (hi : i < rows.length) (s : StepR (rows.getD i []) μ μ') : InTurn rows P E ie μ0 (i + 1) μ' := by
  have hr : rows.getD i [] ∈ rows := by rw [getD_lt _ hi]; exact List.getElem_mem hi
  refine ⟨step_inv h hE ie hr s T.inv, fun e f => step_full ie s (T.keep e f), fun j hj a ha f b hb => ?_⟩
  by_cases c : j = i
  · subst c
    exact step_row h ie hr s ha (T.keep a f) b hb
  · exact step_full ie s (T.did j (by omega) a ha f b hb)
theorem InTurn.skip {μ0 μ : ω → Int} {i : Nat} (T : InTurn rows P E ie μ0 i μ) (hn : rows.getD i [] = []) : InTurn rows P E ie μ0 (i + 1) μ := by
  refine ⟨T.inv, T.keep, fun j hj a ha f b hb => ?_⟩
  by_cases c : j = i
  · subst c; rw [hn] at ha; cases ha
  · exact T.did j (by omega) a ha f b hb
include h in
theorem Turn.next {μ0 μ : ω → Int} {t : Nat} (T0 : Turn rows P E ie t μ0) (T : InTurn rows P E ie μ0 rows.length μ) : Turn rows P E ie (t + 1) μ := by
  refine ⟨T.inv, fun p hp => ?_, ?_⟩
  · obtain ⟨e, he, f⟩ := T0.root p hp
    exact ⟨e, he, T.keep e f⟩
  · by_cases all : ∀ r ∈ rows, ∀ e ∈ r, Full P ie μ0 e
    · exact .inl fun r hr e he => T.keep e (all r hr e he)
    · rcases T0.far with f | f
      · exact absurd f all
      · refine .inr (Nat.le_trans (Nat.succ_le_succ f) ?_)
        have ex : ∃ r ∈ rows, ∃ a ∈ r, ∃ b ∈ r, Full P ie μ0 a ∧ ¬ Full P ie μ0 b := by
          by_cases c : ∃ r ∈ rows, ∃ a ∈ r, ∃ b ∈ r, Full P ie μ0 a ∧ ¬ Full P ie μ0 b
          · exact c
          · exfalso
            refine all fun r hr e he => ?_
            obtain ⟨p, hp, hep⟩ := (h.mem e).mpr ⟨r, hr, he⟩
            obtain ⟨x, hx, fx⟩ := T0.root p hp
            refine h.conn (Full P ie μ0) (fun r hr a ha b hb fa => ?_) p hp x hx e hep fx
            by_cases fb : Full P ie μ0 b
            · exact fb
            · exact absurd ⟨r, hr, a, ha, b, hb, fa, fb⟩ c
        obtain ⟨r, hr, a, ha, b, hb, fa, fb⟩ := ex
        obtain ⟨j, hj, ej⟩ := List.getElem_of_mem hr
        have ej' : rows.getD j [] = r := (getD_lt _ hj).trans ej
        unfold cnt
        classical
        refine countP_lt _ _ rows (fun x _ q => ?_) ⟨r, hr, decide_eq_false fun z => fb (z b hb), decide_eq_true fun x hx => ?_⟩
        · exact decide_eq_true fun e he => T.keep e (of_decide_eq_true q e he)
        · exact T.did j hj a (by rw [ej']; exact ha) fa x (by rw [ej']; exact hx)
theorem Turn.done {μ : ω → Int} {t : Nat} (T : Turn rows P E ie t μ) (ht : rows.length < t) : ∀ r ∈ rows, ∀ e ∈ r, Full P ie μ e := by
  rcases T.far with f | f
  · exact f
  · have : cnt rows P ie μ ≤ rows.length := List.countP_le_length
    omega
include h hE in
theorem Turn.parts {μ : ω → Int} {t : Nat} (T : Turn rows P E ie t μ) (ht : rows.length < t) (inj : ∀ a ∈ E, ∀ b ∈ E, ie a = ie b → a = b) {a b : ω} (ha : a ∈ E) (hb : b ∈ E) : μ a = μ b ↔ same P a b := by
  have full : ∀ e ∈ E, Full P ie μ e := fun e he => by
    obtain ⟨r, hr, hx⟩ := (hE e).mp he
    exact T.done ie ht r hr e hx
  obtain ⟨x, hx, ex, sx⟩ := T.inv a ha
  obtain ⟨y, hy, ey, sy⟩ := T.inv b hb
  constructor
  · intro q
    have : x = y := inj x hx y hy (by rw [← ex, ← ey, q])
    subst this
    exact same_trans h sx sy.symm
  · intro s
    have h1 := full a ha y (same_trans h s sy)
    have h2 := full b hb x (same_trans h s.symm sx)
    omega
end
end V
set_option maxRecDepth 100000
set_option maxHeartbeats 4000000
namespace V
set_option autoImplicit false
open PySem L2 VF
section
variable {ω : Type} [DecidableEq ω]
def chN : List (List ω) → List ω → Nat
  | [], _ => 1
  | x :: xs, S => ((x.filter fun e => decide (e ∉ S)).map fun e => chN xs (e :: S)).sum
def jS (p S : List ω) : Nat := (p.filter fun e => decide (e ∈ S)).length
def phN (x h n j : Nat) : Nat := if x + h = 0 then (if j = 0 then n else if j = 1 then 1 else 0) else if x + h = 1 then (if j = 0 then (if x = 1 then 2 else 1) else 0) else 0
structure Pt (ω : Type) where
  p : List ω
  x : Nat
  h : Nat
def mulP (Q : List (Pt ω)) (S : List ω) : Nat := Q.foldr (fun q a => phN q.x q.h q.p.length (jS q.p S) * a) 1
theorem mulP_cons (q : Pt ω) (Q : List (Pt ω)) (S : List ω) : mulP (q :: Q) S = phN q.x q.h q.p.length (jS q.p S) * mulP Q S := rfl
theorem mulP_perm {Q Q' : List (Pt ω)} (h : Q.Perm Q') (S : List ω) : mulP Q S = mulP Q' S := by
  induction h with
  | nil => rfl
  | cons q _ ih => rw [mulP_cons, mulP_cons, ih]
  | swap a b Q => rw [mulP_cons, mulP_cons, mulP_cons, mulP_cons, Nat.mul_left_comm]
  | trans _ _ h1 h2 => exact h1.trans h2
theorem jS_in {p S : List ω} {e : ω} (nd : p.Nodup) (he : e ∈ p) (hS : e ∉ S) : jS p (e :: S) = jS p S + 1 := by
  induction p with
  | nil => cases he
  | cons a p ih =>
    rw [List.nodup_cons] at nd
    unfold jS at ih ⊢
    rw [List.filter_cons, List.filter_cons]
    rcases List.mem_cons.mp he with rfl | he
    · rw [if_pos (by simp), if_neg (by simpa using hS), List.length_cons]
      congr 2
      refine List.filter_congr fun b hb => ?_
      have : b ≠ e := fun h => nd.1 (h ▸ hb)
      simp [this]
    · have ne : a ≠ e := fun h => nd.1 (h ▸ he)
      have := ih nd.2 he
      by_cases c : a ∈ S
      · rw [if_pos (by simp [c]), if_pos (by simp [c]), List.length_cons, List.length_cons, this]
      · rw [if_neg (by simp [c, ne]), if_neg (by simp [c]), this]
theorem jS_out {p S : List ω} {e : ω} (he : e ∉ p) : jS p (e :: S) = jS p S := by
  unfold jS
  congr 1
  refine List.filter_congr fun b hb => ?_
  have : b ≠ e := fun h => he (h ▸ hb)
  simp [this]
theorem jS_pos {p S : List ω} {e : ω} (he : e ∈ p) (hS : e ∈ S) : 1 ≤ jS p S := by
  unfold jS
  exact List.length_pos_of_mem (List.mem_filter.mpr ⟨he, decide_eq_true hS⟩)
theorem jS_app (p q S : List ω) : jS (p ++ q) S = jS p S + jS q S := by
  unfold jS
  rw [List.filter_append, List.length_append]
theorem jS_perm {p q : List ω} (h : p.Perm q) (S : List ω) : jS p S = jS q S := (h.filter _).length_eq
theorem mulP_out {Q : List (Pt ω)} {S : List ω} {e : ω} (h : ∀ q ∈ Q, e ∉ q.p) : mulP Q (e :: S) = mulP Q S := by
  induction Q with
  | nil => rfl
  | cons q Q ih => rw [mulP_cons, mulP_cons, ih fun r hr => h r (List.mem_cons_of_mem _ hr), jS_out (h q List.mem_cons_self)]
theorem ph0 {x h n j : Nat} (a : x + h = 0) : phN x h n j = if j = 0 then n else if j = 1 then 1 else 0 := by unfold phN; rw [if_pos a]
theorem ph1 {x h n j : Nat} (a : x + h = 1) : phN x h n j = if j = 0 then (if x = 1 then 2 else 1) else 0 := by unfold phN; rw [if_neg (by omega), if_pos a]
theorem ph2 {x h n j : Nat} (a : 2 ≤ x + h) : phN x h n j = 0 := by unfold phN; rw [if_neg (by omega), if_neg (by omega)]
theorem ph_half (x h n j : Nat) : phN x h n (j + 1) = phN x (h + 1) n j := by
  rcases (show x + h = 0 ∨ x + h = 1 ∨ 2 ≤ x + h by omega) with a | a | a
  · have e : ¬ x = 1 := by omega
    rw [ph0 a, ph1 (show x + (h + 1) = 1 by omega)]
    rcases j with _ | j <;> simp [e]
  · rw [ph1 a, ph2 (show 2 ≤ x + (h + 1) by omega)]; simp
  · rw [ph2 a, ph2 (show 2 ≤ x + (h + 1) by omega)]
theorem ph_pos {x h n j : Nat} (a : 1 ≤ x + h) (hj : 1 ≤ j) : phN x h n j = 0 := by
  rcases (show x + h = 1 ∨ 2 ≤ x + h by omega) with b | b
  · rw [ph1 b, if_neg (by omega)]
  · exact ph2 b
theorem ph_same (x h n : Nat) : 2 * phN x h n 1 = phN (x + 1) h n 0 := by
  rcases (show x + h = 0 ∨ x + h = 1 ∨ 2 ≤ x + h by omega) with a | a | a
  · have e : x = 0 := by omega
    rw [ph0 a, ph1 (show x + 1 + h = 1 by omega)]
    simp [e]
  · rw [ph1 a, ph2 (show 2 ≤ x + 1 + h by omega)]; simp
  · rw [ph2 a, ph2 (show 2 ≤ x + 1 + h by omega)]
theorem ph_two {x1 h1 n1 j1 x2 h2 n2 j2 a b : Nat} (ha : a = if j1 = 0 then phN x1 h1 n1 1 else 0) (hb : b = if j2 = 0 then phN x2 h2 n2 1 else 0) : a * phN x2 h2 n2 j2 + phN x1 h1 n1 j1 * b = phN (x1 + x2) (h1 + h2) (n1 + n2) (j1 + j2) := by
  subst ha hb
  rcases (show x1 + h1 = 0 ∨ x1 + h1 = 1 ∨ 2 ≤ x1 + h1 by omega) with t1 | t1 | t1 <;> rcases (show x2 + h2 = 0 ∨ x2 + h2 = 1 ∨ 2 ≤ x2 + h2 by omega) with t2 | t2 | t2
  · rw [ph0 t1, ph0 t1, ph0 t2, ph0 t2, ph0 (show x1 + x2 + (h1 + h2) = 0 by omega)]
    rcases j1 with _ | _ | j1 <;> rcases j2 with _ | _ | j2 <;> simp <;> omega
  · have e1 : x1 = 0 := by omega
    subst e1
    rw [ph0 t1, ph0 t1, ph1 t2, ph1 t2, ph1 (show 0 + x2 + (h1 + h2) = 1 by omega)]
    rcases j1 with _ | _ | j1 <;> rcases j2 with _ | _ | j2 <;> simp
  · rw [ph2 t2, ph2 t2, ph2 (show 2 ≤ x1 + x2 + (h1 + h2) by omega)]; simp
  · have e1 : x2 = 0 := by omega
    subst e1
    rw [ph1 t1, ph1 t1, ph0 t2, ph0 t2, ph1 (show x1 + 0 + (h1 + h2) = 1 by omega)]
    rcases j1 with _ | _ | j1 <;> rcases j2 with _ | _ | j2 <;> simp
  · rw [ph1 t1, ph1 t1, ph1 t2, ph1 t2, ph2 (show 2 ≤ x1 + x2 + (h1 + h2) by omega)]; simp
  · rw [ph2 t2, ph2 t2, ph2 (show 2 ≤ x1 + x2 + (h1 + h2) by omega)]; simp
  · rw [ph2 t1, ph2 t1, ph2 (show 2 ≤ x1 + x2 + (h1 + h2) by omega)]; simp
  · rw [ph2 t1, ph2 t1, ph2 (show 2 ≤ x1 + x2 + (h1 + h2) by omega)]; simp
  · rw [ph2 t1, ph2 t1, ph2 (show 2 ≤ x1 + x2 + (h1 + h2) by omega)]; simp
def inP (p r : List ω) : Bool := match r with
  | e :: _ => decide (e ∈ p)
  | [] => false
def wN (p : List ω) (links : List (List ω)) : Nat := (links.filter fun r => inP p r && decide (r.length = 2)).length
def hN (p : List ω) (links : List (List ω)) : Nat := (links.filter fun r => inP p r && decide (r.length = 1)).length
structure CInv (links : List (List ω)) (Q : List (Pt ω)) : Prop where
  nd : (Q.map (·.p)).flatten.Nodup
  f : ∀ S, chN links.reverse S = mulP Q S
  w : ∀ q ∈ Q, q.p ≠ [] ∧ wN q.p links + 1 = q.p.length + q.x ∧ hN q.p links = q.h
  cov : ∀ r ∈ links, ∀ e ∈ r, ∃ q ∈ Q, e ∈ q.p
theorem CInv.nil : CInv ([] : List (List ω)) [] := ⟨List.nodup_nil, fun _ => rfl, fun q h => absurd h (by simp), fun r h => absurd h (by simp)⟩
theorem CInv.perm {links : List (List ω)} {Q Q' : List (Pt ω)} (c : CInv links Q) (h : Q.Perm Q') : CInv links Q' :=
  ⟨((h.map (·.p)).flatten.nodup_iff).mp c.nd, fun S => (c.f S).trans (mulP_perm h S), fun q hq => c.w q (h.mem_iff.mpr hq), fun r hr e he => let ⟨q, h1, h2⟩ := c.cov r hr e he; ⟨q, h.mem_iff.mp h1, h2⟩⟩
theorem inP_perm {p q : List ω} (h : p.Perm q) (r : List ω) : inP p r = inP q r := by
  unfold inP
  split
  · rw [decide_eq_decide]; exact h.mem_iff
  · rfl
theorem wN_perm {p q : List ω} (h : p.Perm q) (links : List (List ω)) : wN p links = wN q links := by
  unfold wN
  congr 2
  funext r
  rw [inP_perm h]
theorem hN_perm {p q : List ω} (h : p.Perm q) (links : List (List ω)) : hN p links = hN q links := by
  unfold hN
  congr 2
  funext r
  rw [inP_perm h]
theorem CInv.other {links : List (List ω)} {q : Pt ω} {R : List (Pt ω)} (c : CInv links (q :: R)) {p : List ω} (h : p.Perm q.p) : CInv links (⟨p, q.x, q.h⟩ :: R) where
  nd := by
    have := c.nd
    rw [List.map_cons, List.flatten_cons] at this ⊢
    exact ((h.append_right _).nodup_iff).mpr this
  f := fun S => by
    rw [c.f S, mulP_cons, mulP_cons]
    dsimp only
    rw [h.length_eq, jS_perm h]
  w := fun r hr => by
    rcases List.mem_cons.mp hr with rfl | hr
    · obtain ⟨a, b, d⟩ := c.w q List.mem_cons_self
      dsimp only
      exact ⟨fun e => a (by rw [e] at h; exact h.symm.eq_nil), by rw [wN_perm h, h.length_eq]; exact b, by rw [hN_perm h]; exact d⟩
    · exact c.w r (List.mem_cons_of_mem _ hr)
  cov := fun r hr e he => by
    obtain ⟨q', h1, h2⟩ := c.cov r hr e he
    rcases List.mem_cons.mp h1 with rfl | h1
    · exact ⟨_, List.mem_cons_self, h.mem_iff.mpr h2⟩
    · exact ⟨q', List.mem_cons_of_mem _ h1, h2⟩
theorem CInv.single {links : List (List ω)} {Q : List (Pt ω)} (c : CInv links Q) {e : ω} (he : ∀ q ∈ Q, e ∉ q.p) : CInv links (⟨[e], 0, 0⟩ :: Q) where
  nd := by
    rw [List.map_cons, List.flatten_cons, List.singleton_append, List.nodup_cons]
    exact ⟨fun h => by
      obtain ⟨l, hl, h2⟩ := List.mem_flatten.mp h
      obtain ⟨q, hq, rfl⟩ := List.mem_map.mp hl
      exact he q hq h2, c.nd⟩
  f := fun S => by
    rw [c.f S, mulP_cons]
    have : phN 0 0 ([e] : List ω).length (jS [e] S) = 1 := by
      unfold jS phN
      by_cases h : e ∈ S <;> simp [h]
    rw [this, Nat.one_mul]
  w := fun r hr => by
    rcases List.mem_cons.mp hr with rfl | hr
    · have z : ∀ r' ∈ links, inP [e] r' = false := fun r' hr' => by
        cases r' with
        | nil => rfl
        | cons a l =>
          refine decide_eq_false fun h => ?_
          rw [List.mem_singleton] at h
          subst h
          obtain ⟨q, h1, h2⟩ := c.cov _ hr' a List.mem_cons_self
          exact he q h1 h2
      refine ⟨by simp, ?_, ?_⟩
      · unfold wN
        rw [List.filter_eq_nil_iff.mpr fun r hr => by rw [z r hr]; simp]; rfl
      · unfold hN
        rw [List.filter_eq_nil_iff.mpr fun r hr => by rw [z r hr]; simp]; rfl
    · exact c.w r hr
  cov := fun r hr a ha => let ⟨q, h1, h2⟩ := c.cov r hr a ha; ⟨q, List.mem_cons_of_mem _ h1, h2⟩
theorem chN_snoc (links : List (List ω)) (x S : List ω) : chN (links ++ [x]).reverse S = ((x.filter fun e => decide (e ∉ S)).map fun e => chN links.reverse (e :: S)).sum := by
  rw [List.reverse_append]; rfl
theorem wN_snoc (p : List ω) (links : List (List ω)) (x : List ω) : wN p (links ++ [x]) = wN p links + (if (inP p x && decide (x.length = 2)) = true then 1 else 0) := by
  unfold wN
  rw [List.filter_append, List.length_append]
  congr 1
  rw [List.filter_cons]
  split <;> rfl
theorem hN_snoc (p : List ω) (links : List (List ω)) (x : List ω) : hN p (links ++ [x]) = hN p links + (if (inP p x && decide (x.length = 1)) = true then 1 else 0) := by
  unfold hN
  rw [List.filter_append, List.length_append]
  congr 1
  rw [List.filter_cons]
  split <;> rfl
theorem CInv.away {links : List (List ω)} {q : Pt ω} {R : List (Pt ω)} (c : CInv links (q :: R)) {e : ω} (he : e ∈ q.p) : ∀ r ∈ R, e ∉ r.p := fun r hr h => by
  have nd := c.nd
  rw [List.map_cons, List.flatten_cons, List.nodup_append] at nd
  exact nd.2.2 e he e (List.mem_flatten.mpr ⟨r.p, List.mem_map.mpr ⟨r, hr, rfl⟩, h⟩) rfl
theorem CInv.ndq {links : List (List ω)} {q : Pt ω} {R : List (Pt ω)} (c : CInv links (q :: R)) : q.p.Nodup := by
  have nd := c.nd
  rw [List.map_cons, List.flatten_cons, List.nodup_append] at nd
  exact nd.1
theorem ph_half0' {x h n j : Nat} (hj : 1 ≤ j) : phN x (h + 1) n j = 0 := ph_pos (by omega) hj
theorem inP_out {R : List (Pt ω)} {e : ω} {x : List ω} (h : ∀ r ∈ R, e ∉ r.p) : ∀ r ∈ R, inP r.p (e :: x) = false := fun r hr => decide_eq_false (h r hr)
theorem CInv.half {links : List (List ω)} {q : Pt ω} {R : List (Pt ω)} (c : CInv links (q :: R)) {e : ω} (he : e ∈ q.p) : CInv (links ++ [[e]]) (⟨q.p, q.x, q.h + 1⟩ :: R) where
  nd := c.nd
  f := fun S => by
    rw [chN_snoc, mulP_cons]
    dsimp only
    by_cases hS : e ∈ S
    · rw [List.filter_cons_of_neg (by simpa using hS), List.filter_nil, ph_half0' (jS_pos he hS), Nat.zero_mul]; rfl
    · rw [List.filter_cons_of_pos (by simpa using hS), List.filter_nil, List.map_cons, List.map_nil, List.sum_cons, List.sum_nil, Nat.add_zero, c.f, mulP_cons, jS_in c.ndq he hS, ph_half, mulP_out (c.away he)]
  w := fun r hr => by
    rcases List.mem_cons.mp hr with rfl | hr
    · obtain ⟨a, b, d⟩ := c.w q List.mem_cons_self
      dsimp only
      refine ⟨a, ?_, ?_⟩
      · rw [wN_snoc, if_neg (by simp)]; exact b
      · rw [hN_snoc, if_pos (by simp [inP, he])]; omega
    · obtain ⟨a, b, d⟩ := c.w r (List.mem_cons_of_mem _ hr)
      have z := inP_out (x := []) (c.away he) r hr
      exact ⟨a, by rw [wN_snoc, if_neg (by simp [z])]; exact b, by rw [hN_snoc, if_neg (by simp [z])]; exact d⟩
  cov := fun r hr a ha => by
    rcases List.mem_append.mp hr with hr | hr
    · obtain ⟨q', h1, h2⟩ := c.cov r hr a ha
      rcases List.mem_cons.mp h1 with rfl | h1
      · exact ⟨_, List.mem_cons_self, h2⟩
      · exact ⟨q', List.mem_cons_of_mem _ h1, h2⟩
    · rw [List.mem_singleton.mp hr, List.mem_singleton] at ha
      subst ha
      exact ⟨_, List.mem_cons_self, he⟩
theorem two_sum {xs : List (List ω)} {a b : ω} {S : List ω} : (([a, b].filter fun e => decide (e ∉ S)).map fun e => chN xs (e :: S)).sum = (if a ∉ S then chN xs (a :: S) else 0) + (if b ∉ S then chN xs (b :: S) else 0) := by
  by_cases ha : a ∈ S <;> by_cases hb : b ∈ S <;> simp [ha, hb]
theorem CInv.same {links : List (List ω)} {q : Pt ω} {R : List (Pt ω)} (c : CInv links (q :: R)) {a b : ω} (ha : a ∈ q.p) (hb : b ∈ q.p) : CInv (links ++ [[a, b]]) (⟨q.p, q.x + 1, q.h⟩ :: R) where
  nd := c.nd
  f := fun S => by
    rw [chN_snoc, two_sum, mulP_cons]
    dsimp only
    by_cases j0 : jS q.p S = 0
    · have na : a ∉ S := fun h => by have := jS_pos ha h; omega
      have nb : b ∉ S := fun h => by have := jS_pos hb h; omega
      rw [if_pos na, if_pos nb, c.f, c.f, mulP_cons, mulP_cons, jS_in c.ndq ha na, jS_in c.ndq hb nb, mulP_out (c.away ha), mulP_out (c.away hb), j0, ← ph_same, ← Nat.two_mul, Nat.mul_assoc]
    · have z : ∀ e ∈ q.p, (if e ∉ S then chN links.reverse (e :: S) else 0) = 0 := fun e he => by
        by_cases n : e ∈ S
        · rw [if_neg (fun h => h n)]
        · rw [if_pos n, c.f, mulP_cons, jS_in c.ndq he n]
          have : phN q.x q.h q.p.length (jS q.p S + 1) = 0 := by
            rcases (show q.x + q.h = 0 ∨ 1 ≤ q.x + q.h by omega) with t | t
            · rw [ph0 t, if_neg (by omega), if_neg (by omega)]
            · exact ph_pos t (by omega)
          rw [this, Nat.zero_mul]
      rw [z a ha, z b hb, ph_pos (by omega) (by omega), Nat.zero_mul]
  w := fun r hr => by
    rcases List.mem_cons.mp hr with rfl | hr
    · obtain ⟨u, v, d⟩ := c.w q List.mem_cons_self
      dsimp only
      refine ⟨u, ?_, ?_⟩
      · rw [wN_snoc, if_pos (by simp [inP, ha])]; omega
      · rw [hN_snoc, if_neg (by simp)]; exact d
    · obtain ⟨u, v, d⟩ := c.w r (List.mem_cons_of_mem _ hr)
      have z := inP_out (x := [b]) (c.away ha) r hr
      exact ⟨u, by rw [wN_snoc, if_neg (by simp [z])]; exact v, by rw [hN_snoc, if_neg (by simp [z])]; exact d⟩
  cov := fun r hr e he => by
    rcases List.mem_append.mp hr with hr | hr
    · obtain ⟨q', h1, h2⟩ := c.cov r hr e he
      rcases List.mem_cons.mp h1 with rfl | h1
      · exact ⟨_, List.mem_cons_self, h2⟩
      · exact ⟨q', List.mem_cons_of_mem _ h1, h2⟩
    · rw [List.mem_singleton.mp hr] at he
      refine ⟨_, List.mem_cons_self, ?_⟩
      rcases List.mem_cons.mp he with rfl | he
      · exact ha
      · rw [List.mem_singleton.mp he]; exact hb
theorem CInv.two {links : List (List ω)} {q1 q2 : Pt ω} {R : List (Pt ω)} (c : CInv links (q1 :: q2 :: R)) {a b : ω} (ha : a ∈ q1.p) (hb : b ∈ q2.p) : CInv (links ++ [[a, b]]) (⟨q1.p ++ q2.p, q1.x + q2.x, q1.h + q2.h⟩ :: R) := by
  have c' := c.perm (List.Perm.swap q2 q1 R)
  have n1 := c.ndq
  have n2 := c'.ndq
  have o1 := c.away ha
  have o2 := c'.away hb
  have a2 : a ∉ q2.p := o1 q2 List.mem_cons_self
  have b1 : b ∉ q1.p := o2 q1 List.mem_cons_self
  have aR : ∀ r ∈ R, a ∉ r.p := fun r hr => o1 r (List.mem_cons_of_mem _ hr)
  have bR : ∀ r ∈ R, b ∉ r.p := fun r hr => o2 r (List.mem_cons_of_mem _ hr)
  refine ⟨?_, fun S => ?_, fun r hr => ?_, fun r hr e he => ?_⟩
  · have := c.nd
    rw [List.map_cons, List.map_cons, List.flatten_cons, List.flatten_cons] at this
    rw [List.map_cons, List.flatten_cons, List.append_assoc]
    exact this
  · rw [chN_snoc, two_sum, mulP_cons]
    dsimp only
    rw [List.length_append, jS_app]
    have f1 : (if a ∉ S then chN links.reverse (a :: S) else 0) = (if jS q1.p S = 0 then phN q1.x q1.h q1.p.length 1 else 0) * phN q2.x q2.h q2.p.length (jS q2.p S) * mulP R S := by
      by_cases hS : a ∈ S
      · rw [if_neg (fun h => h hS), if_neg (by have := jS_pos ha hS; omega), Nat.zero_mul, Nat.zero_mul]
      · rw [if_pos hS, c.f, mulP_cons, mulP_cons, jS_in n1 ha hS, jS_out a2, mulP_out aR, ← Nat.mul_assoc]
        by_cases j0 : jS q1.p S = 0
        · rw [if_pos j0, j0]
        · rw [if_neg j0]
          have : phN q1.x q1.h q1.p.length (jS q1.p S + 1) = 0 := by
            rcases (show q1.x + q1.h = 0 ∨ 1 ≤ q1.x + q1.h by omega) with t | t
            · rw [ph0 t, if_neg (by omega), if_neg (by omega)]
            · exact ph_pos t (by omega)
          rw [this]
    have f2 : (if b ∉ S then chN links.reverse (b :: S) else 0) = phN q1.x q1.h q1.p.length (jS q1.p S) * (if jS q2.p S = 0 then phN q2.x q2.h q2.p.length 1 else 0) * mulP R S := by
      by_cases hS : b ∈ S
      · rw [if_neg (fun h => h hS), if_neg (by have := jS_pos hb hS; omega), Nat.mul_zero, Nat.zero_mul]
      · rw [if_pos hS, c.f, mulP_cons, mulP_cons, jS_in n2 hb hS, jS_out b1, mulP_out bR, ← Nat.mul_assoc]
        by_cases j0 : jS q2.p S = 0
        · rw [if_pos j0, j0]
        · rw [if_neg j0]
          have : phN q2.x q2.h q2.p.length (jS q2.p S + 1) = 0 := by
            rcases (show q2.x + q2.h = 0 ∨ 1 ≤ q2.x + q2.h by omega) with t | t
            · rw [ph0 t, if_neg (by omega), if_neg (by omega)]
            · exact ph_pos t (by omega)
          rw [this]
    rw [f1, f2, ← Nat.add_mul, ph_two rfl rfl]
  · rcases List.mem_cons.mp hr with rfl | hr
    · obtain ⟨u1, v1, d1⟩ := c.w q1 List.mem_cons_self
      obtain ⟨u2, v2, d2⟩ := c.w q2 (List.mem_cons_of_mem _ List.mem_cons_self)
      have both : ∀ r ∈ links, (inP (q1.p ++ q2.p) r = (inP q1.p r || inP q2.p r)) ∧ ¬ (inP q1.p r = true ∧ inP q2.p r = true) := fun r _ => by
        cases r with
        | nil => exact ⟨rfl, by simp [inP]⟩
        | cons e l =>
          refine ⟨by simp [inP], fun h => ?_⟩
          have h1 : e ∈ q1.p := by simpa [inP] using h.1
          have h2 : e ∈ q2.p := by simpa [inP] using h.2
          exact c.away h1 q2 List.mem_cons_self h2
      have cnt : ∀ (k : Nat) (ls : List (List ω)), (∀ r ∈ ls, (inP (q1.p ++ q2.p) r = (inP q1.p r || inP q2.p r)) ∧ ¬ (inP q1.p r = true ∧ inP q2.p r = true)) → (ls.filter fun r => inP (q1.p ++ q2.p) r && decide (r.length = k)).length = (ls.filter fun r => inP q1.p r && decide (r.length = k)).length + (ls.filter fun r => inP q2.p r && decide (r.length = k)).length := by
        intro k ls
        induction ls with
        | nil => intro _; rfl
        | cons r ls ih =>
          intro h
          obtain ⟨h1, h2⟩ := h r List.mem_cons_self
          have := ih fun r hr => h r (List.mem_cons_of_mem _ hr)
          rw [List.filter_cons, List.filter_cons, List.filter_cons, h1]
          cases e1 : inP q1.p r <;> cases e2 : inP q2.p r <;> by_cases e3 : r.length = k <;> simp [e3] <;> first | omega | exact absurd ⟨e1, e2⟩ h2
      dsimp only
      refine ⟨by simp [u1], ?_, ?_⟩
      · rw [wN_snoc, if_pos (by simp [inP, ha]), List.length_append]
        have := cnt 2 links both
        unfold wN at *
        omega
      · rw [hN_snoc, if_neg (by simp)]
        have := cnt 1 links both
        unfold hN at *
        omega
    · obtain ⟨u, v, d⟩ := c.w r (List.mem_cons_of_mem _ (List.mem_cons_of_mem _ hr))
      have z := inP_out (x := [b]) aR r hr
      exact ⟨u, by rw [wN_snoc, if_neg (by simp [z])]; exact v, by rw [hN_snoc, if_neg (by simp [z])]; exact d⟩
  · rcases List.mem_append.mp hr with hr | hr
    · obtain ⟨q', h1, h2⟩ := c.cov r hr e he
      rcases List.mem_cons.mp h1 with rfl | h1
      · exact ⟨_, List.mem_cons_self, List.mem_append_left _ h2⟩
      · rcases List.mem_cons.mp h1 with rfl | h1
        · exact ⟨_, List.mem_cons_self, List.mem_append_right _ h2⟩
        · exact ⟨q', List.mem_cons_of_mem _ h1, h2⟩
    · rw [List.mem_singleton.mp hr] at he
      refine ⟨_, List.mem_cons_self, ?_⟩
      rcases List.mem_cons.mp he with rfl | he
      · exact List.mem_append_left _ ha
      · rw [List.mem_singleton.mp he]; exact List.mem_append_right _ hb
theorem addN_in {w : List ω} : ∀ {x : List ω}, (∀ e ∈ x, e ∈ w) → addN w x = w
  | [], _ => rfl
  | e :: x, h => by
    unfold addN
    rw [List.foldl_cons, if_pos (h e List.mem_cons_self)]
    exact addN_in fun a ha => h a (List.mem_cons_of_mem _ ha)
theorem tch1 {e : ω} {p : List ω} : tch [e] p = true ↔ e ∈ p := by rw [tch_iff]; simp
theorem tch2 {a b : ω} {p : List ω} : tch [a, b] p = true ↔ a ∈ p ∨ b ∈ p := by rw [tch_iff]; simp
theorem CInv.grow {links : List (List ω)} {T U : List (Pt ω)} {x : List ω} (hx : x.length ≤ 2) (hn : x ≠ []) (nd : x.Nodup) (c : CInv links (T ++ U)) (hT : ∀ q ∈ T, tch x q.p = true) (hU : ∀ q ∈ U, ¬ tch x q.p = true) :
    ∃ m : Pt ω, (addN (T.map (·.p)).flatten x).Perm m.p ∧ CInv (links ++ [x]) (m :: U) := by
  match x, hx, hn, nd with
  | [e], _, _, _ =>
    have uU : ∀ q ∈ U, e ∉ q.p := fun q hq h => hU q hq (tch1.mpr h)
    match T, c, hT with
    | [], c, _ => exact ⟨_, List.Perm.refl _, CInv.half (CInv.single c uU) (by simp)⟩
    | q :: T', c, hT =>
      have hq := tch1.mp (hT q List.mem_cons_self)
      have tn : T' = [] := List.eq_nil_iff_forall_not_mem.mpr fun r hr => c.away hq r (List.mem_append_left _ hr) (tch1.mp (hT r (List.mem_cons_of_mem _ hr)))
      subst tn
      refine ⟨_, ?_, CInv.half c hq⟩
      rw [List.map_cons, List.map_nil, List.flatten_cons, List.flatten_nil, List.append_nil, addN_in fun a ha => by rw [List.mem_singleton.mp ha]; exact hq]
  | [a, b], _, _, nd =>
    have ab : a ≠ b := by simpa using nd
    have aU : ∀ q ∈ U, a ∉ q.p := fun q hq h => hU q hq (tch2.mpr (.inl h))
    have bU : ∀ q ∈ U, b ∉ q.p := fun q hq h => hU q hq (tch2.mpr (.inr h))
    match T, c, hT with
    | [], c, _ =>
      have c1 := CInv.single (CInv.single c aU) (e := b) fun q hq => by
        rcases List.mem_cons.mp hq with rfl | hq
        · simp; exact fun h => ab h.symm
        · exact bU q hq
      have c2 := c1.perm (List.Perm.swap _ _ _)
      refine ⟨_, ?_, CInv.two c2 (by simp) (by simp)⟩
      show (addN [] [a, b]).Perm [a, b]
      unfold addN
      simp [ab.symm]
    | q :: T', c, hT =>
      have flat1 : ∀ q : Pt ω, ([q].map (·.p)).flatten = q.p := fun q => by simp
      by_cases ha : a ∈ q.p
      · have aw := c.away ha
        by_cases hb : b ∈ q.p
        · have tn : T' = [] := List.eq_nil_iff_forall_not_mem.mpr fun r hr => by
            have r1 := List.mem_append_left U hr
            rcases tch2.mp (hT r (List.mem_cons_of_mem _ hr)) with h | h
            · exact aw r r1 h
            · exact c.away hb r r1 h
          subst tn
          refine ⟨_, ?_, CInv.same c ha hb⟩
          rw [flat1, addN_in fun e he => by
            rcases List.mem_cons.mp he with rfl | he
            · exact ha
            · rw [List.mem_singleton.mp he]; exact hb]
        · match T', c, hT, aw with
          | [], c, _, _ =>
            have c1 := CInv.single c (e := b) fun r hr => by
              rcases List.mem_cons.mp hr with rfl | hr
              · exact hb
              · exact bU r hr
            refine ⟨_, ?_, CInv.two (c1.perm (List.Perm.swap _ _ _)) ha (by simp)⟩
            rw [flat1]
            show (addN q.p [a, b]).Perm (q.p ++ [b])
            unfold addN
            rw [List.foldl_cons, if_pos ha, List.foldl_cons, if_neg hb, List.foldl_nil]
          | q2 :: T'', c, hT, aw =>
            have hb2 : b ∈ q2.p := (tch2.mp (hT q2 (List.mem_cons_of_mem _ List.mem_cons_self))).resolve_left (aw q2 (List.mem_append_left _ List.mem_cons_self))
            have tn : T'' = [] := List.eq_nil_iff_forall_not_mem.mpr fun r hr => by
              rcases tch2.mp (hT r (List.mem_cons_of_mem _ (List.mem_cons_of_mem _ hr))) with h | h
              · exact aw r (List.mem_append_left _ (List.mem_cons_of_mem _ hr)) h
              · exact (c.perm (List.Perm.swap _ _ _)).away hb2 r (List.mem_cons_of_mem _ (List.mem_append_left _ hr)) h
            subst tn
            refine ⟨_, ?_, CInv.two c ha hb2⟩
            have : (([q, q2].map (·.p)).flatten) = q.p ++ q2.p := by simp
            rw [this, addN_in fun e he => by
              rcases List.mem_cons.mp he with rfl | he
              · exact List.mem_append_left _ ha
              · rw [List.mem_singleton.mp he]; exact List.mem_append_right _ hb2]
      · have hb : b ∈ q.p := (tch2.mp (hT q List.mem_cons_self)).resolve_left ha
        have bw := c.away hb
        match T', c, hT, bw with
        | [], c, _, _ =>
          have c1 := CInv.single c (e := a) fun r hr => by
            rcases List.mem_cons.mp hr with rfl | hr
            · exact ha
            · exact aU r hr
          refine ⟨_, ?_, CInv.two c1 (by simp) hb⟩
          rw [flat1]
          show (addN q.p [a, b]).Perm ([a] ++ q.p)
          unfold addN
          rw [List.foldl_cons, if_neg ha, List.foldl_cons, if_pos (List.mem_append_left _ hb), List.foldl_nil]
          exact List.perm_append_comm
        | q2 :: T'', c, hT, bw =>
          have ha2 : a ∈ q2.p := (tch2.mp (hT q2 (List.mem_cons_of_mem _ List.mem_cons_self))).resolve_right (bw q2 (List.mem_append_left _ List.mem_cons_self))
          have c' := c.perm (List.Perm.swap q2 q (T'' ++ U))
          have tn : T'' = [] := List.eq_nil_iff_forall_not_mem.mpr fun r hr => by
            rcases tch2.mp (hT r (List.mem_cons_of_mem _ (List.mem_cons_of_mem _ hr))) with h | h
            · exact c'.away ha2 r (List.mem_cons_of_mem _ (List.mem_append_left _ hr)) h
            · exact bw r (List.mem_append_left _ (List.mem_cons_of_mem _ hr)) h
          subst tn
          refine ⟨_, ?_, CInv.two c' ha2 hb⟩
          have : (([q, q2].map (·.p)).flatten) = q.p ++ q2.p := by simp
          rw [this, addN_in fun e he => by
            rcases List.mem_cons.mp he with rfl | he
            · exact List.mem_append_right _ ha2
            · rw [List.mem_singleton.mp he]; exact List.mem_append_left _ hb]
          exact List.perm_append_comm
  | _ :: _ :: _ :: _, h, _, _ => simp at h
theorem CInv.join {links : List (List ω)} {Q : List (Pt ω)} {x : List ω} (hx : x.length ≤ 2) (hn : x ≠ []) (nd : x.Nodup) (c : CInv links Q) : ∃ Q' : List (Pt ω), Q'.map (·.p) = joinP (Q.map (·.p)) x ∧ CInv (links ++ [x]) Q' := by
  have pm := List.filter_append_perm (fun q : Pt ω => tch x q.p) Q
  obtain ⟨m, h1, h2⟩ := CInv.grow hx hn nd (c.perm pm.symm) (fun q hq => (List.mem_filter.mp hq).2) (fun q hq h => by
    have := (List.mem_filter.mp hq).2
    rw [h] at this
    cases this)
  have h3 := (h2.other h1).perm (List.perm_append_singleton _ _).symm
  refine ⟨_, ?_, h3⟩
  unfold joinP
  rw [List.map_append, List.filter_map, List.filter_map]
  rfl
theorem CInv.all : ∀ {xs done : List (List ω)} {Q : List (Pt ω)}, CInv done Q → (∀ r ∈ xs, r.length ≤ 2 ∧ r ≠ [] ∧ r.Nodup) → ∃ Q' : List (Pt ω), Q'.map (·.p) = xs.foldl joinP (Q.map (·.p)) ∧ CInv (done ++ xs) Q'
  | [], done, Q, c, _ => ⟨Q, rfl, by rw [List.append_nil]; exact c⟩
  | x :: xs, done, Q, c, h => by
    obtain ⟨a, b, d⟩ := h x List.mem_cons_self
    obtain ⟨Q1, e1, c1⟩ := CInv.join a b d c
    obtain ⟨Q2, e2, c2⟩ := CInv.all c1 fun r hr => h r (List.mem_cons_of_mem _ hr)
    refine ⟨Q2, by rw [e2, e1, List.foldl_cons], ?_⟩
    rw [List.append_assoc] at c2
    exact c2
theorem chN_zero : ∀ {xs : List (List ω)} {S : List ω}, [] ∈ xs → chN xs S = 0
  | x :: xs, S, h => by
    unfold chN
    rcases List.mem_cons.mp h with rfl | h
    · rfl
    · have : ∀ l : List ω, (l.map fun e => chN xs (e :: S)).sum = 0 := fun l => by
        induction l with
        | nil => rfl
        | cons e l ih => rw [List.map_cons, List.sum_cons, ih, chN_zero h]
      exact this _
def psN (p : List ω) (links : List (List ω)) : Nat := if hN p links = 0 ∧ wN p links + 1 = p.length then p.length else if hN p links = 0 ∧ wN p links = p.length then 2 else if hN p links = 1 ∧ wN p links + 1 = p.length then 1 else 0
theorem count_parts {links : List (List ω)} (h : ∀ r ∈ links, r.length ≤ 2 ∧ r ≠ [] ∧ r.Nodup) : chN links.reverse [] = ((links.foldl joinP []).foldr (fun p a => psN p links * a) 1) := by
  obtain ⟨Q, e, c⟩ := CInv.all (CInv.nil (ω := ω)) h
  rw [List.nil_append] at c
  rw [c.f, ← show Q.map (·.p) = links.foldl joinP [] from e]
  have : ∀ R : List (Pt ω), (∀ q ∈ R, q ∈ Q) → mulP R [] = (R.map (·.p)).foldr (fun p a => psN p links * a) 1 := by
    intro R
    induction R with
    | nil => exact fun _ => rfl
    | cons q R ih =>
      intro hR
      rw [mulP_cons, List.map_cons, List.foldr_cons, ih fun r hr => hR r (List.mem_cons_of_mem _ hr)]
      congr 1
      obtain ⟨u, v, d⟩ := c.w q (hR q List.mem_cons_self)
      have j0 : jS q.p [] = 0 := by unfold jS; simp
      rw [j0]
      unfold psN
      rw [d]
      rcases (show q.x + q.h = 0 ∨ q.x + q.h = 1 ∨ 2 ≤ q.x + q.h by omega) with t | t | t
      · rw [ph0 t, if_pos rfl, if_pos (by omega)]
      · rw [ph1 t, if_pos rfl]
        by_cases z : q.x = 1
        · rw [if_pos z, if_neg (by omega), if_pos (by omega)]
        · rw [if_neg z, if_neg (by omega), if_neg (by omega), if_pos (by omega)]
      · rw [ph2 t, if_neg (by omega), if_neg (by omega), if_neg (by omega)]
  exact this Q fun q hq => hq
end
end V
set_option maxHeartbeats 4000000
set_option synthInstance.maxHeartbeats 400000
set_option synthInstance.maxSize 2000
namespace V
section
set_option autoImplicit false
open PySem L2 VF
open Enc (enc)
def d_opened_claims : M Fl := (dSeq (dSet 3 (dLst dNil))
  (dSeq (dFor (dEnum (dCons (dVar 2) dNil)) (gTp 2 (gCo (gN 4) (gCo (gN 5) gNo))) (dIf (dT (dOp fEq (dVar 5) (dC (.int 0)))) (dDrop (dApp 3 (dTup (dCons (dC (.int 0)) (dCons (dIx (dVar 0) (dVar 4)) dNil))))) (dDrop (dApp 3 (dTup (dCons (dC (.int 1)) (dCons (dIx (dVar 1) (dVar 4)) dNil)))))))
  (dRet (dVar 3))))
def φ_opened_claims : Fn := mkFn0 [false, false, false] 6 d_opened_claims
def d_caught : M Fl := (dSeq (dSet 3 (dLst dNil))
  (dSeq (dSeen 3 4 5 6 (dCons (dCall [false, false, false] φ_opened_claims (dCons (dVar 0) (dCons (dVar 1) (dCons (dVar 2) dNil)))) dNil))
  (dRet (dVar 3))))
def φ_caught : Fn := mkFn0 [false, false, false] 7 d_caught
def d_coins_of_number : M Fl := (dSeq (dSet 2 (dLst dNil))
  (dSeq (dSet 3 (dVar 1))
  (dSeq (dFor (dRng1 (dCons (dVar 0) dNil)) (gN 4) (dSeq (dDrop (dApp 2 (dOp fMod (dCB intD (dCons (dVar 3) dNil)) (dC (.int 2)))))
  (dSet 3 (dOp fDiv (dVar 3) (dC (.int 2))))))
  (dRet (dVar 2)))))
def φ_coins_of_number : Fn := mkFn0 [false, false] 5 d_coins_of_number
def d_passing_plainly : M Fl := (dSeq (dSet 2 (dCB lenD (dCons (dVar 0) dNil)))
  (dSeq (dSet 3 (dC (.int 1)))
  (dSeq (dFor (dRng1 (dCons (dVar 2) dNil)) (gN 4) (dSet 3 (dOp fMul (dVar 3) (dC (.int 2)))))
  (dSeq (dSet 5 (dC (.int 0)))
  (dSeq (dFor (dRng1 (dCons (dVar 3) dNil)) (gN 6) (dIf (dNot (dTru (dCall [false, false, false] φ_caught (dCons (dVar 0) (dCons (dVar 1) (dCons (dCall [false, false] φ_coins_of_number (dCons (dVar 2) (dCons (dVar 6) dNil))) dNil)))))) (dAug 5 (· + ·) (dC (.int 1))) dNext))
  (dRet (dVar 5)))))))
def φ_passing_plainly : Fn := mkFn0 [false, false] 7 d_passing_plainly
def d_links_of : M Fl := (dSeq (dSet 2 (dLst dNil))
  (dSeq (dFor (dRng1 (dCons (dCB lenD (dCons (dVar 0) dNil)) dNil)) (gN 3) (dSeq (dSet 4 (dLst dNil))
  (dSeq (dIf (dT (dOp fNotN (dIx (dVar 0) (dVar 3)) (dC .non))) (dDrop (dApp 4 (dTup (dCons (dC (.int 0)) (dCons (dIx (dVar 0) (dVar 3)) dNil))))) dNext)
  (dSeq (dIf (dT (dOp fNotN (dIx (dVar 1) (dVar 3)) (dC .non))) (dDrop (dApp 4 (dTup (dCons (dC (.int 1)) (dCons (dIx (dVar 1) (dVar 3)) dNil))))) dNext)
  (dDrop (dApp 2 (dVar 4)))))))
  (dRet (dVar 2))))
def φ_links_of : Fn := mkFn0 [false, false] 5 d_links_of
def d_joined_parts : M Fl := (dSeq (dSet 2 (dLst dNil))
  (dSeq (dSet 3 (dLst dNil))
  (dSeq (dFor (dIt (dVar 0)) (gN 4) (dSeq (dSet 6 (dC (.bl false)))
  (dSeq (dFor (dIt (dVar 1)) (gN 5) (dIf (dT (dOp fIn (dVar 5) (dVar 4))) (dSet 6 (dC (.bl true))) dNext))
  (dIf (dTru (dVar 6)) (dSet 3 (dAddL (dVar 3) (dVar 4))) (dDrop (dApp 2 (dVar 4)))))))
  (dSeq (dFor (dIt (dVar 1)) (gN 5) (dIf (dT (dOp fNotIn (dVar 5) (dVar 3))) (dDrop (dApp 3 (dVar 5))) dNext))
  (dRet (dAddL (dVar 2) (dLst (dCons (dVar 3) dNil))))))))
def φ_joined_parts : Fn := mkFn0 [false, false] 7 d_joined_parts
def d_parts_of : M Fl := (dSeq (dSet 1 (dLst dNil))
  (dSeq (dFor (dIt (dVar 0)) (gN 2) (dIf (dTru (dVar 2)) (dSet 1 (dCall [false, false] φ_joined_parts (dCons (dVar 1) (dCons (dVar 2) dNil)))) dNext))
  (dRet (dVar 1))))
def φ_parts_of : Fn := mkFn0 [false] 3 d_parts_of
def d_passing_in : M Fl := (dSeq (dSet 2 (dC (.int 0)))
  (dSeq (dSet 3 (dC (.int 0)))
  (dSeq (dFor (dIt (dVar 1)) (gN 4) (dIf (dAnd (dTru (dVar 4)) (dT (dOp fIn (dIx (dVar 4) (dC (.int 0))) (dVar 0)))) (dSeq (dAug 2 (· + ·) (dOp fDiv (dCB lenD (dCons (dVar 4) dNil)) (dC (.int 2))))
  (dAug 3 (· + ·) (dOp (fI (· - ·)) (dC (.int 2)) (dCB lenD (dCons (dVar 4) dNil))))) dNext))
  (dSeq (dIf (dAnd (dT (dOp fEq (dVar 3) (dC (.int 0)))) (dT (dOp fEq (dVar 2) (dOp (fI (· - ·)) (dCB lenD (dCons (dVar 0) dNil)) (dC (.int 1)))))) (dRet (dCB lenD (dCons (dVar 0) dNil))) dNext)
  (dSeq (dIf (dAnd (dT (dOp fEq (dVar 3) (dC (.int 0)))) (dT (dOp fEq (dVar 2) (dCB lenD (dCons (dVar 0) dNil))))) (dRet (dC (.int 2))) dNext)
  (dSeq (dIf (dAnd (dT (dOp fEq (dVar 3) (dC (.int 1)))) (dT (dOp fEq (dVar 2) (dOp (fI (· - ·)) (dCB lenD (dCons (dVar 0) dNil)) (dC (.int 1)))))) (dRet (dC (.int 1))) dNext)
  (dRet (dC (.int 0)))))))))
def φ_passing_in : Fn := mkFn0 [false, false] 5 d_passing_in
def d_passing : M Fl := (dSeq (dSet 2 (dCall [false, false] φ_links_of (dCons (dVar 0) (dCons (dVar 1) dNil))))
  (dSeq (dSet 3 (dC (.int 1)))
  (dSeq (dFor (dIt (dVar 2)) (gN 4) (dIf (dNot (dTru (dVar 4))) (dSet 3 (dC (.int 0))) dNext))
  (dSeq (dFor (dIt (dCall [false] φ_parts_of (dCons (dVar 2) dNil))) (gN 5) (dSet 3 (dOp fMul (dVar 3) (dCallB 2 φ_passing_in (dCons (dVar 5) (dCons (dVar 2) dNil))))))
  (dRet (dVar 3))))))
def φ_passing : Fn := mkFn0 [false, false] 6 d_passing
def d__law_claim : M Fl := (dSeq (dIf (dT (dOp fEq (dCall [true, false] φ__law_draw (dCons (dVar 0) (dCons (dC (.int 6)) dNil))) (dC (.int 0)))) (dRet (dC .non)) dNext)
  (dRet (dOp fMod (dCB intD (dCons (dCall [true, false] φ__law_draw (dCons (dVar 0) (dCons (dC (.int 900)) dNil))) dNil)) (dVar 1))))
def φ__law_claim : Fn := mkFn0 [true, false] 2 d__law_claim
def d__law_free : M Fl := (dSeq (dSet 3 (dComp [4] (dRng1 (dCons (dCB lenD (dCons (dVar 2) dNil)) dNil)) (gN 4) dYes (dTup (dCons (dIx (dVar 2) (dVar 4)) (dCons (dIx (dIx (dLst (dCons (dVar 0) (dCons (dVar 1) dNil))) (dIx (dVar 2) (dVar 4))) (dVar 4)) dNil)))))
  (dRet (dOp fEq (dComp [4] (dRng1 (dCons (dCB lenD (dCons (dVar 2) dNil)) dNil)) (gN 4) (dOr (dT (dOp fIsN (dIx (dIx (dVar 3) (dVar 4)) (dC (.int 1))) (dC .non))) (dT (dOp fIn (dIx (dVar 3) (dVar 4)) (dSl (dVar 3) dNoPart (dPart (dVar 4)))))) (dVar 4)) (dLst dNil))))
def φ__law_free : Fn := mkFn0 [false, false, false] 5 d__law_free
def d_law_0 : M Fl := (dSet 1 (dCall [false, false, false] φ__law_box (dCons (dVar 0) (dCons (dC (.int 0)) (dCons (dC (.int 4)) dNil)))))
def d_law_1 : M Fl := (dSet 2 (dCall [true, false] φ__law_draw (dCons (dVar 1) (dCons (dC (.int 8)) dNil))))
def d_law_2 : M Fl := (dSet 3 (dComp [8] (dRng1 (dCons (dVar 2) dNil)) (gN 8) dYes (dCall [true, false] φ__law_claim (dCons (dVar 1) (dCons (dVar 2) dNil)))))
def d_law_3 : M Fl := (dSet 4 (dComp [8] (dRng1 (dCons (dVar 2) dNil)) (gN 8) dYes (dCall [true, false] φ__law_claim (dCons (dVar 1) (dCons (dVar 2) dNil)))))
def d_law_4 : M Fl := (dSet 5 (dLst (dCons (dC (.int 1)) (dCons (dC (.int 2)) (dCons (dC (.int 4)) (dCons (dC (.int 8)) (dCons (dC (.int 16)) (dCons (dC (.int 32)) (dCons (dC (.int 64)) (dCons (dC (.int 128)) dNil))))))))))
def d_law_5 : M Fl := (dSet 6 (dC (.int 0)))
def d_law_6 : M Fl := (dFor (dRng1 (dCons (dIx (dVar 5) (dVar 2)) dNil)) (gN 7) (dIf (dTru (dCallB 3 φ__law_free (dCons (dVar 3) (dCons (dVar 4) (dCons (dComp [8] (dRng1 (dCons (dVar 2) dNil)) (gN 8) dYes (dOp fMod (dCB intD (dCons (dOp fDiv (dVar 7) (dIx (dVar 5) (dVar 8))) dNil)) (dC (.int 2)))) dNil))))) (dSet 6 (dOp (fI (· + ·)) (dVar 6) (dC (.int 1)))) dNext))
def d_law_7 : M Fl := (dRet (dAndV (dCallB 2 φ__law_same (dCons (dCallB 2 φ_passing_plainly (dCons (dVar 3) (dCons (dVar 4) dNil))) (dCons (dVar 6) dNil))) (dCallB 2 φ__law_same (dCons (dCallB 2 φ_passing (dCons (dVar 3) (dCons (dVar 4) dNil))) (dCons (dVar 6) dNil)))))
def d_law : M Fl := (dSeq d_law_0 (dSeq d_law_1 (dSeq d_law_2 (dSeq d_law_3 (dSeq d_law_4 (dSeq d_law_5 (dSeq d_law_6 d_law_7)))))))
def φ_law : Fn := mkFn0 [false] 9 d_law
def p_opened_claims (left : List (Option Int)) (right : List (Option Int)) (coins : List Int) : Res ((List (Int × (Option Int)))) :=
(Res.ok (([] : List (Int × (Option Int))) : List (Int × (Option Int)))).bind fun rows =>
(foldR (fun (row, coin) rows =>
(if (decide (coin = 0)) = true then
(geti left row).bind fun t93 =>
(appR rows ((0, t93))).bind fun rows =>
Res.ok rows
else
(geti right row).bind fun t106 =>
(appR rows ((1, t106))).bind fun rows =>
Res.ok rows).bind fun rows =>
Res.ok rows) (enumL coins) rows).bind fun rows =>
Res.ok rows
theorem ss_opened_claims (left : List (Option Int)) (right : List (Option Int)) (coins : List Int) : FS false (φ_opened_claims [.fz (enc left), .fz (enc right), .fz (enc coins)]) (p_opened_claims left right coins) (fun t => .ol (fzs (encs t))) (fun t => [.fz (enc left), .fz (enc right), .fz (enc coins)]) := by
  refine fs_mk0 [.fz (enc left), .fz (enc right), .fz (enc coins), .clr, .clr, .clr] rfl (by repeat (first | exact trivial | refine ⟨rfl, ?_⟩)) fun e0 h0 => ?_
  unfold p_opened_claims
  unfold d_opened_claims
  refine c_seq ?_
  refine c_set ?_
  refine c_pure h0 (p_lst pa_nil' .nil) fun r1 k2 => ?_
  refine f_setL (v := (([] : List (Int × (Option Int))) : List (Int × (Option Int)))) (fun v => .ol (encs v)) h0 k2 .w (by decide) fun rows _ h3 => ?_
  try dsimp only [List.set_cons_zero, List.set_cons_succ] at h3
  refine c_nx ?_
  refine c_seq ?_
  refine c_for ?_
  refine c_enum ?_
  refine c_pureA h3 (pa_cons' (p_fz rfl) pa_nil') fun r4 k5 => ?_
  refine f_enum' (xs := coins) h3 k5 .f fun _ h6 => ?_
  refine f_fold (fun (s : (List (Int × (Option Int)))) => [.fz (enc left), .fz (enc right), .fz (enc coins), .ol (encs s), .cf, .cf]) (fun _ _ => (tg_tup (tgs_co tg_n (tgs_co tg_n tgs_no)))) ?_ ?_ h6
  · rintro ⟨row, coin⟩ rows _ h60
    try dsimp only [List.set_cons_zero, List.set_cons_succ] at h60 ⊢
    refine c_if ?_
    refine c_pureB h60 (b_t (p_eq (x := coin) (y := 0) (p_fz rfl) (p_c))) ?_
    refine f_ifJ h60 (fun (s : (List (Int × (Option Int)))) => [.fz (enc left), .fz (enc right), .fz (enc coins), .ol (encs s), .fz (enc row), .fz (enc coin)]) (fun _ => ?_) (fun _ => ?_) ?_
    · refine c_drop ?_
      refine c_app (ds := encs rows) h60 rfl ?_
      refine c_tup ?_
      refine c_cons ?_
      refine c_pure h60 (p_c) fun r87 k88 => ?_
      refine c_cons2 ?_
      refine c_cons ?_
      refine c_ix ?_
      refine c_pure h60 (p_fz rfl) fun r89 k90 => ?_
      refine c_ix2 ?_
      refine c_pure h60 (p_fz rfl) fun r91 k92 => ?_
      refine f_ix (xs := left) h60 k90 k92 fun t93 => ?_
      refine c_cons2 ?_
      refine c_nil ?_
      refine f_cons ?_
      refine f_cons ?_
      refine f_tup h60 (rks k88 (rks rk_f rks0)) (.cons .f (.cons .f .nil)) (Nat.le_of_ble_eq_true rfl) fun r94 _ k95 h96 => ?_
      refine f_app (xs := rows) (v := (0, t93)) h96 k95 .f rfl fun rows r97 _ k98 h99 => ?_
      try dsimp only [List.set_cons_zero, List.set_cons_succ] at h99
      refine f_drop ?_
      exact f_jn h99
    · refine c_drop ?_
      refine c_app (ds := encs rows) h60 rfl ?_
      refine c_tup ?_
      refine c_cons ?_
      refine c_pure h60 (p_c) fun r100 k101 => ?_
      refine c_cons2 ?_
      refine c_cons ?_
      refine c_ix ?_
      refine c_pure h60 (p_fz rfl) fun r102 k103 => ?_
      refine c_ix2 ?_
      refine c_pure h60 (p_fz rfl) fun r104 k105 => ?_
      refine f_ix (xs := right) h60 k103 k105 fun t106 => ?_
      refine c_cons2 ?_
      refine c_nil ?_
      refine f_cons ?_
      refine f_cons ?_
      refine f_tup h60 (rks k101 (rks rk_f rks0)) (.cons .f (.cons .f .nil)) (Nat.le_of_ble_eq_true rfl) fun r107 _ k108 h109 => ?_
      refine f_app (xs := rows) (v := (1, t106)) h109 k108 .f rfl fun rows r110 _ k111 h112 => ?_
      try dsimp only [List.set_cons_zero, List.set_cons_succ] at h112
      refine f_drop ?_
      exact f_jn h112
    rintro rows _ h113
    try dsimp only [List.set_cons_zero, List.set_cons_succ] at h113 ⊢
    exact f_jc h113
  rintro rows _ h114
  try dsimp only [List.set_cons_zero, List.set_cons_succ] at h114 ⊢
  refine c_nx ?_
  refine c_ret ?_
  refine c_pure h114 (p_ol rfl) fun r115 k116 => ?_
  refine f_ret ?_
  exact f_rt h114 k116 (.v rfl (by decide)) (.f (.f (.f .nil)))
def p_caught (left : List (Option Int)) (right : List (Option Int)) (coins : List Int) : Res (List Int) :=
(Res.ok (([] : List Int) : List Int)).bind fun found =>
(p_opened_claims left right coins).bind fun t6 =>
(seenR t6 found).bind fun found =>
Res.ok found
theorem ss_caught (left : List (Option Int)) (right : List (Option Int)) (coins : List Int) : FS false (φ_caught [.fz (enc left), .fz (enc right), .fz (enc coins)]) (p_caught left right coins) (fun t => .ol (fzs (encs t))) (fun t => [.fz (enc left), .fz (enc right), .fz (enc coins)]) := by
  refine fs_mk0 [.fz (enc left), .fz (enc right), .fz (enc coins), .clr, .clr, .clr, .clr] rfl (by repeat (first | exact trivial | refine ⟨rfl, ?_⟩)) fun e0 h0 => ?_
  unfold p_caught
  unfold d_caught
  refine c_seq ?_
  refine c_set ?_
  refine c_pure h0 (p_lst pa_nil' .nil) fun r1 k2 => ?_
  refine f_setL (v := (([] : List Int) : List Int)) (fun v => .ol (encs v)) h0 k2 .w (by decide) fun found _ h3 => ?_
  try dsimp only [List.set_cons_zero, List.set_cons_succ] at h3
  refine c_nx ?_
  refine c_seq ?_
  refine c_seen h3 rfl (by decide) (by decide) ?_
  refine c_cons ?_
  refine c_call ?_
  refine c_pureA h3 (pa_cons' (p_fz rfl) (pa_cons' (p_fz rfl) (pa_cons' (p_fz rfl) pa_nil'))) fun r4 k5 => ?_
  refine f_call h3 k5 (.f .f (.f .f (.f .f .nil))) (ss_opened_claims left right coins) (fun _ => (.f (.f (.f .nil)))) (fun _ => rk_w) fun t6 r7 _ k8 h9 => ?_
  try dsimp only [List.set_cons_zero, List.set_cons_succ] at h9
  refine c_cons2 ?_
  refine c_nil ?_
  refine f_cons ?_
  refine f_seen (xs := t6) (fs := found) h9 k8 rfl (by decide) (by decide) (by decide) (Nat.le_of_ble_eq_true rfl) (Nat.le_of_ble_eq_true rfl) fun found _ h10 => ?_
  try dsimp only [List.set_cons_zero, List.set_cons_succ] at h10
  refine c_nx ?_
  refine c_ret ?_
  refine c_pure h10 (p_ol rfl) fun r11 k12 => ?_
  refine f_ret ?_
  exact f_rt h10 k12 (.v rfl (by decide)) (.f (.f (.f .nil)))
def p_coins_of_number (rows : Int) (number : Int) : Res (List Int) :=
(Res.ok (([] : List Int) : List Int)).bind fun coins =>
(Res.ok (number : Int)).bind fun left =>
(rng1R rows).bind fun xs9 =>
(foldR (fun (row : Int) (coins, left) =>
(appR coins ((left % 2))).bind fun coins =>
(Res.ok ((left / 2) : Int)).bind fun left =>
Res.ok (coins, left)) xs9 (coins, left)).bind fun (coins, left) =>
Res.ok coins
theorem ss_coins_of_number (rows : Int) (number : Int) : FS false (φ_coins_of_number [.fz (enc rows), .fz (enc number)]) (p_coins_of_number rows number) (fun t => .ol (fzs (encs t))) (fun t => [.fz (enc rows), .fz (enc number)]) := by
  refine fs_mk0 [.fz (enc rows), .fz (enc number), .clr, .clr, .clr] rfl (by repeat (first | exact trivial | refine ⟨rfl, ?_⟩)) fun e0 h0 => ?_
  unfold p_coins_of_number
  unfold d_coins_of_number
  refine c_seq ?_
  refine c_set ?_
  refine c_pure h0 (p_lst pa_nil' .nil) fun r1 k2 => ?_
  refine f_setL (v := (([] : List Int) : List Int)) (fun v => .ol (encs v)) h0 k2 .w (by decide) fun coins _ h3 => ?_
  try dsimp only [List.set_cons_zero, List.set_cons_succ] at h3
  refine c_nx ?_
  refine c_seq ?_
  refine c_set ?_
  refine c_pure h3 (p_fz rfl) fun r4 k5 => ?_
  refine f_setL (v := (number : Int)) (fun v => .fz (enc v)) h3 k5 .f (by decide) fun left _ h6 => ?_
  try dsimp only [List.set_cons_zero, List.set_cons_succ] at h6
  refine c_nx ?_
  refine c_seq ?_
  refine c_for ?_
  refine c_rng1 ?_
  refine c_pureA h6 (pa_cons' (p_fz rfl) pa_nil') fun r7 k8 => ?_
  refine f_rng1' h6 k8 fun xs9 => ?_
  refine f_fold (fun (s : List Int × Int) => [.fz (enc rows), .fz (enc number), .ol (encs s.1), .fz (enc s.2), .cf]) (fun _ _ => tg_n) ?_ ?_ h6
  · rintro row ⟨coins, left⟩ _ h19
    try dsimp only [List.set_cons_zero, List.set_cons_succ] at h19 ⊢
    refine c_seq ?_
    refine c_drop ?_
    refine c_app (ds := encs coins) h19 rfl ?_
    refine c_pure h19 (p_modK (p_toInt (p_fz rfl)) (p_c) (h := by decide)) fun r20 k21 => ?_
    refine f_app (xs := coins) (v := (left % 2)) h19 k21 .f rfl fun coins r22 _ k23 h24 => ?_
    try dsimp only [List.set_cons_zero, List.set_cons_succ] at h24
    refine f_drop ?_
    refine c_nx ?_
    refine c_set ?_
    refine c_pure h24 (p_divK (p_fz rfl) (p_c) (h := by decide)) fun r25 k26 => ?_
    refine f_setL (v := ((left / 2) : Int)) (fun v => .fz (enc v)) h24 k26 .f (by decide) fun left _ h27 => ?_
    try dsimp only [List.set_cons_zero, List.set_cons_succ] at h27
    exact f_jc h27
  rintro ⟨coins, left⟩ _ h29
  try dsimp only [List.set_cons_zero, List.set_cons_succ] at h29 ⊢
  refine c_nx ?_
  refine c_ret ?_
  refine c_pure h29 (p_ol rfl) fun r30 k31 => ?_
  refine f_ret ?_
  exact f_rt h29 k31 (.v rfl (by decide)) (.f (.f .nil))
def p_passing_plainly (left : List (Option Int)) (right : List (Option Int)) : Res Int :=
(Res.ok ((left.length : Int) : Int)).bind fun many =>
(Res.ok (1 : Int)).bind fun rows =>
(rng1R many).bind fun xs9 =>
(foldR (fun (row : Int) rows =>
(Res.ok ((rows * 2) : Int)).bind fun rows =>
Res.ok rows) xs9 rows).bind fun rows =>
(Res.ok (0 : Int)).bind fun count =>
(rng1R rows).bind fun xs25 =>
(foldR (fun (number : Int) count =>
(p_coins_of_number many number).bind fun t54 =>
(p_caught left right t54).bind fun t58 =>
(if (!(!t58.isEmpty)) = true then
(Res.ok (count + 1)).bind fun count =>
Res.ok count
else
Res.ok count).bind fun count =>
Res.ok count) xs25 count).bind fun count =>
Res.ok count
theorem ss_passing_plainly (left : List (Option Int)) (right : List (Option Int)) : FS false (φ_passing_plainly [.fz (enc left), .fz (enc right)]) (p_passing_plainly left right) (fun t => .fz (enc t)) (fun t => [.fz (enc left), .fz (enc right)]) := by
  refine fs_mk0 [.fz (enc left), .fz (enc right), .clr, .clr, .clr, .clr, .clr] rfl (by repeat (first | exact trivial | refine ⟨rfl, ?_⟩)) fun e0 h0 => ?_
  unfold p_passing_plainly
  unfold d_passing_plainly
  refine c_seq ?_
  refine c_set ?_
  refine c_pure h0 (p_len (p_fz rfl)) fun r1 k2 => ?_
  refine f_setL (v := ((left.length : Int) : Int)) (fun v => .fz (enc v)) h0 k2 .f (by decide) fun many _ h3 => ?_
  try dsimp only [List.set_cons_zero, List.set_cons_succ] at h3
  refine c_nx ?_
  refine c_seq ?_
  refine c_set ?_
  refine c_pure h3 (p_c) fun r4 k5 => ?_
  refine f_setL (v := (1 : Int)) (fun v => .fz (enc v)) h3 k5 .f (by decide) fun rows _ h6 => ?_
  try dsimp only [List.set_cons_zero, List.set_cons_succ] at h6
  refine c_nx ?_
  refine c_seq ?_
  refine c_for ?_
  refine c_rng1 ?_
  refine c_pureA h6 (pa_cons' (p_fz rfl) pa_nil') fun r7 k8 => ?_
  refine f_rng1' h6 k8 fun xs9 => ?_
  refine f_fold (fun (s : Int) => [.fz (enc left), .fz (enc right), .fz (enc many), .fz (enc s), .cf, .clr, .clr]) (fun _ _ => tg_n) ?_ ?_ h6
  · rintro row rows _ h14
    try dsimp only [List.set_cons_zero, List.set_cons_succ] at h14 ⊢
    refine c_set ?_
    refine c_pure h14 (p_mulR (p_fz rfl) (p_c)) fun r15 k16 => ?_
    refine f_setL (v := ((rows * 2) : Int)) (fun v => .fz (enc v)) h14 k16 .f (by decide) fun rows _ h17 => ?_
    try dsimp only [List.set_cons_zero, List.set_cons_succ] at h17
    exact f_jc h17
  rintro rows _ h19
  try dsimp only [List.set_cons_zero, List.set_cons_succ] at h19 ⊢
  refine c_nx ?_
  refine c_seq ?_
  refine c_set ?_
  refine c_pure h19 (p_c) fun r20 k21 => ?_
  refine f_setL (v := (0 : Int)) (fun v => .fz (enc v)) h19 k21 .f (by decide) fun count _ h22 => ?_
  try dsimp only [List.set_cons_zero, List.set_cons_succ] at h22
  refine c_nx ?_
  refine c_seq ?_
  refine c_for ?_
  refine c_rng1 ?_
  refine c_pureA h22 (pa_cons' (p_fz rfl) pa_nil') fun r23 k24 => ?_
  refine f_rng1' h22 k24 fun xs25 => ?_
  refine f_fold (fun (s : Int) => [.fz (enc left), .fz (enc right), .fz (enc many), .fz (enc rows), .cf, .fz (enc s), .cf]) (fun _ _ => tg_n) ?_ ?_ h22
  · rintro number count _ h47
    try dsimp only [List.set_cons_zero, List.set_cons_succ] at h47 ⊢
    refine c_if ?_
    refine c_not ?_
    refine c_tru ?_
    refine c_call ?_
    refine c_cons ?_
    refine c_pure h47 (p_fz rfl) fun r48 k49 => ?_
    refine c_cons2 ?_
    refine c_cons ?_
    refine c_pure h47 (p_fz rfl) fun r50 k51 => ?_
    refine c_cons2 ?_
    refine c_cons ?_
    refine c_call ?_
    refine c_pureA h47 (pa_cons' (p_fz rfl) (pa_cons' (p_fz rfl) pa_nil')) fun r52 k53 => ?_
    refine f_call h47 k53 (.f .f (.f .f .nil)) (ss_coins_of_number many number) (fun _ => (.f (.f .nil))) (fun _ => rk_w) fun t54 r55 _ k56 h57 => ?_
    try dsimp only [List.set_cons_zero, List.set_cons_succ] at h57
    refine c_cons2 ?_
    refine c_nil ?_
    refine f_cons ?_
    refine f_cons ?_
    refine f_cons ?_
    refine f_call h57 (rks k49 (rks k51 (rks k56 rks0))) (.f .f (.f .f (.f .w .nil))) (ss_caught left right t54) (fun _ => (.f (.f (.f .nil)))) (fun _ => rk_w) fun t58 r59 _ k60 h61 => ?_
    try dsimp only [List.set_cons_zero, List.set_cons_succ] at h61
    refine f_truL h61 k60 ?_
    refine f_not ?_
    refine f_ifJ h61 (fun (s : Int) => [.fz (enc left), .fz (enc right), .fz (enc many), .fz (enc rows), .cf, .fz (enc s), .fz (enc number)]) (fun _ => ?_) (fun _ => ?_) ?_
    · refine c_aug h61 rfl ?_
      refine c_pure h61 (p_c) fun r65 k66 => ?_
      refine f_aug h61 k66 (fun count _ h67 => ?_)
      try dsimp only [List.set_cons_zero, List.set_cons_succ] at h67
      exact f_jn h67
    · refine c_next ?_
      exact f_jn h61
    rintro count _ h68
    try dsimp only [List.set_cons_zero, List.set_cons_succ] at h68 ⊢
    exact f_jc h68
  rintro count _ h69
  try dsimp only [List.set_cons_zero, List.set_cons_succ] at h69 ⊢
  refine c_nx ?_
  refine c_ret ?_
  refine c_pure h69 (p_fz rfl) fun r70 k71 => ?_
  refine f_ret ?_
  exact f_rt h69 k71 .f (.f (.f .nil))
def p_links_of (left : List (Option Int)) (right : List (Option Int)) : Res ((List (List (Int × Int)))) :=
(Res.ok (([] : List (List (Int × Int))) : List (List (Int × Int)))).bind fun rows =>
(rng1R ((left.length : Int))).bind fun xs6 =>
(foldR (fun (row : Int) rows =>
(Res.ok (([] : List (Int × Int)) : List (Int × Int))).bind fun ends =>
(geti left row).bind fun t100 =>
(if t100.isSome = true then
(geti left row).bind fun t124 =>
(unO t124).bind fun u125 =>
(appR ends ((0, u125))).bind fun ends =>
Res.ok ends
else
Res.ok ends).bind fun ends =>
(geti right row).bind fun t138 =>
(if t138.isSome = true then
(geti right row).bind fun t162 =>
(unO t162).bind fun u163 =>
(appR ends ((1, u163))).bind fun ends =>
Res.ok ends
else
Res.ok ends).bind fun ends =>
(appR rows ends).bind fun rows =>
Res.ok rows) xs6 rows).bind fun rows =>
Res.ok rows
theorem ss_links_of (left : List (Option Int)) (right : List (Option Int)) : FS false (φ_links_of [.fz (enc left), .fz (enc right)]) (p_links_of left right) (fun t => .ol (fzs (encs t))) (fun t => [.fz (enc left), .fz (enc right)]) := by
  refine fs_mk0 [.fz (enc left), .fz (enc right), .clr, .clr, .clr] rfl (by repeat (first | exact trivial | refine ⟨rfl, ?_⟩)) fun e0 h0 => ?_
  unfold p_links_of
  unfold d_links_of
  refine c_seq ?_
  refine c_set ?_
  refine c_pure h0 (p_lst pa_nil' .nil) fun r1 k2 => ?_
  refine f_setL (v := (([] : List (List (Int × Int))) : List (List (Int × Int)))) (fun v => .ol (encs v)) h0 k2 .w (by decide) fun rows _ h3 => ?_
  try dsimp only [List.set_cons_zero, List.set_cons_succ] at h3
  refine c_nx ?_
  refine c_seq ?_
  refine c_for ?_
  refine c_rng1 ?_
  refine c_pureA h3 (pa_cons' (p_len (p_fz rfl)) pa_nil') fun r4 k5 => ?_
  refine f_rng1' h3 k5 fun xs6 => ?_
  refine f_fold (fun (s : (List (List (Int × Int)))) => [.fz (enc left), .fz (enc right), .ol (encs s), .cf, .cf]) (fun _ _ => tg_n) ?_ ?_ h3
  · rintro row rows _ h92
    try dsimp only [List.set_cons_zero, List.set_cons_succ] at h92 ⊢
    refine c_seq ?_
    refine c_set ?_
    refine c_pure h92 (p_lst pa_nil' .nil) fun r93 k94 => ?_
    refine f_setL (v := (([] : List (Int × Int)) : List (Int × Int))) (fun v => .ol (encs v)) h92 k94 .w (by decide) fun ends _ h95 => ?_
    try dsimp only [List.set_cons_zero, List.set_cons_succ] at h95
    refine c_nx ?_
    refine c_seq ?_
    refine c_if ?_
    refine c_t ?_
    refine c_op ?_
    refine c_ix ?_
    refine c_pure h95 (p_fz rfl) fun r96 k97 => ?_
    refine c_ix2 ?_
    refine c_pure h95 (p_fz rfl) fun r98 k99 => ?_
    refine f_ix (xs := left) h95 k97 k99 fun t100 => ?_
    refine c_op2 ?_
    refine c_pure h95 (p_c) fun r101 k102 => ?_
    refine f_notN (u := t100) h95 rk_f k102 ?_
    refine f_t h95 rk_f ?_
    refine f_ifJ h95 (fun (s : (List (Int × Int))) => [.fz (enc left), .fz (enc right), .ol (encs rows), .fz (enc row), .ol (encs s)]) (fun _ => ?_) (fun _ => ?_) ?_
    · refine c_drop ?_
      refine c_app (ds := encs ends) h95 rfl ?_
      refine c_tup ?_
      refine c_cons ?_
      refine c_pure h95 (p_c) fun r118 k119 => ?_
      refine c_cons2 ?_
      refine c_cons ?_
      refine c_ix ?_
      refine c_pure h95 (p_fz rfl) fun r120 k121 => ?_
      refine c_ix2 ?_
      refine c_pure h95 (p_fz rfl) fun r122 k123 => ?_
      refine f_ix (xs := left) h95 k121 k123 fun t124 => ?_
      refine f_unO fun u125 q132 => ?_
      subst q132
      refine c_cons2 ?_
      refine c_nil ?_
      refine f_cons ?_
      refine f_cons ?_
      refine f_tup h95 (rks k119 (rks rk_f rks0)) (.cons .f (.cons .f .nil)) (Nat.le_of_ble_eq_true rfl) fun r126 _ k127 h128 => ?_
      refine f_app (xs := ends) (v := (0, u125)) h128 k127 .f rfl fun ends r129 _ k130 h131 => ?_
      try dsimp only [List.set_cons_zero, List.set_cons_succ] at h131
      refine f_drop ?_
      exact f_jn h131
    · refine c_next ?_
      exact f_jn h95
    rintro ends _ h133
    try dsimp only [List.set_cons_zero, List.set_cons_succ] at h133 ⊢
    refine c_nx ?_
    refine c_seq ?_
    refine c_if ?_
    refine c_t ?_
    refine c_op ?_
    refine c_ix ?_
    refine c_pure h133 (p_fz rfl) fun r134 k135 => ?_
    refine c_ix2 ?_
    refine c_pure h133 (p_fz rfl) fun r136 k137 => ?_
    refine f_ix (xs := right) h133 k135 k137 fun t138 => ?_
    refine c_op2 ?_
    refine c_pure h133 (p_c) fun r139 k140 => ?_
    refine f_notN (u := t138) h133 rk_f k140 ?_
    refine f_t h133 rk_f ?_
    refine f_ifJ h133 (fun (s : (List (Int × Int))) => [.fz (enc left), .fz (enc right), .ol (encs rows), .fz (enc row), .ol (encs s)]) (fun _ => ?_) (fun _ => ?_) ?_
    · refine c_drop ?_
      refine c_app (ds := encs ends) h133 rfl ?_
      refine c_tup ?_
      refine c_cons ?_
      refine c_pure h133 (p_c) fun r156 k157 => ?_
      refine c_cons2 ?_
      refine c_cons ?_
      refine c_ix ?_
      refine c_pure h133 (p_fz rfl) fun r158 k159 => ?_
      refine c_ix2 ?_
      refine c_pure h133 (p_fz rfl) fun r160 k161 => ?_
      refine f_ix (xs := right) h133 k159 k161 fun t162 => ?_
      refine f_unO fun u163 q170 => ?_
      subst q170
      refine c_cons2 ?_
      refine c_nil ?_
      refine f_cons ?_
      refine f_cons ?_
      refine f_tup h133 (rks k157 (rks rk_f rks0)) (.cons .f (.cons .f .nil)) (Nat.le_of_ble_eq_true rfl) fun r164 _ k165 h166 => ?_
      refine f_app (xs := ends) (v := (1, u163)) h166 k165 .f rfl fun ends r167 _ k168 h169 => ?_
      try dsimp only [List.set_cons_zero, List.set_cons_succ] at h169
      refine f_drop ?_
      exact f_jn h169
    · refine c_next ?_
      exact f_jn h133
    rintro ends _ h171
    try dsimp only [List.set_cons_zero, List.set_cons_succ] at h171 ⊢
    refine c_nx ?_
    refine c_drop ?_
    refine c_app (ds := encs rows) h171 rfl ?_
    refine c_pure h171 (p_ol rfl) fun r172 k173 => ?_
    refine f_app (xs := rows) (v := ends) h171 k173 (.v rfl) rfl fun rows r174 _ k175 h176 => ?_
    try dsimp only [List.set_cons_zero, List.set_cons_succ] at h176
    refine f_drop ?_
    exact f_jc h176
  rintro rows _ h178
  try dsimp only [List.set_cons_zero, List.set_cons_succ] at h178 ⊢
  refine c_nx ?_
  refine c_ret ?_
  refine c_pure h178 (p_ol rfl) fun r179 k180 => ?_
  refine f_ret ?_
  exact f_rt h178 k180 (.v rfl (by decide)) (.f (.f .nil))
def p_joined_parts (parts : List (List (Int × Int))) (ends : List (Int × Int)) : Res ((List (List (Int × Int)))) :=
(Res.ok (([] : List (List (Int × Int))) : List (List (Int × Int)))).bind fun others =>
(Res.ok (([] : List (Int × Int)) : List (Int × Int))).bind fun whole =>
(foldR (fun (part : List (Int × Int)) (others, whole) =>
(Res.ok (false : Bool)).bind fun touched =>
(foldR (fun end' touched =>
(if (memD end' part) = true then
(Res.ok (true : Bool)).bind fun touched =>
Res.ok touched
else
Res.ok touched).bind fun touched =>
Res.ok touched) ends touched).bind fun touched =>
(if touched = true then
(catR whole part).bind fun t118 =>
(Res.ok (t118 : List (Int × Int))).bind fun whole =>
Res.ok (others, whole)
else
(appR others part).bind fun others =>
Res.ok (others, whole)).bind fun (others, whole) =>
Res.ok (others, whole)) parts (others, whole)).bind fun (others, whole) =>
(foldR (fun end' whole =>
(if (notMemD end' whole) = true then
(appR whole end').bind fun whole =>
Res.ok whole
else
Res.ok whole).bind fun whole =>
Res.ok whole) ends whole).bind fun whole =>
(catR others (([whole] : List (List (Int × Int))))).bind fun t167 =>
Res.ok t167
theorem ss_joined_parts (parts : List (List (Int × Int))) (ends : List (Int × Int)) : FS false (φ_joined_parts [.fz (enc parts), .fz (enc ends)]) (p_joined_parts parts ends) (fun t => .ol (fzs (encs t))) (fun t => [.fz (enc parts), .fz (enc ends)]) := by
  refine fs_mk0 [.fz (enc parts), .fz (enc ends), .clr, .clr, .clr, .clr, .clr] rfl (by repeat (first | exact trivial | refine ⟨rfl, ?_⟩)) fun e0 h0 => ?_
  unfold p_joined_parts
  unfold d_joined_parts
  refine c_seq ?_
  refine c_set ?_
  refine c_pure h0 (p_lst pa_nil' .nil) fun r1 k2 => ?_
  refine f_setL (v := (([] : List (List (Int × Int))) : List (List (Int × Int)))) (fun v => .ol (encs v)) h0 k2 .w (by decide) fun others _ h3 => ?_
  try dsimp only [List.set_cons_zero, List.set_cons_succ] at h3
  refine c_nx ?_
  refine c_seq ?_
  refine c_set ?_
  refine c_pure h3 (p_lst pa_nil' .nil) fun r4 k5 => ?_
  refine f_setL (v := (([] : List (Int × Int)) : List (Int × Int))) (fun v => .ol (encs v)) h3 k5 .w (by decide) fun whole _ h6 => ?_
  try dsimp only [List.set_cons_zero, List.set_cons_succ] at h6
  refine c_nx ?_
  refine c_seq ?_
  refine c_for ?_
  refine c_it ?_
  refine c_pure h6 (p_fz rfl) fun r7 k8 => ?_
  refine f_it (xs := parts) h6 k8 .f fun _ h9 => ?_
  refine f_fold (fun (s : (List (List (Int × Int))) × (List (Int × Int))) => [.fz (enc parts), .fz (enc ends), .ol (encs s.1), .ol (encs s.2), .cf, .cf, .cf]) (fun _ _ => tg_n) ?_ ?_ h9
  · rintro part ⟨others, whole⟩ _ h70
    try dsimp only [List.set_cons_zero, List.set_cons_succ] at h70 ⊢
    refine c_seq ?_
    refine c_set ?_
    refine c_pure h70 (p_c) fun r71 k72 => ?_
    refine f_setL (v := (false : Bool)) (fun v => .fz (enc v)) h70 k72 .f (by decide) fun touched _ h73 => ?_
    try dsimp only [List.set_cons_zero, List.set_cons_succ] at h73
    refine c_nx ?_
    refine c_seq ?_
    refine c_for ?_
    refine c_it ?_
    refine c_pure h73 (p_fz rfl) fun r74 k75 => ?_
    refine f_it (xs := ends) h73 k75 .f fun _ h76 => ?_
    refine f_fold (fun (s : Bool) => [.fz (enc parts), .fz (enc ends), .ol (encs others), .ol (encs whole), .fz (enc part), .cf, .fz (enc s)]) (fun _ _ => tg_n) ?_ ?_ h76
    · rintro end' touched _ h86
      try dsimp only [List.set_cons_zero, List.set_cons_succ] at h86 ⊢
      refine c_if ?_
      refine c_pureB h86 (b_t (p_in (x := end') (xs := part) (p_fz rfl) (p_fz rfl))) ?_
      refine f_ifJ h86 (fun (s : Bool) => [.fz (enc parts), .fz (enc ends), .ol (encs others), .ol (encs whole), .fz (enc part), .fz (enc end'), .fz (enc s)]) (fun _ => ?_) (fun _ => ?_) ?_
      · refine c_set ?_
        refine c_pure h86 (p_c) fun r91 k92 => ?_
        refine f_setL (v := (true : Bool)) (fun v => .fz (enc v)) h86 k92 .f (by decide) fun touched _ h93 => ?_
        try dsimp only [List.set_cons_zero, List.set_cons_succ] at h93
        exact f_jn h93
      · refine c_next ?_
        exact f_jn h86
      rintro touched _ h95
      try dsimp only [List.set_cons_zero, List.set_cons_succ] at h95 ⊢
      exact f_jc h95
    rintro touched _ h96
    try dsimp only [List.set_cons_zero, List.set_cons_succ] at h96 ⊢
    refine c_nx ?_
    refine c_if ?_
    refine c_pureB h96 (b_truB (p_fz rfl)) ?_
    refine f_ifJ h96 (fun (s : (List (List (Int × Int))) × (List (Int × Int))) => [.fz (enc parts), .fz (enc ends), .ol (encs s.1), .ol (encs s.2), .fz (enc part), .cf, .fz (enc touched)]) (fun _ => ?_) (fun _ => ?_) ?_
    · refine c_set ?_
      refine c_addL ?_
      refine c_pure h96 (p_ol rfl) fun r113 k114 => ?_
      refine f_addL1 (xs := whole) h96 k114 (.v rfl) fun _ h115 => ?_
      refine c_pure h115 (p_fz rfl) fun r116 k117 => ?_
      refine f_addL2 h115 k117 .f fun t118 r119 _ k120 h121 => ?_
      refine f_setL (v := (t118 : List (Int × Int))) (fun v => .ol (encs v)) h121 k120 .w (by decide) fun whole _ h122 => ?_
      try dsimp only [List.set_cons_zero, List.set_cons_succ] at h122
      exact f_jn h122
    · refine c_drop ?_
      refine c_app (ds := encs others) h96 rfl ?_
      refine c_pure h96 (p_fz rfl) fun r124 k125 => ?_
      refine f_app (xs := others) (v := part) h96 k125 .f rfl fun others r126 _ k127 h128 => ?_
      try dsimp only [List.set_cons_zero, List.set_cons_succ] at h128
      refine f_drop ?_
      exact f_jn h128
    rintro ⟨others, whole⟩ _ h129
    try dsimp only [List.set_cons_zero, List.set_cons_succ] at h129 ⊢
    exact f_jc h129
  rintro ⟨others, whole⟩ _ h131
  try dsimp only [List.set_cons_zero, List.set_cons_succ] at h131 ⊢
  refine c_nx ?_
  refine c_seq ?_
  refine c_for ?_
  refine c_it ?_
  refine c_pure h131 (p_fz rfl) fun r132 k133 => ?_
  refine f_it (xs := ends) h131 k133 .f fun _ h134 => ?_
  refine f_fold (fun (s : (List (Int × Int))) => [.fz (enc parts), .fz (enc ends), .ol (encs others), .ol (encs s), .cf, .cf, .cf]) (fun _ _ => tg_n) ?_ ?_ h134
  · rintro end' whole _ h146
    try dsimp only [List.set_cons_zero, List.set_cons_succ] at h146 ⊢
    refine c_if ?_
    refine c_pureB h146 (b_t (p_notIn (x := end') (xs := whole) (p_fz rfl) (p_ol rfl))) ?_
    refine f_ifJ h146 (fun (s : (List (Int × Int))) => [.fz (enc parts), .fz (enc ends), .ol (encs others), .ol (encs s), .cf, .fz (enc end'), .cf]) (fun _ => ?_) (fun _ => ?_) ?_
    · refine c_drop ?_
      refine c_app (ds := encs whole) h146 rfl ?_
      refine c_pure h146 (p_fz rfl) fun r152 k153 => ?_
      refine f_app (xs := whole) (v := end') h146 k153 .f rfl fun whole r154 _ k155 h156 => ?_
      try dsimp only [List.set_cons_zero, List.set_cons_succ] at h156
      refine f_drop ?_
      exact f_jn h156
    · refine c_next ?_
      exact f_jn h146
    rintro whole _ h157
    try dsimp only [List.set_cons_zero, List.set_cons_succ] at h157 ⊢
    exact f_jc h157
  rintro whole _ h158
  try dsimp only [List.set_cons_zero, List.set_cons_succ] at h158 ⊢
  refine c_nx ?_
  refine c_ret ?_
  refine c_addL ?_
  refine c_pure h158 (p_ol rfl) fun r159 k160 => ?_
  refine f_addL1 (xs := others) h158 k160 (.v rfl) fun _ h161 => ?_
  refine c_lst ?_
  refine c_pureA h161 (pa_cons' (p_ol rfl) pa_nil') fun r162 k163 => ?_
  refine f_lst h161 k163 (.cons (.v rfl) .nil) (Nat.le_of_ble_eq_true rfl) fun r164 _ k165 h166 => ?_
  refine f_addL2 h166 k165 .w fun t167 r168 _ k169 h170 => ?_
  refine f_ret ?_
  exact f_rt h170 k169 .w (.f (.f .nil))
def p_parts_of (links : List (List (Int × Int))) : Res ((List (List (Int × Int)))) :=
(Res.ok (([] : List (List (Int × Int))) : List (List (Int × Int)))).bind fun parts =>
(foldR (fun (ends : List (Int × Int)) parts =>
(if (!ends.isEmpty) = true then
(p_joined_parts parts ends).bind fun t35 =>
(Res.ok (t35 : List (List (Int × Int)))).bind fun parts =>
Res.ok parts
else
Res.ok parts).bind fun parts =>
Res.ok parts) links parts).bind fun parts =>
Res.ok parts
theorem ss_parts_of (links : List (List (Int × Int))) : FS false (φ_parts_of [.fz (enc links)]) (p_parts_of links) (fun t => .ol (fzs (encs t))) (fun t => [.fz (enc links)]) := by
  refine fs_mk0 [.fz (enc links), .clr, .clr] rfl (by repeat (first | exact trivial | refine ⟨rfl, ?_⟩)) fun e0 h0 => ?_
  unfold p_parts_of
  unfold d_parts_of
  refine c_seq ?_
  refine c_set ?_
  refine c_pure h0 (p_lst pa_nil' .nil) fun r1 k2 => ?_
  refine f_setL (v := (([] : List (List (Int × Int))) : List (List (Int × Int)))) (fun v => .ol (encs v)) h0 k2 .w (by decide) fun parts _ h3 => ?_
  try dsimp only [List.set_cons_zero, List.set_cons_succ] at h3
  refine c_nx ?_
  refine c_seq ?_
  refine c_for ?_
  refine c_it ?_
  refine c_pure h3 (p_fz rfl) fun r4 k5 => ?_
  refine f_it (xs := links) h3 k5 .f fun _ h6 => ?_
  refine f_fold (fun (s : (List (List (Int × Int)))) => [.fz (enc links), .ol (encs s), .cf]) (fun _ _ => tg_n) ?_ ?_ h6
  · rintro ends parts _ h24
    try dsimp only [List.set_cons_zero, List.set_cons_succ] at h24 ⊢
    refine c_if ?_
    refine c_pureB h24 (b_truL (p_fz rfl)) ?_
    refine f_ifJ h24 (fun (s : (List (List (Int × Int)))) => [.fz (enc links), .ol (encs s), .fz (enc ends)]) (fun _ => ?_) (fun _ => ?_) ?_
    · refine c_set ?_
      refine c_call ?_
      refine c_pureA h24 (pa_cons' (p_ol rfl) (pa_cons' (p_fz rfl) pa_nil')) fun r33 k34 => ?_
      refine f_call h24 k34 (.f (.v rfl) (.f .f .nil)) (ss_joined_parts parts ends) (fun _ => (.f (.f .nil))) (fun _ => rk_w) fun t35 r36 _ k37 h38 => ?_
      try dsimp only [List.set_cons_zero, List.set_cons_succ] at h38
      refine f_setL (v := (t35 : List (List (Int × Int)))) (fun v => .ol (encs v)) h38 k37 .w (by decide) fun parts _ h39 => ?_
      try dsimp only [List.set_cons_zero, List.set_cons_succ] at h39
      exact f_jn h39
    · refine c_next ?_
      exact f_jn h24
    rintro parts _ h41
    try dsimp only [List.set_cons_zero, List.set_cons_succ] at h41 ⊢
    exact f_jc h41
  rintro parts _ h42
  try dsimp only [List.set_cons_zero, List.set_cons_succ] at h42 ⊢
  refine c_nx ?_
  refine c_ret ?_
  refine c_pure h42 (p_ol rfl) fun r43 k44 => ?_
  refine f_ret ?_
  exact f_rt h42 k44 (.v rfl (by decide)) (.f .nil)
def r_passing_in_4 : M Fl := (dSeq (dIf (dAnd (dT (dOp fEq (dVar 3) (dC (.int 0)))) (dT (dOp fEq (dVar 2) (dCB lenD (dCons (dVar 0) dNil))))) (dRet (dC (.int 2))) dNext) (dSeq (dIf (dAnd (dT (dOp fEq (dVar 3) (dC (.int 1)))) (dT (dOp fEq (dVar 2) (dOp (fI (· - ·)) (dCB lenD (dCons (dVar 0) dNil)) (dC (.int 1)))))) (dRet (dC (.int 1))) dNext) (dRet (dC (.int 0)))))
def p_passing_in_4 (part : List (Int × Int)) (links : List (List (Int × Int))) (whole : Int) (half : Int) : Res Int :=
if ((decide (half = 0)) && (decide (whole = (part.length : Int)))) = true then
Res.ok 2
else
if ((decide (half = 1)) && (decide (whole = ((part.length : Int) - 1)))) = true then
Res.ok 1
else
Res.ok 0
theorem ss_passing_in_4 (part : List (Int × Int)) (links : List (List (Int × Int))) (whole : Int) (half : Int) (e0 : VF.Env) (h0 : Has (pinIx 0 [false, false]) [.fz (enc part), .fz (enc links), .fz (enc whole), .fz (enc half), .cf] e0) : Sm ((r_passing_in_4 e0).bind okK) (p_passing_in_4 part links whole half) (GF [false, false] [.fz (enc part), .fz (enc links)] (fun t => .fz (enc t)) (fun t => [.fz (enc part), .fz (enc links)])) (fun _ _ => False) := by
  unfold p_passing_in_4
  unfold r_passing_in_4
  refine c_seq ?_
  refine c_if ?_
  refine c_pureB h0 (b_and (b_t (p_eq (x := half) (y := 0) (p_fz rfl) (p_c))) (b_t (p_eq (x := whole) (y := (part.length : Int)) (p_fz rfl) (p_len (p_fz rfl))))) ?_
  refine f_if (fun _ => ?_) (fun _ => ?_)
  · refine c_ret ?_
    refine c_pure h0 (p_c) fun r1 k2 => ?_
    refine f_ret ?_
    exact f_rt h0 k2 .f (.f (.f .nil))
  · refine c_next ?_
    refine c_nx ?_
    refine c_seq ?_
    refine c_if ?_
    refine c_pureB h0 (b_and (b_t (p_eq (x := half) (y := 1) (p_fz rfl) (p_c))) (b_t (p_eq (x := whole) (y := ((part.length : Int) - 1)) (p_fz rfl) (p_int (p_len (p_fz rfl)) (p_c))))) ?_
    refine f_if (fun _ => ?_) (fun _ => ?_)
    · refine c_ret ?_
      refine c_pure h0 (p_c) fun r3 k4 => ?_
      refine f_ret ?_
      exact f_rt h0 k4 .f (.f (.f .nil))
    · refine c_next ?_
      refine c_nx ?_
      refine c_ret ?_
      refine c_pure h0 (p_c) fun r5 k6 => ?_
      refine f_ret ?_
      exact f_rt h0 k6 .f (.f (.f .nil))
def p_passing_in (part : List (Int × Int)) (links : List (List (Int × Int))) : Res Int :=
(Res.ok (0 : Int)).bind fun whole =>
(Res.ok (0 : Int)).bind fun half =>
(foldR (fun (ends : List (Int × Int)) (whole, half) =>
(if (!ends.isEmpty) = true then
(geti ends 0).bind fun t51 =>
Res.ok (memD t51 part)
else Res.ok false).bind fun t54 =>
(if t54 = true then
(Res.ok (whole + ((ends.length : Int) / 2))).bind fun whole =>
(Res.ok (half + (2 - (ends.length : Int)))).bind fun half =>
Res.ok (whole, half)
else
Res.ok (whole, half)).bind fun (whole, half) =>
Res.ok (whole, half)) links (whole, half)).bind fun (whole, half) =>
if ((decide (half = 0)) && (decide (whole = ((part.length : Int) - 1)))) = true then
Res.ok (part.length : Int)
else
p_passing_in_4 part links whole half
theorem ss_passing_in (part : List (Int × Int)) (links : List (List (Int × Int))) : FS false (φ_passing_in [.fz (enc part), .fz (enc links)]) (p_passing_in part links) (fun t => .fz (enc t)) (fun t => [.fz (enc part), .fz (enc links)]) := by
  refine fs_mk0 [.fz (enc part), .fz (enc links), .clr, .clr, .clr] rfl (by repeat (first | exact trivial | refine ⟨rfl, ?_⟩)) fun e0 h0 => ?_
  unfold p_passing_in
  unfold d_passing_in
  refine c_seq ?_
  refine c_set ?_
  refine c_pure h0 (p_c) fun r1 k2 => ?_
  refine f_setL (v := (0 : Int)) (fun v => .fz (enc v)) h0 k2 .f (by decide) fun whole _ h3 => ?_
  try dsimp only [List.set_cons_zero, List.set_cons_succ] at h3
  refine c_nx ?_
  refine c_seq ?_
  refine c_set ?_
  refine c_pure h3 (p_c) fun r4 k5 => ?_
  refine f_setL (v := (0 : Int)) (fun v => .fz (enc v)) h3 k5 .f (by decide) fun half _ h6 => ?_
  try dsimp only [List.set_cons_zero, List.set_cons_succ] at h6
  refine c_nx ?_
  refine c_seq ?_
  refine c_for ?_
  refine c_it ?_
  refine c_pure h6 (p_fz rfl) fun r7 k8 => ?_
  refine f_it (xs := links) h6 k8 .f fun _ h9 => ?_
  refine f_fold (fun (s : Int × Int) => [.fz (enc part), .fz (enc links), .fz (enc s.1), .fz (enc s.2), .cf]) (fun _ _ => tg_n) ?_ ?_ h9
  · rintro ends ⟨whole, half⟩ _ h39
    try dsimp only [List.set_cons_zero, List.set_cons_succ] at h39 ⊢
    refine c_if ?_
    refine c_and ?_
    refine c_pureB h39 (b_truL (p_fz rfl)) ?_
    refine f_and h39 (fun _ => ?_) fun t54 _ h55 => ?_
    · refine c_t ?_
      refine c_op ?_
      refine c_ix ?_
      refine c_pure h39 (p_fz rfl) fun r47 k48 => ?_
      refine c_ix2 ?_
      refine c_pure h39 (p_c) fun r49 k50 => ?_
      refine f_ix (xs := ends) h39 k48 k50 fun t51 => ?_
      refine c_op2 ?_
      refine c_pure h39 (p_fz rfl) fun r52 k53 => ?_
      refine f_in (u := t51) (us := part) h39 rk_f k53 ?_
      refine f_t h39 rk_f ?_
      exact f_tb (h39.weak (by first | exact W.refl _ | (repeat (first | exact W.nil | refine W.rf ?_ | refine W.cz ?_ | refine W.cc ?_ | refine W.vz ?_ | refine W.vo ?_ | refine W.an ?_))))
    refine f_ifJ h55 (fun (s : Int × Int) => [.fz (enc part), .fz (enc links), .fz (enc s.1), .fz (enc s.2), .fz (enc ends)]) (fun _ => ?_) (fun _ => ?_) ?_
    · refine c_seq ?_
      refine c_aug h55 rfl ?_
      refine c_pure h55 (p_divK (p_len (p_fz rfl)) (p_c) (h := by decide)) fun r62 k63 => ?_
      refine f_aug h55 k63 (fun whole _ h64 => ?_)
      try dsimp only [List.set_cons_zero, List.set_cons_succ] at h64
      refine c_nx ?_
      refine c_aug h64 rfl ?_
      refine c_pure h64 (p_int (p_c) (p_len (p_fz rfl))) fun r65 k66 => ?_
      refine f_aug h64 k66 (fun half _ h67 => ?_)
      try dsimp only [List.set_cons_zero, List.set_cons_succ] at h67
      exact f_jn h67
    · refine c_next ?_
      exact f_jn h55
    rintro ⟨whole, half⟩ _ h68
    try dsimp only [List.set_cons_zero, List.set_cons_succ] at h68 ⊢
    exact f_jc h68
  rintro ⟨whole, half⟩ _ h69
  try dsimp only [List.set_cons_zero, List.set_cons_succ] at h69 ⊢
  refine c_nx ?_
  refine c_seq ?_
  refine c_if ?_
  refine c_pureB h69 (b_and (b_t (p_eq (x := half) (y := 0) (p_fz rfl) (p_c))) (b_t (p_eq (x := whole) (y := ((part.length : Int) - 1)) (p_fz rfl) (p_int (p_len (p_fz rfl)) (p_c))))) ?_
  refine f_if (fun _ => ?_) (fun _ => ?_)
  · refine c_ret ?_
    refine c_pure h69 (p_len (p_fz rfl)) fun r70 k71 => ?_
    refine f_ret ?_
    exact f_rt h69 k71 .f (.f (.f .nil))
  · refine c_next ?_
    refine c_nx ?_
    exact ss_passing_in_4 part links whole half _ (h69.weak (by first | exact W.refl _ | (repeat (first | exact W.nil | refine W.rf ?_ | refine W.cz ?_ | refine W.cc ?_ | refine W.vz ?_ | refine W.vo ?_ | refine W.an ?_))))
def p_passing (left : List (Option Int)) (right : List (Option Int)) : Res Int :=
(p_links_of left right).bind fun t3 =>
(Res.ok (t3 : List (List (Int × Int)))).bind fun links =>
(Res.ok (1 : Int)).bind fun count =>
(foldR (fun (ends : List (Int × Int)) count =>
(if (!(!ends.isEmpty)) = true then
(Res.ok (0 : Int)).bind fun count =>
Res.ok count
else
Res.ok count).bind fun count =>
Res.ok count) links count).bind fun count =>
(p_parts_of links).bind fun t36 =>
(foldR (fun (part : List (Int × Int)) count =>
(p_passing_in part links).bind fun t56 =>
(mulR count t56).bind fun t59 =>
(Res.ok (t59 : Int)).bind fun count =>
Res.ok count) t36 count).bind fun count =>
Res.ok count
theorem ss_passing (left : List (Option Int)) (right : List (Option Int)) : FS false (φ_passing [.fz (enc left), .fz (enc right)]) (p_passing left right) (fun t => .fz (enc t)) (fun t => [.fz (enc left), .fz (enc right)]) := by
  refine fs_mk0 [.fz (enc left), .fz (enc right), .clr, .clr, .clr, .clr] rfl (by repeat (first | exact trivial | refine ⟨rfl, ?_⟩)) fun e0 h0 => ?_
  unfold p_passing
  unfold d_passing
  refine c_seq ?_
  refine c_set ?_
  refine c_call ?_
  refine c_pureA h0 (pa_cons' (p_fz rfl) (pa_cons' (p_fz rfl) pa_nil')) fun r1 k2 => ?_
  refine f_call h0 k2 (.f .f (.f .f .nil)) (ss_links_of left right) (fun _ => (.f (.f .nil))) (fun _ => rk_w) fun t3 r4 _ k5 h6 => ?_
  try dsimp only [List.set_cons_zero, List.set_cons_succ] at h6
  refine f_setL (v := (t3 : List (List (Int × Int)))) (fun v => .ol (encs v)) h6 k5 .w (by decide) fun links _ h7 => ?_
  try dsimp only [List.set_cons_zero, List.set_cons_succ] at h7
  refine c_nx ?_
  refine c_seq ?_
  refine c_set ?_
  refine c_pure h7 (p_c) fun r8 k9 => ?_
  refine f_setL (v := (1 : Int)) (fun v => .fz (enc v)) h7 k9 .f (by decide) fun count _ h10 => ?_
  try dsimp only [List.set_cons_zero, List.set_cons_succ] at h10
  refine c_nx ?_
  refine c_seq ?_
  refine c_for ?_
  refine c_it ?_
  refine c_pure h10 (p_ol rfl) fun r11 k12 => ?_
  refine f_it (xs := links) h10 k12 (.v rfl) fun _ h13 => ?_
  refine f_fold (fun (s : Int) => [.fz (enc left), .fz (enc right), .fz (enc links), .fz (enc s), .cf, .clr]) (fun _ _ => tg_n) ?_ ?_ h13
  · rintro ends count _ h23
    try dsimp only [List.set_cons_zero, List.set_cons_succ] at h23 ⊢
    refine c_if ?_
    refine c_pureB h23 (b_not (b_truL (p_fz rfl))) ?_
    refine f_ifJ h23 (fun (s : Int) => [.fz (enc left), .fz (enc right), .fz (enc links), .fz (enc s), .fz (enc ends), .clr]) (fun _ => ?_) (fun _ => ?_) ?_
    · refine c_set ?_
      refine c_pure h23 (p_c) fun r28 k29 => ?_
      refine f_setL (v := (0 : Int)) (fun v => .fz (enc v)) h23 k29 .f (by decide) fun count _ h30 => ?_
      try dsimp only [List.set_cons_zero, List.set_cons_succ] at h30
      exact f_jn h30
    · refine c_next ?_
      exact f_jn h23
    rintro count _ h32
    try dsimp only [List.set_cons_zero, List.set_cons_succ] at h32 ⊢
    exact f_jc h32
  rintro count _ h33
  try dsimp only [List.set_cons_zero, List.set_cons_succ] at h33 ⊢
  refine c_nx ?_
  refine c_seq ?_
  refine c_for ?_
  refine c_it ?_
  refine c_call ?_
  refine c_pureA h33 (pa_cons' (p_fz rfl) pa_nil') fun r34 k35 => ?_
  refine f_call h33 k35 (.f .f .nil) (ss_parts_of links) (fun _ => (.f .nil)) (fun _ => rk_w) fun t36 r37 _ k38 h39 => ?_
  try dsimp only [List.set_cons_zero, List.set_cons_succ] at h39
  refine f_it (xs := t36) h39 k38 .w fun _ h40 => ?_
  refine f_fold (fun (s : Int) => [.fz (enc left), .fz (enc right), .fz (enc links), .fz (enc s), .cf, .cf]) (fun _ _ => tg_n) ?_ ?_ h40
  · rintro part count _ h51
    try dsimp only [List.set_cons_zero, List.set_cons_succ] at h51 ⊢
    refine c_set ?_
    refine c_op ?_
    refine c_pure h51 (p_fz rfl) fun r52 k53 => ?_
    refine c_op2 ?_
    refine c_callB ?_
    refine c_pureA h51 (pa_cons' (p_fz rfl) (pa_cons' (p_fz rfl) pa_nil')) fun r54 k55 => ?_
    refine f_callB h51 k55 (.cons .f (.cons .f .nil)) rfl (ss_passing_in part links) imm_I fun t56 r57 k58 => ?_
    refine f_mul h51 k53 k58 (kk := fun t59 => ?_)
    refine f_setL (v := (t59 : Int)) (fun v => .fz (enc v)) h51 rk_f .f (by decide) fun count _ h60 => ?_
    try dsimp only [List.set_cons_zero, List.set_cons_succ] at h60
    exact f_jc h60
  rintro count _ h62
  try dsimp only [List.set_cons_zero, List.set_cons_succ] at h62 ⊢
  refine c_nx ?_
  refine c_ret ?_
  refine c_pure h62 (p_fz rfl) fun r63 k64 => ?_
  refine f_ret ?_
  exact f_rt h62 k64 .f (.f (.f .nil))
def p__law_claim (boxH : Bx) (many : Int) : Res (Option Int × Bx) :=
(p__law_draw boxH 6).bind fun (t3, boxH) =>
if (decide (t3 = 0)) = true then
Res.ok ((none : Option Int), boxH)
else
(p__law_draw boxH 900).bind fun (t13, boxH) =>
(modR t13 many).bind fun t19 =>
Res.ok ((some t19), boxH)
theorem ss__law_claim (boxH : Bx) (many : Int) : FS false (φ__law_claim [.ol (fzs (boxD boxH)), .fz (enc many)]) (p__law_claim boxH many) (fun t => .fz (enc t.1)) (fun t => [.ol (fzs (boxD t.2)), .fz (enc many)]) := by
  refine fs_mk0 [.ol (boxD boxH), .fz (enc many)] rfl (by repeat (first | exact trivial | refine ⟨rfl, ?_⟩)) fun e0 h0 => ?_
  unfold p__law_claim
  unfold d__law_claim
  refine c_seq ?_
  refine c_if ?_
  refine c_t ?_
  refine c_op ?_
  refine c_call ?_
  refine c_pureA h0 (pa_cons' (p_ol rfl) (pa_cons' (p_c) pa_nil')) fun r1 k2 => ?_
  refine f_call h0 k2 (.t rfl (.f .f .nil)) (ss__law_draw boxH 6) (fun _ => (.t rfl (.f .nil))) (fun _ => rk_f) ?_
  rintro ⟨t3, boxH⟩ r4 _ k5 h6
  try dsimp only [List.set_cons_zero, List.set_cons_succ] at h6 ⊢
  refine c_op2 ?_
  refine c_pure h6 (p_c) fun r7 k8 => ?_
  refine f_eq (u := t3) (v := 0) h6 k5 k8 ?_
  refine f_t h6 rk_f ?_
  refine f_if (fun _ => ?_) (fun _ => ?_)
  · refine c_ret ?_
    refine c_pure h6 (p_c) fun r9 k10 => ?_
    refine f_ret ?_
    exact f_rt h6 k10 .f (.t rfl (.f .nil))
  · refine c_next ?_
    refine c_nx ?_
    refine c_ret ?_
    refine c_op ?_
    refine c_cb ?_
    refine c_cons ?_
    refine c_call ?_
    refine c_pureA h6 (pa_cons' (p_ol rfl) (pa_cons' (p_c) pa_nil')) fun r11 k12 => ?_
    refine f_call h6 k12 (.t rfl (.f .f .nil)) (ss__law_draw boxH 900) (fun _ => (.t rfl (.f .nil))) (fun _ => rk_f) ?_
    rintro ⟨t13, boxH⟩ r14 _ k15 h16
    try dsimp only [List.set_cons_zero, List.set_cons_succ] at h16 ⊢
    refine c_cons2 ?_
    refine c_nil ?_
    refine f_cons ?_
    refine f_toInt h16 k15 ?_
    refine c_op2 ?_
    refine c_pure h16 (p_fz rfl) fun r17 k18 => ?_
    refine f_mod h16 rk_f k18 (kk := fun t19 => ?_)
    refine f_ret ?_
    exact f_rt h16 rk_f .f (.t rfl (.f .nil))
def p__law_free (left : List (Option Int)) (right : List (Option Int)) (coins : List Int) : Res Bool :=
(rng1R ((coins.length : Int))).bind fun xs3 =>
(mapC (fun k' =>
(geti coins k').bind fun t9 =>
(geti coins k').bind fun t16 =>
(geti (([left, right] : List (List (Option Int)))) t16).bind fun t17 =>
(geti t17 k').bind fun t20 =>
Res.ok ((t9, t20))) xs3).bind fun t24 =>
(Res.ok (t24 : List (Int × (Option Int)))).bind fun links =>
(rng1R ((coins.length : Int))).bind fun xs31 =>
(filC (fun k' =>
(geti links k').bind fun t82 =>
(if t82.2.isNone = true then Res.ok true else
(geti links k').bind fun t101 =>
Res.ok (memD t101 ((cutL links none (some k'))))).bind fun t107 =>
if t107 = true then
Res.ok (some k')
else Res.ok none) xs31).bind fun t112 =>
Res.ok (decide (t112 = ([] : List Int)))
theorem ss__law_free (left : List (Option Int)) (right : List (Option Int)) (coins : List Int) : FS false (φ__law_free [.fz (enc left), .fz (enc right), .fz (enc coins)]) (p__law_free left right coins) (fun t => .fz (enc t)) (fun t => [.fz (enc left), .fz (enc right), .fz (enc coins)]) := by
  refine fs_mk0 [.fz (enc left), .fz (enc right), .fz (enc coins), .clr, .clr] rfl (by repeat (first | exact trivial | refine ⟨rfl, ?_⟩)) fun e0 h0 => ?_
  unfold p__law_free
  unfold d__law_free
  refine c_seq ?_
  refine c_set ?_
  refine c_comp ?_
  refine c_rng1 ?_
  refine c_pureA h0 (pa_cons' (p_len (p_fz rfl)) pa_nil') fun r1 k2 => ?_
  refine f_rng1' h0 k2 fun xs3 => ?_
  refine f_mapC (ψ := Int × (Option Int)) h0 (fun _ => tg_n) ?_ fun t24 r25 _ k26 h27 => ?_
  · rintro k' _ h4
    try dsimp only [List.set_cons_zero, List.set_cons_succ, wipeS] at h4 ⊢
    refine c_tup ?_
    refine c_cons ?_
    refine c_ix ?_
    refine c_pure h4 (p_fz rfl) fun r5 k6 => ?_
    refine c_ix2 ?_
    refine c_pure h4 (p_fz rfl) fun r7 k8 => ?_
    refine f_ix (xs := coins) h4 k6 k8 fun t9 => ?_
    refine c_cons2 ?_
    refine c_cons ?_
    refine c_ix ?_
    refine c_ix ?_
    refine c_pure h4 (p_lst (pa_cons' (p_fz rfl) (pa_cons' (p_fz rfl) pa_nil')) (.cons .f (.cons .f .nil))) fun r10 k11 => ?_
    refine c_ix2 ?_
    refine c_ix ?_
    refine c_pure h4 (p_fz rfl) fun r12 k13 => ?_
    refine c_ix2 ?_
    refine c_pure h4 (p_fz rfl) fun r14 k15 => ?_
    refine f_ix (xs := coins) h4 k13 k15 fun t16 => ?_
    refine f_ix (xs := ([left, right] : List (List (Option Int)))) h4 k11 rk_f fun t17 => ?_
    refine c_ix2 ?_
    refine c_pure h4 (p_fz rfl) fun r18 k19 => ?_
    refine f_ix (xs := t17) h4 rk_f k19 fun t20 => ?_
    refine c_cons2 ?_
    refine c_nil ?_
    refine f_cons ?_
    refine f_cons ?_
    refine f_tup h4 (rks rk_f (rks rk_f rks0)) (.cons .f (.cons .f .nil)) (Nat.le_of_ble_eq_true rfl) fun r21 _ k22 h23 => ?_
    exact f_el (v := (t9, t20)) h23 k22
  refine f_setL (v := (t24 : List (Int × (Option Int)))) (fun v => .ol (encs v)) h27 k26 .w (by decide) fun links _ h28 => ?_
  try dsimp only [List.set_cons_zero, List.set_cons_succ] at h28
  refine c_nx ?_
  refine c_ret ?_
  refine c_op ?_
  refine c_comp ?_
  refine c_rng1 ?_
  refine c_pureA h28 (pa_cons' (p_len (p_fz rfl)) pa_nil') fun r29 k30 => ?_
  refine f_rng1' h28 k30 fun xs31 => ?_
  refine c_weak (S' := [.fz (enc left), .fz (enc right), .fz (enc coins), .val (enc links), .clr]) h28 (fun h111 => ?_)
  refine f_filC (ψ := Int) h111 (fun _ => tg_n) ?_ fun t112 r113 _ k114 h115 => ?_
  · rintro k' _ h77
    try dsimp only [List.set_cons_zero, List.set_cons_succ, wipeS] at h77 ⊢
    refine c_or ?_
    refine c_t ?_
    refine c_op ?_
    refine c_ix ?_
    refine c_ix ?_
    refine c_pure h77 (p_val rfl) fun r78 k79 => ?_
    refine c_ix2 ?_
    refine c_pure h77 (p_fz rfl) fun r80 k81 => ?_
    refine f_ix (xs := links) h77 k79 k81 fun t82 => ?_
    refine c_ix2 ?_
    refine c_pure h77 (p_c) fun r83 k84 => ?_
    refine f_ixTup h77 rk_f k84 rfl ?_
    refine c_op2 ?_
    refine c_pure h77 (p_c) fun r85 k86 => ?_
    refine f_isN (u := t82.2) h77 rk_f k86 ?_
    refine f_t h77 rk_f ?_
    refine f_or h77 (fun _ => ?_) fun t107 _ h108 => ?_
    · refine c_t ?_
      refine c_op ?_
      refine c_ix ?_
      refine c_pure h77 (p_val rfl) fun r97 k98 => ?_
      refine c_ix2 ?_
      refine c_pure h77 (p_fz rfl) fun r99 k100 => ?_
      refine f_ix (xs := links) h77 k98 k100 fun t101 => ?_
      refine c_op2 ?_
      refine c_sl ?_
      refine c_pure h77 (p_val rfl) fun r102 k103 => ?_
      refine f_sl h77 k103 (.u rfl) pp_no (pp_at (p_fz rfl)) fun r104 _ k105 h106 => ?_
      refine f_in (u := t101) (us := (cutL links none (some k'))) h106 rk_f k105 ?_
      refine f_t h106 rk_f ?_
      exact f_tb (h106.weak (by first | exact W.refl _ | (repeat (first | exact W.nil | refine W.rf ?_ | refine W.cz ?_ | refine W.cc ?_ | refine W.vz ?_ | refine W.vo ?_ | refine W.an ?_))))
    refine f_cmp' (fun _ => ?_) (fun _ => ?_)
    · refine c_pure h108 (p_fz rfl) fun r109 k110 => ?_
      exact f_elo (v := k') h108 k110
    · exact f_elno h108
  refine c_op2 ?_
  refine c_pure h115 (p_lst pa_nil' .nil) fun r116 k117 => ?_
  refine f_eq (u := t112) (v := ([] : List Int)) h115 k114 k117 ?_
  refine f_ret ?_
  exact f_rt h115 rk_f .f (.f (.f (.f .nil)))
def r_law_5 : M Fl := (dSeq d_law_5 (dSeq d_law_6 d_law_7))
def p_law_5 (script : List Int) (many : Int) (left : List (Option Int)) (right : List (Option Int)) (worths : List Int) : Res Bool :=
(Res.ok (0 : Int)).bind fun count =>
(geti worths many).bind fun t8 =>
(rng1R t8).bind fun xs9 =>
(foldR (fun (number : Int) count =>
(rng1R many).bind fun xs51 =>
(mapC (fun k' =>
(geti worths k').bind fun t59 =>
(divR number t59).bind fun t60 =>
Res.ok ((t60 % 2))) xs51).bind fun t63 =>
(p__law_free left right t63).bind fun t67 =>
(if t67 = true then
(Res.ok ((count + 1) : Int)).bind fun count =>
Res.ok count
else
Res.ok count).bind fun count =>
Res.ok count) xs9 count).bind fun count =>
(p_passing_plainly left right).bind fun t82 =>
(p__law_same t82 count).bind fun t87 =>
(if t87 = true then
(p_passing left right).bind fun t102 =>
(p__law_same t102 count).bind fun t107 =>
Res.ok t107
else Res.ok false).bind fun t110 =>
Res.ok t110
theorem ss_law_5 (script : List Int) (many : Int) (left : List (Option Int)) (right : List (Option Int)) (worths : List Int) (e0 : VF.Env) (h0 : Has (pinIx 0 [false]) [.fz (.scr script), .any, .fz (enc many), .ol (encs left), .ol (encs right), .ol (encs worths), .cf, .cf, .cf] e0) : Sm ((r_law_5 e0).bind okK) (p_law_5 script many left right worths) (GF [false] [.fz (.scr script)] (fun t => .fz (enc t)) (fun t => [.fz (.scr script)])) (fun _ _ => False) := by
  unfold p_law_5
  unfold r_law_5
  refine c_seq ?_
  refine c_set ?_
  refine c_pure h0 (p_c) fun r1 k2 => ?_
  refine f_setL (v := (0 : Int)) (fun v => .fz (enc v)) h0 k2 .f (by decide) fun count _ h3 => ?_
  try dsimp only [List.set_cons_zero, List.set_cons_succ] at h3
  refine c_nx ?_
  refine c_seq ?_
  refine c_for ?_
  refine c_rng1 ?_
  refine c_cons ?_
  refine c_ix ?_
  refine c_pure h3 (p_ol rfl) fun r4 k5 => ?_
  refine c_ix2 ?_
  refine c_pure h3 (p_fz rfl) fun r6 k7 => ?_
  refine f_ix (xs := worths) h3 k5 k7 fun t8 => ?_
  refine c_cons2 ?_
  refine c_nil ?_
  refine f_cons ?_
  refine f_rng1' h3 (rks rk_f rks0) fun xs9 => ?_
  refine f_fold (fun (s : Int) => [.fz (.scr script), .any, .fz (enc many), .ol (encs left), .ol (encs right), .ol (encs worths), .fz (enc s), .cf, .cf]) (fun _ _ => tg_n) ?_ ?_ h3
  · rintro number count _ h44
    try dsimp only [List.set_cons_zero, List.set_cons_succ] at h44 ⊢
    refine c_if ?_
    refine c_tru ?_
    refine c_callB ?_
    refine c_cons ?_
    refine c_pure h44 (p_ol rfl) fun r45 k46 => ?_
    refine c_cons2 ?_
    refine c_cons ?_
    refine c_pure h44 (p_ol rfl) fun r47 k48 => ?_
    refine c_cons2 ?_
    refine c_cons ?_
    refine c_comp ?_
    refine c_rng1 ?_
    refine c_pureA h44 (pa_cons' (p_fz rfl) pa_nil') fun r49 k50 => ?_
    refine f_rng1' h44 k50 fun xs51 => ?_
    refine f_mapC (ψ := Int) h44 (fun _ => tg_n) ?_ fun t63 r64 _ k65 h66 => ?_
    · rintro k' _ h52
      try dsimp only [List.set_cons_zero, List.set_cons_succ, wipeS] at h52 ⊢
      refine c_op ?_
      refine c_cb ?_
      refine c_cons ?_
      refine c_op ?_
      refine c_pure h52 (p_fz rfl) fun r53 k54 => ?_
      refine c_op2 ?_
      refine c_ix ?_
      refine c_pure h52 (p_ol rfl) fun r55 k56 => ?_
      refine c_ix2 ?_
      refine c_pure h52 (p_fz rfl) fun r57 k58 => ?_
      refine f_ix (xs := worths) h52 k56 k58 fun t59 => ?_
      refine f_div h52 k54 rk_f (kk := fun t60 => ?_)
      refine c_cons2 ?_
      refine c_nil ?_
      refine f_cons ?_
      refine f_toInt h52 rk_f ?_
      refine c_op2 ?_
      refine c_pure h52 (p_c) fun r61 k62 => ?_
      refine f_modK h52 rk_f k62 ?_
      exact f_el (v := (t60 % 2)) h52 rk_f
    refine c_cons2 ?_
    refine c_nil ?_
    refine f_cons ?_
    refine f_cons ?_
    refine f_cons ?_
    refine f_callB h66 (rks k46 (rks k48 (rks k65 rks0))) (.cons (.v rfl) (.cons (.v rfl) (.cons .w .nil))) rfl (ss__law_free left right t63) imm_B fun t67 r68 k69 => ?_
    refine f_truB h66 k69 ?_
    refine f_ifJ h66 (fun (s : Int) => [.fz (.scr script), .any, .fz (enc many), .ol (encs left), .ol (encs right), .ol (encs worths), .fz (enc s), .fz (enc number), .cf]) (fun _ => ?_) (fun _ => ?_) ?_
    · refine c_set ?_
      refine c_pure h66 (p_int (p_fz rfl) (p_c)) fun r74 k75 => ?_
      refine f_setL (v := ((count + 1) : Int)) (fun v => .fz (enc v)) h66 k75 .f (by decide) fun count _ h76 => ?_
      try dsimp only [List.set_cons_zero, List.set_cons_succ] at h76
      exact f_jn h76
    · refine c_next ?_
      exact f_jn h66
    rintro count _ h78
    try dsimp only [List.set_cons_zero, List.set_cons_succ] at h78 ⊢
    exact f_jc h78
  rintro count _ h79
  try dsimp only [List.set_cons_zero, List.set_cons_succ] at h79 ⊢
  refine c_nx ?_
  refine c_ret ?_
  refine c_andV ?_
  refine c_callB ?_
  refine c_cons ?_
  refine c_callB ?_
  refine c_pureA h79 (pa_cons' (p_ol rfl) (pa_cons' (p_ol rfl) pa_nil')) fun r80 k81 => ?_
  refine f_callB h79 k81 (.cons (.v rfl) (.cons (.v rfl) .nil)) rfl (ss_passing_plainly left right) imm_I fun t82 r83 k84 => ?_
  refine c_cons2 ?_
  refine c_cons ?_
  refine c_pure h79 (p_fz rfl) fun r85 k86 => ?_
  refine c_cons2 ?_
  refine c_nil ?_
  refine f_cons ?_
  refine f_cons ?_
  refine f_callB h79 (rks k84 (rks k86 rks0)) (.cons .f (.cons .f .nil)) rfl (ss__law_same t82 count) imm_B fun t87 r88 k89 => ?_
  refine f_andV h79 k89 (fun _ => ?_) fun t110 _ h111 => ?_
  · refine c_callB ?_
    refine c_cons ?_
    refine c_callB ?_
    refine c_pureA h79 (pa_cons' (p_ol rfl) (pa_cons' (p_ol rfl) pa_nil')) fun r100 k101 => ?_
    refine f_callB h79 k101 (.cons (.v rfl) (.cons (.v rfl) .nil)) rfl (ss_passing left right) imm_I fun t102 r103 k104 => ?_
    refine c_cons2 ?_
    refine c_cons ?_
    refine c_pure h79 (p_fz rfl) fun r105 k106 => ?_
    refine c_cons2 ?_
    refine c_nil ?_
    refine f_cons ?_
    refine f_cons ?_
    refine f_callB h79 (rks k104 (rks k106 rks0)) (.cons .f (.cons .f .nil)) rfl (ss__law_same t102 count) imm_B fun t107 r108 k109 => ?_
    exact f_ve (h79.weak (by first | exact W.refl _ | (repeat (first | exact W.nil | refine W.rf ?_ | refine W.cz ?_ | refine W.cc ?_ | refine W.vz ?_ | refine W.vo ?_ | refine W.an ?_)))) k109
  refine f_ret ?_
  exact f_rt h111 rk_f .f (.f .nil)
noncomputable def p_law (script : List Int) : Res Bool :=
(p__law_box script 0 4).bind fun t3 =>
(Res.ok (t3 : Bx)).bind fun boxH =>
(p__law_draw boxH 8).bind fun (t10, boxH) =>
(Res.ok (t10 : Int)).bind fun many =>
(rng1R many).bind fun xs17 =>
(mapS (fun k' boxH =>
(p__law_claim boxH many).bind fun (t21, boxH) =>
Res.ok (t21, boxH)) xs17 boxH).bind fun (t25, boxH) =>
(Res.ok (t25 : List (Option Int))).bind fun left =>
(rng1R many).bind fun xs32 =>
(mapS (fun k' boxH =>
(p__law_claim boxH many).bind fun (t36, boxH) =>
Res.ok (t36, boxH)) xs32 boxH).bind fun (t40, boxH) =>
(Res.ok (t40 : List (Option Int))).bind fun right =>
(Res.ok (([1, 2, 4, 8, 16, 32, 64, 128] : List Int) : List Int)).bind fun worths =>
p_law_5 script many left right worths
theorem ss_law (script : List Int) : FS false (φ_law [.fz (.scr script)]) (p_law script) (fun t => .fz (enc t)) (fun t => [.fz (.scr script)]) := by
  refine fs_mk0 [.fz (.scr script), .clr, .clr, .clr, .clr, .clr, .clr, .clr, .clr] rfl (by repeat (first | exact trivial | refine ⟨rfl, ?_⟩)) fun e0 h0 => ?_
  unfold p_law
  unfold d_law
  refine c_seq ?_
  refine c_set ?_
  refine c_call ?_
  refine c_pureA h0 (pa_cons' (p_fz rfl) (pa_cons' (p_c) (pa_cons' (p_c) pa_nil'))) fun r1 k2 => ?_
  refine f_call h0 k2 (.f .f (.f .f (.f .f .nil))) (ss__law_box script 0 4) (fun _ => (.f (.f (.f .nil)))) (fun _ => rk_w) fun t3 r4 _ k5 h6 => ?_
  try dsimp only [List.set_cons_zero, List.set_cons_succ] at h6
  refine f_setL (v := (t3 : Bx)) (fun v => .ol (boxD v)) h6 k5 .w (by decide) fun boxH _ h7 => ?_
  try dsimp only [List.set_cons_zero, List.set_cons_succ] at h7
  refine c_nx ?_
  refine c_seq ?_
  refine c_set ?_
  refine c_call ?_
  refine c_pureA h7 (pa_cons' (p_ol rfl) (pa_cons' (p_c) pa_nil')) fun r8 k9 => ?_
  refine f_call h7 k9 (.t rfl (.f .f .nil)) (ss__law_draw boxH 8) (fun _ => (.t rfl (.f .nil))) (fun _ => rk_f) ?_
  rintro ⟨t10, boxH⟩ r11 _ k12 h13
  try dsimp only [List.set_cons_zero, List.set_cons_succ] at h13 ⊢
  refine f_setL (v := (t10 : Int)) (fun v => .fz (enc v)) h13 k12 .f (by decide) fun many _ h14 => ?_
  try dsimp only [List.set_cons_zero, List.set_cons_succ] at h14
  refine c_nx ?_
  refine c_seq ?_
  refine c_set ?_
  refine c_comp ?_
  refine c_rng1 ?_
  refine c_pureA h14 (pa_cons' (p_fz rfl) pa_nil') fun r15 k16 => ?_
  refine f_rng1' h14 k16 fun xs17 => ?_
  refine f_mapS (ψ := Option Int) (fun (s : Bx) => [.fz (.scr script), .ol (boxD s), .fz (enc many), .clr, .clr, .clr, .clr, .clr, .clr]) h14 (by first | exact W.refl _ | (repeat (first | exact W.nil | refine W.rf ?_ | refine W.cz ?_ | refine W.cc ?_ | refine W.vz ?_ | refine W.vo ?_ | refine W.an ?_))) (fun _ _ => tg_n) ?_ (fun (s : Bx) => [.fz (.scr script), .ol (boxD s), .fz (enc many), .clr, .clr, .clr, .clr, .clr, .clr]) ?_
  · rintro k' boxH _ h18
    try dsimp only [List.set_cons_zero, List.set_cons_succ] at h18 ⊢
    refine c_call ?_
    refine c_pureA h18 (pa_cons' (p_ol rfl) (pa_cons' (p_fz rfl) pa_nil')) fun r19 k20 => ?_
    refine f_call h18 k20 (.t rfl (.f .f .nil)) (ss__law_claim boxH many) (fun _ => (.t rfl (.f .nil))) (fun _ => rk_f) ?_
    rintro ⟨t21, boxH⟩ r22 _ k23 h24
    try dsimp only [List.set_cons_zero, List.set_cons_succ] at h24 ⊢
    exact f_elS (v := t21) h24 k23
  rintro t25 boxH r26 _ k27 h28
  try dsimp only [List.set_cons_zero, List.set_cons_succ] at h28 ⊢
  refine f_setL (v := (t25 : List (Option Int))) (fun v => .ol (encs v)) h28 k27 .w (by decide) fun left _ h29 => ?_
  try dsimp only [List.set_cons_zero, List.set_cons_succ] at h29
  refine c_nx ?_
  refine c_seq ?_
  refine c_set ?_
  refine c_comp ?_
  refine c_rng1 ?_
  refine c_pureA h29 (pa_cons' (p_fz rfl) pa_nil') fun r30 k31 => ?_
  refine f_rng1' h29 k31 fun xs32 => ?_
  refine f_mapS (ψ := Option Int) (fun (s : Bx) => [.fz (.scr script), .ol (boxD s), .fz (enc many), .ol (encs left), .clr, .clr, .clr, .clr, .clr]) h29 (by first | exact W.refl _ | (repeat (first | exact W.nil | refine W.rf ?_ | refine W.cz ?_ | refine W.cc ?_ | refine W.vz ?_ | refine W.vo ?_ | refine W.an ?_))) (fun _ _ => tg_n) ?_ (fun (s : Bx) => [.fz (.scr script), .ol (boxD s), .fz (enc many), .ol (encs left), .clr, .clr, .clr, .clr, .clr]) ?_
  · rintro k' boxH _ h33
    try dsimp only [List.set_cons_zero, List.set_cons_succ] at h33 ⊢
    refine c_call ?_
    refine c_pureA h33 (pa_cons' (p_ol rfl) (pa_cons' (p_fz rfl) pa_nil')) fun r34 k35 => ?_
    refine f_call h33 k35 (.t rfl (.f .f .nil)) (ss__law_claim boxH many) (fun _ => (.t rfl (.f .nil))) (fun _ => rk_f) ?_
    rintro ⟨t36, boxH⟩ r37 _ k38 h39
    try dsimp only [List.set_cons_zero, List.set_cons_succ] at h39 ⊢
    exact f_elS (v := t36) h39 k38
  rintro t40 boxH r41 _ k42 h43
  try dsimp only [List.set_cons_zero, List.set_cons_succ] at h43 ⊢
  refine f_setL (v := (t40 : List (Option Int))) (fun v => .ol (encs v)) h43 k42 .w (by decide) fun right _ h44 => ?_
  try dsimp only [List.set_cons_zero, List.set_cons_succ] at h44
  refine c_nx ?_
  refine c_seq ?_
  refine c_set ?_
  refine c_pure h44 (p_lst (pa_cons' (p_c) (pa_cons' (p_c) (pa_cons' (p_c) (pa_cons' (p_c) (pa_cons' (p_c) (pa_cons' (p_c) (pa_cons' (p_c) (pa_cons' (p_c) pa_nil')))))))) (.cons .f (.cons .f (.cons .f (.cons .f (.cons .f (.cons .f (.cons .f (.cons .f .nil))))))))) fun r45 k46 => ?_
  refine f_setL (v := (([1, 2, 4, 8, 16, 32, 64, 128] : List Int) : List Int)) (fun v => .ol (encs v)) h44 k46 .w (by decide) fun worths _ h47 => ?_
  try dsimp only [List.set_cons_zero, List.set_cons_succ] at h47
  refine c_nx ?_
  exact ss_law_5 script many left right worths _ (h47.weak (by first | exact W.refl _ | (repeat (first | exact W.nil | refine W.rf ?_ | refine W.cz ?_ | refine W.cc ?_ | refine W.vz ?_ | refine W.vo ?_ | refine W.an ?_))))
abbrev PrI := Int × Int
theorem bindR {α : Type} (p : Res α) : (p.bind fun x => Res.ok x) = p := by cases p <;> rfl
theorem addN_len {ω : Type} [DecidableEq ω] : ∀ (ends w : List ω), (addN w ends).length ≤ w.length + ends.length
  | [], w => Nat.le_refl _
  | e :: ends, w => by
    show (addN (if e ∈ w then w else w ++ [e]) ends).length ≤ _
    have := addN_len ends (if e ∈ w then w else w ++ [e])
    by_cases c : e ∈ w
    · rw [if_pos c] at this ⊢; simp at this ⊢; omega
    · rw [if_neg c] at this ⊢; simp at this ⊢; omega
theorem addN_snoc {ω : Type} [DecidableEq ω] (w l : List ω) (e : ω) : addN w (l ++ [e]) = if e ∈ addN w l then addN w l else addN w l ++ [e] := by
  unfold addN
  rw [List.foldl_append]; rfl
theorem fil_len {ω : Type} (c : List ω → Bool) : ∀ P : List (List ω), (P.filter c).flatten.length + (P.filter fun p => !c p).flatten.length = P.flatten.length
  | [] => rfl
  | p :: P => by
    have := fil_len c P
    rw [List.filter_cons, List.filter_cons, List.flatten_cons, List.length_append]
    cases z : c p with
    | true => simp only [if_true, Bool.not_true, Bool.false_eq_true, if_false, List.flatten_cons, List.length_append]; omega
    | false => simp only [Bool.false_eq_true, if_false, Bool.not_false, if_true, List.flatten_cons, List.length_append]; omega
theorem join_len {ω : Type} [DecidableEq ω] (P : List (List ω)) (ends : List ω) : (joinP P ends).flatten.length ≤ P.flatten.length + ends.length ∧ (joinP P ends).length ≤ P.length + 1 := by
  have h1 := fil_len (tch ends) P
  have h2 := addN_len ends (P.filter (tch ends)).flatten
  have h3 := List.length_filter_le (fun p => !tch ends p) P
  unfold joinP
  constructor
  · rw [List.flatten_append, List.length_append, List.flatten_cons, List.flatten_nil, List.append_nil]
    omega
  · rw [List.length_append]
    show _ + 1 ≤ _
    omega
theorem addN_loop {w ends : List PrI} (hl : w.length + ends.length ≤ 10000) : Hd (foldR (fun end' whole =>
    (if (notMemD end' whole) = true then
    (appR whole end').bind fun whole =>
    Res.ok whole
    else
    Res.ok whole).bind fun whole =>
    Res.ok whole) ends w) (· = addN w ends) := by
  refine (foldR_hd (fun k s => s = addN w (ends.take k)) (by simp [addN]) fun k hk s hs => ?_).mono fun s hs => by rwa [List.take_length] at hs
  subst hs
  have l1 := addN_len (ends.take k) w
  rw [List.length_take] at l1
  have e1 : ends.take (k + 1) = ends.take k ++ [ends[k]] := by rw [List.take_add_one, List.getElem?_eq_getElem hk]; rfl
  rw [e1, addN_snoc]
  by_cases c : ends[k] ∈ addN w (ends.take k)
  · rw [if_neg (by simp [notMemD, c]), Res.bind_ok, if_pos c]
    exact Hd.ok rfl
  · rw [if_pos (by simp [notMemD, c]), appR_ok (by omega), Res.bind_ok, Res.bind_ok, if_neg c]
    exact Hd.ok rfl
theorem touch_ok (ends part : List PrI) : foldR (fun end' touched =>
    (if (memD end' part) = true then
    (Res.ok (true : Bool)).bind fun touched =>
    Res.ok touched
    else
    Res.ok touched).bind fun touched =>
    Res.ok touched) ends false = .ok (tch ends part) := by
  have e : ∀ (es : List PrI) (b : Bool), foldR (fun end' touched => (if (memD end' part) = true then (Res.ok (true : Bool)).bind fun touched => Res.ok touched else Res.ok touched).bind fun touched => Res.ok touched) es b = .ok (b || tch es part) := by
    intro es
    induction es with
    | nil => intro b; show Res.ok b = _; simp [tch]
    | cons x es ih =>
      intro b
      show (Res.bind _ _) = _
      dsimp only
      by_cases c : x ∈ part
      · rw [if_pos (show memD x part = true by simp [memD, c]), Res.bind_ok, Res.bind_ok, Res.bind_ok]
        refine (ih true).trans ?_
        simp [tch, c]
      · rw [if_neg (show ¬ memD x part = true by simp [memD, c]), Res.bind_ok, Res.bind_ok]
        refine (ih b).trans ?_
        simp [tch, c]
  exact e ends false
theorem joined_ok {P : List (List PrI)} {ends : List PrI} (h1 : P.length ≤ 1000) (h2 : P.flatten.length ≤ 1000) (h3 : ends.length ≤ 1000) : Hd (p_joined_parts P ends) (· = joinP P ends) := by
  unfold p_joined_parts
  rw [Res.bind_ok, Res.bind_ok]
  refine (foldR_hd (fun k s => s.1 = (P.take k).filter (fun p => !tch ends p) ∧ s.2 = ((P.take k).filter (tch ends)).flatten) ⟨rfl, rfl⟩ fun k hk s hs => ?_).bind fun s hs => ?_
  · obtain ⟨others, whole⟩ := s
    obtain ⟨a1, a2⟩ := hs
    dsimp only at a1 a2 ⊢
    have e1 : P.take (k + 1) = P.take k ++ [P[k]] := by rw [List.take_add_one, List.getElem?_eq_getElem hk]; rfl
    have lo : others.length ≤ 1000 := by
      rw [a1]
      have := List.length_filter_le (fun p => !tch ends p) (P.take k)
      rw [List.length_take] at this
      omega
    have lw : whole.length + P[k].length ≤ 1000 := by
      have q := fil_len (tch ends) (P.take k)
      have q2 : (P.take (k + 1)).flatten.length ≤ P.flatten.length := by
        have : P.flatten = (P.take (k + 1)).flatten ++ (P.drop (k + 1)).flatten := by rw [← List.flatten_append, List.take_append_drop]
        rw [this, List.length_append]; omega
      rw [e1, List.flatten_append, List.length_append, List.flatten_cons, List.flatten_nil, List.append_nil] at q2
      rw [a2]
      omega
    rw [Res.bind_ok, touch_ok, Res.bind_ok, e1, List.filter_append, List.filter_append]
    cases z : tch ends P[k] with
    | true =>
      rw [if_pos rfl, catR_ok (by omega), Res.bind_ok, Res.bind_ok, Res.bind_ok]
      refine Hd.ok ⟨?_, ?_⟩
      · rw [List.filter_cons_of_neg (by simp [z])]; simpa using a1
      · rw [List.filter_cons_of_pos z, List.flatten_append]; simp [a2]
    | false =>
      rw [if_neg (by decide), appR_ok (by omega), Res.bind_ok, Res.bind_ok]
      refine Hd.ok ⟨?_, ?_⟩
      · rw [List.filter_cons_of_pos (by simp [z])]; simp [a1]
      · rw [List.filter_cons_of_neg (by simp [z])]; simpa using a2
  · obtain ⟨others, whole⟩ := s
    obtain ⟨a1, a2⟩ := hs
    rw [List.take_length] at a1 a2
    dsimp only at a1 a2 ⊢
    subst a1 a2
    have q := fil_len (tch ends) P
    refine (addN_loop (by omega)).bind fun w hw => ?_
    subst hw
    have q3 := List.length_filter_le (fun p => !tch ends p) P
    rw [catR_ok (by simp; omega), Res.bind_ok]
    exact Hd.ok rfl
def linkL (left right : List (Option Int)) (k : Nat) : List PrI := ((left.getD k none).toList.map fun x => (0, x)) ++ ((right.getD k none).toList.map fun x => (1, x))
theorem links_ok {left right : List (Option Int)} {n : Nat} (h1 : left.length = n) (h2 : right.length = n) (hn : n ≤ 1000) : p_links_of left right = .ok ((List.range n).map (linkL left right)) := by
  unfold p_links_of
  rw [Res.bind_ok, h1, rng1_nat (by omega), Res.bind_ok, foldR_rngE (g := linkL left right) (by omega) fun k hk acc => ?_, Res.bind_ok]
  rw [Res.bind_ok, geti_D none (by omega), Res.bind_ok, geti_D none (by omega)]
  unfold linkL
  cases z1 : left.getD k none with
  | none =>
    rw [if_neg (by simp), Res.bind_ok, Res.bind_ok]
    cases z2 : right.getD k none with
    | none => rw [if_neg (by simp), Res.bind_ok, bindR]; rfl
    | some y =>
      rw [if_pos (by simp), Res.bind_ok, unO, Res.bind_ok, appR_ok (by simp), Res.bind_ok, Res.bind_ok, bindR]; rfl
  | some x =>
    rw [if_pos (by simp), Res.bind_ok, unO, Res.bind_ok, appR_ok (by simp), Res.bind_ok, Res.bind_ok, Res.bind_ok]
    cases z2 : right.getD k none with
    | none => rw [if_neg (by simp), Res.bind_ok, bindR]; rfl
    | some y =>
      rw [if_pos (by simp), Res.bind_ok, unO, Res.bind_ok, appR_ok (by simp), Res.bind_ok, Res.bind_ok, bindR]; rfl
def ClOk (many : Int) (o : Option Int) : Prop := ∀ x, o = some x → 0 ≤ x ∧ x < many
theorem claim_hd {b : Bx} {many : Int} (h : 0 < many) : Hd (p__law_claim b many) fun q => ClOk many q.1 := by
  unfold p__law_claim
  refine hd_drw (by decide) fun x b x0 x1 => ?_
  dsimp only
  by_cases c : x = 0
  · rw [if_pos (decide_eq_true c)]
    exact Hd.ok fun x hx => by cases hx
  · rw [if_neg (by rw [decide_eq_false c]; decide)]
    refine hd_drw (by decide) fun y b y0 y1 => ?_
    dsimp only
    rw [modR_ok h, Res.bind_ok]
    exact Hd.ok fun x hx => by
      cases hx
      exact ⟨Int.emod_nonneg _ (by omega), Int.emod_lt_of_pos _ h⟩
theorem link_len (left right : List (Option Int)) (k : Nat) : (linkL left right k).length ≤ 2 := by
  unfold linkL
  cases left.getD k none <;> cases right.getD k none <;> simp
theorem claims_hd {b : Bx} {many : Int} (h0 : 0 ≤ many) (h1 : many ≤ 7) : Hd (mapS (fun (k' : Int) boxH =>
    (p__law_claim boxH many).bind fun (t21, boxH) =>
    Res.ok (t21, boxH)) (irng 0 many.toNat) b) fun q => q.1.length = many.toNat ∧ ∀ o ∈ q.1, ClOk 7 o := by
  refine (mapS_hd (Q := fun _ o => ClOk 7 o) (by rw [irng_len]; omega) fun t ht b => ?_).mono fun q hq => ?_
  · have b1 := irng_mem.mp ht
    refine (claim_hd (by omega)).bind fun q hq => Hd.ok fun x hx => ?_
    have := hq x hx
    exact ⟨this.1, by omega⟩
  · have fl := hq.len
    rw [irng_len] at fl
    exact ⟨fl, fun o ho => by obtain ⟨_, _, k⟩ := hq.mem o ho; exact k⟩
def bitsL (m : Nat) (n : Int) : List Int := (List.range m).map fun k => n / 2 ^ k % 2
theorem bits_ok {m : Nat} (hm : m ≤ 7) (n : Int) : p_coins_of_number (m : Int) n = .ok (bitsL m n) := by
  unfold p_coins_of_number
  rw [Res.bind_ok, Res.bind_ok, rng1_ok (by omega) (by omega), Res.bind_ok, Int.toNat_natCast]
  obtain ⟨s, h1, h2⟩ := foldR_hd (f := fun (row : Int) (q : List Int × Int) => (appR q.1 ((q.2 % 2))).bind fun coins => (Res.ok ((q.2 / 2) : Int)).bind fun left => Res.ok (coins, left)) (xs := irng 0 m) (s := (([] : List Int), n)) (fun i s => s = (bitsL i n, n / 2 ^ i)) (by unfold bitsL; simp) fun i hi s hs => by
    subst hs
    dsimp only
    rw [irng_len] at hi
    rw [appR_ok (by unfold bitsL; rw [List.length_map, List.length_range]; omega), Res.bind_ok, Res.bind_ok]
    refine Hd.ok ?_
    unfold bitsL
    rw [List.range_succ, List.map_append, Int.ediv_ediv_of_nonneg (Int.pow_nonneg (by decide)), Int.pow_succ]
    rfl
  have h1' : foldR (fun (row : Int) (coins, left) => (appR coins ((left % 2))).bind fun coins => (Res.ok ((left / 2) : Int)).bind fun left => Res.ok (coins, left)) (irng 0 m) (([] : List Int), n) = .ok s := h1
  rw [h1', Res.bind_ok, h2, irng_len]
theorem bits_len (m : Nat) (n : Int) : (bitsL m n).length = m := by unfold bitsL; rw [List.length_map, List.length_range]
theorem bits_get {m k : Nat} (n : Int) (hk : k < m) : (bitsL m n).getD k 0 = n / 2 ^ k % 2 := by
  rw [getD_lt 0 (by rw [bits_len]; exact hk)]
  unfold bitsL
  simp
theorem bits_01 {m k : Nat} (n : Int) (hk : k < m) : (bitsL m n).getD k 0 = 0 ∨ (bitsL m n).getD k 0 = 1 := by
  rw [bits_get n hk]
  omega
def lkO (C : List Int) (L R : List (Option Int)) (k : Nat) : Int × Option Int := (C.getD k 0, if C.getD k 0 = 0 then L.getD k none else R.getD k none)
def lkL (C : List Int) (L R : List (Option Int)) : List (Int × Option Int) := (List.range C.length).map (lkO C L R)
theorem lkL_len (C : List Int) (L R : List (Option Int)) : (lkL C L R).length = C.length := by unfold lkL; rw [List.length_map, List.length_range]
section
variable {m : Nat} {C : List Int} {L R : List (Option Int)} (hm : m ≤ 7) (hC : C.length = m) (hL : L.length = m) (hR : R.length = m) (h01 : ∀ k < m, C.getD k 0 = 0 ∨ C.getD k 0 = 1)
include hm hC hL hR h01
theorem opened_ok : p_opened_claims L R C = .ok (lkL C L R) := by
  unfold p_opened_claims
  rw [Res.bind_ok, foldR_app0 (g := fun q : Int × Int => (q.2, if q.2 = 0 then L.getD q.1.toNat none else R.getD q.1.toNat none)) (by rw [enumL_rng 0, List.length_map, List.length_range]; omega) fun q hq acc => ?_, Res.bind_ok]
  · rw [enumL_rng 0, List.map_map]; rfl
  · rw [enumL_rng 0] at hq
    obtain ⟨k, hk, rfl⟩ := List.mem_map.mp hq
    have hk := List.mem_range.mp hk
    dsimp only
    rcases h01 k (by omega) with c | c
    · rw [if_pos (decide_eq_true c), geti_D none (by omega), Res.bind_ok, if_pos c, c, Int.toNat_natCast, bind_ok_self, bind_ok_self]
    · rw [if_neg (by rw [c]; decide), geti_D none (by omega), Res.bind_ok, if_neg (by rw [c]; decide), c, Int.toNat_natCast, bind_ok_self, bind_ok_self]
theorem llinks_ok : mapC (fun k' => (geti C k').bind fun t64 => (geti C k').bind fun t74 => (geti (([L, R] : List (List (Option Int)))) t74).bind fun t75 => (geti t75 k').bind fun t78 => Res.ok ((t64, t78))) (irng 0 m) = .ok (lkL C L R) := by
  rw [mapC_ok (g := fun k => lkO C L R k.toNat) (by rw [irng_len]; omega) fun k hk => ?_]
  · congr 1
    unfold lkL irng
    rw [List.map_map, hC]
    refine List.map_congr_left fun k _ => ?_
    simp
  · have := irng_mem.mp hk
    obtain ⟨j, rfl⟩ := Int.eq_ofNat_of_zero_le this.1
    rw [geti_D 0 (by omega), Res.bind_ok, Res.bind_ok, Int.toNat_natCast]
    unfold lkO
    rcases h01 j (by omega) with c | c
    · rw [c, show geti ([L, R] : List (List (Option Int))) 0 = .ok L from geti_nat (i := 0) (by simp), Res.bind_ok, geti_D none (by omega), Res.bind_ok, if_pos rfl]
    · rw [c, show geti ([L, R] : List (List (Option Int))) 1 = .ok R from geti_nat (i := 1) (by simp), Res.bind_ok, geti_D none (by omega), Res.bind_ok, if_neg (by decide)]
theorem caught_ok : p_caught L R C = .ok (cauL (lkL C L R) 0 []) := by
  unfold p_caught
  rw [Res.bind_ok, opened_ok hm hC hL hR h01, Res.bind_ok]
  unfold seenR
  rw [if_pos ⟨by rw [lkL_len]; omega, by simp⟩, Res.bind_ok, List.nil_append]
end
def badB (xs sn : List (Int × Option Int)) (j : Nat) : Bool := match xs[j]? with
  | some k => k.2.isNone || decide (k ∈ xs.take j) || decide (k ∈ sn)
  | none => false
theorem cau_eq : ∀ (xs : List (Int × Option Int)) (i : Nat) (sn : List (Int × Option Int)), cauL xs i sn = ((List.range xs.length).filter (badB xs sn)).map fun j => ((i + j : Nat) : Int)
  | [], _, _ => rfl
  | k :: ks, i, sn => by
    have e : (List.range (k :: ks).length).filter (badB (k :: ks) sn) = (if badB (k :: ks) sn 0 = true then [0] else []) ++ (((List.range ks.length).filter (badB ks (k :: sn))).map (· + 1)) := by
      rw [List.length_cons, List.range_succ_eq_map, List.filter_cons, List.filter_map]
      have : (badB (k :: ks) sn ∘ Nat.succ) = badB ks (k :: sn) := by
        funext j
        unfold badB Function.comp
        show (match (k :: ks)[j + 1]? with
          | some q => q.2.isNone || decide (q ∈ (k :: ks).take (j + 1)) || decide (q ∈ sn)
          | none => false) = _
        rw [List.getElem?_cons_succ, List.take_succ_cons]
        cases ks[j]? with
        | none => rfl
        | some q =>
          dsimp only
          rw [Bool.eq_iff_iff]
          simp only [Bool.or_eq_true, decide_eq_true_eq, List.mem_cons]
          constructor
          · rintro ((h | h | h) | h)
            · exact .inl (.inl h)
            · exact .inr (.inl h)
            · exact .inl (.inr h)
            · exact .inr (.inr h)
          · rintro ((h | h) | h | h)
            · exact .inl (.inl h)
            · exact .inl (.inr (.inr h))
            · exact .inl (.inr (.inl h))
            · exact .inr h
      rw [this]
      split <;> rfl
    rw [e, List.map_append, List.map_map]
    have ih := cau_eq ks (i + 1) (k :: sn)
    have b0 : badB (k :: ks) sn 0 = true ↔ k.2 = none ∨ k ∈ sn := by
      unfold badB
      simp
    have e2 : ((fun j => ((i + j : Nat) : Int)) ∘ (· + 1)) = fun j => ((i + 1 + j : Nat) : Int) := by
      funext j
      show ((i + (j + 1) : Nat) : Int) = _
      congr 1
      omega
    unfold cauL
    rw [e2, ← ih]
    by_cases c : k.2 = none ∨ k ∈ sn
    · rw [if_pos c, if_pos (b0.mpr c)]; rfl
    · rw [if_neg c, if_neg (fun h => c (b0.mp h))]; rfl
theorem cut_take {α : Type} (xs : List α) (k : Nat) (h : k ≤ xs.length) : cutL xs none (some (k : Int)) = xs.take k := by
  unfold cutL
  rw [HT.sIx_none, HT.sIx_nat, List.drop_zero, Nat.sub_zero, show min k xs.length = k by omega]
theorem memD_iff {α : Type} [DecidableEq α] {x : α} {xs : List α} : memD x xs = true ↔ x ∈ xs := decide_eq_true_iff
theorem ldue_ok {m : Nat} (hm : m ≤ 7) {xs : List (Int × Option Int)} (hx : xs.length = m) : filC (fun k' => (geti xs k').bind fun t54 => (if t54.2.isNone = true then Res.ok true else (geti xs k').bind fun t73 => Res.ok (memD t73 ((cutL xs none (some k'))))).bind fun t79 => if t79 = true then Res.ok (some k') else Res.ok none) (irng 0 m) = .ok (cauL xs 0 []) := by
  rw [filC_idI (c := fun k => badB xs [] k.toNat) (by rw [irng_len]; omega) fun k hk => ?_]
  · rw [cau_eq, hx]
    unfold irng
    rw [List.filter_map]
    congr 1
    have : ((fun k : Int => badB xs [] k.toNat) ∘ fun k : Nat => (0 : Int) + (k : Int)) = badB xs [] := by
      funext j
      simp
    rw [this]
    refine List.map_congr_left fun j _ => ?_
    simp
  · have := irng_mem.mp hk
    obtain ⟨j, rfl⟩ := Int.eq_ofNat_of_zero_le this.1
    have hj : j < xs.length := by omega
    rw [geti_nat hj, Res.bind_ok, Int.toNat_natCast]
    have eb : badB xs [] j = ((xs[j]).2.isNone || decide (xs[j] ∈ xs.take j)) := by
      unfold badB
      rw [List.getElem?_eq_getElem hj]
      simp
    rw [eb]
    by_cases c : (xs[j]).2.isNone = true
    · rw [if_pos c, Res.bind_ok, if_pos rfl, c, Bool.true_or, if_pos rfl]
    · rw [if_neg c, Res.bind_ok, Res.bind_ok, cut_take xs j (by omega), Bool.eq_false_iff.mpr c, Bool.false_or]
      by_cases c2 : xs[j] ∈ xs.take j
      · rw [if_pos (memD_iff.mpr c2), if_pos (decide_eq_true c2)]
      · rw [if_neg (fun h => c2 (memD_iff.mp h)), if_neg (fun h => c2 (of_decide_eq_true h))]
def gdr : List (Int × Option Int) → List PrI → Bool
  | [], _ => true
  | q :: qs, S => match q.2 with
    | none => false
    | some x => decide (((q.1, x) : PrI) ∉ S) && gdr qs ((q.1, x) :: S)
theorem gdr_iff : ∀ (ys : List (Int × Option Int)) (S : List PrI), gdr ys S = true ↔ (∀ q ∈ ys, q.2 ≠ none) ∧ ys.Nodup ∧ ∀ q ∈ ys, ∀ x, q.2 = some x → ((q.1, x) : PrI) ∉ S
  | [], S => by simp [gdr]
  | q :: qs, S => by
    obtain ⟨a, o⟩ := q
    cases o with
    | none =>
      have : gdr ((a, none) :: qs) S = false := rfl
      rw [this]
      simp
    | some x =>
      have e : gdr ((a, some x) :: qs) S = (decide (((a, x) : PrI) ∉ S) && gdr qs ((a, x) :: S)) := rfl
      rw [e, Bool.and_eq_true, decide_eq_true_eq, gdr_iff qs, List.nodup_cons]
      constructor
      · rintro ⟨h1, h2, h3, h4⟩
        refine ⟨fun q hq => ?_, ⟨fun hm => ?_, h3⟩, fun q hq y hy => ?_⟩
        · rcases List.mem_cons.mp hq with rfl | hq
          · simp
          · exact h2 q hq
        · exact h4 _ hm x rfl List.mem_cons_self
        · rcases List.mem_cons.mp hq with rfl | hq
          · cases hy; exact h1
          · exact fun h => h4 q hq y hy (List.mem_cons_of_mem _ h)
      · rintro ⟨h1, ⟨h2, h3⟩, h4⟩
        refine ⟨h4 _ List.mem_cons_self x rfl, fun q hq => h1 q (List.mem_cons_of_mem _ hq), h3, fun q hq y hy h => ?_⟩
        rcases List.mem_cons.mp h with h | h
        · refine h2 ?_
          obtain ⟨b, o⟩ := q
          dsimp only at hy h
          rw [hy] at hq
          obtain ⟨rfl, rfl⟩ := Prod.mk.inj h
          exact hq
        · exact h4 q (List.mem_cons_of_mem _ hq) y hy h
theorem cau_nil : ∀ (xs : List (Int × Option Int)) (i : Nat) (sn : List (Int × Option Int)), cauL xs i sn = [] ↔ (∀ q ∈ xs, q.2 ≠ none) ∧ xs.Nodup ∧ ∀ q ∈ xs, q ∉ sn
  | [], _, _ => by simp [cauL]
  | k :: ks, i, sn => by
    unfold cauL
    by_cases c : k.2 = none ∨ k ∈ sn
    · rw [if_pos c]
      refine ⟨(fun h => absurd h (by simp)), fun ⟨h1, h2, h3⟩ => ?_⟩
      rcases c with c | c
      · exact absurd c (h1 k List.mem_cons_self)
      · exact absurd c (h3 k List.mem_cons_self)
    · rw [if_neg c, cau_nil ks, List.nodup_cons]
      rw [not_or] at c
      constructor
      · rintro ⟨h1, h2, h3⟩
        refine ⟨fun q hq => ?_, ⟨fun hm => h3 k hm List.mem_cons_self, h2⟩, fun q hq => ?_⟩
        · rcases List.mem_cons.mp hq with rfl | hq
          · exact c.1
          · exact h1 q hq
        · rcases List.mem_cons.mp hq with rfl | hq
          · exact c.2
          · exact fun h => h3 q hq (List.mem_cons_of_mem _ h)
      · rintro ⟨h1, ⟨h2, h3⟩, h4⟩
        refine ⟨fun q hq => h1 q (List.mem_cons_of_mem _ hq), h3, fun q hq h => ?_⟩
        rcases List.mem_cons.mp h with rfl | h
        · exact h2 hq
        · exact h4 q (List.mem_cons_of_mem _ hq) h
theorem cau_gdr (xs : List (Int × Option Int)) : decide (cauL xs 0 [] = []) = gdr xs.reverse [] := by
  rw [Bool.eq_iff_iff, decide_eq_true_eq, cau_nil, gdr_iff]
  have nr : xs.reverse.Nodup ↔ xs.Nodup := (List.reverse_perm xs).nodup_iff
  constructor
  · rintro ⟨h1, h2, _⟩
    exact ⟨fun q hq => h1 q (List.mem_reverse.mp hq), nr.mpr h2, fun _ _ _ _ => by simp⟩
  · rintro ⟨h1, h2, _⟩
    exact ⟨fun q hq => h1 q (List.mem_reverse.mpr hq), nr.mp h2, fun _ _ => by simp⟩
theorem bits_snoc (m : Nat) (n b : Nat) (hn : n < 2 ^ m) (hb : b < 2) : bitsL (m + 1) ((n + 2 ^ m * b : Nat) : Int) = bitsL m (n : Int) ++ [(b : Int)] := by
  unfold bitsL
  rw [List.range_succ, List.map_append, List.map_cons, List.map_nil]
  have cast : ∀ k : Nat, ((n + 2 ^ m * b : Nat) : Int) / 2 ^ k % 2 = (((n + 2 ^ m * b) / 2 ^ k % 2 : Nat) : Int) := fun k => by
    rw [Int.natCast_emod, Int.natCast_ediv, Int.natCast_pow]; rfl
  have cast2 : ∀ k : Nat, ((n : Nat) : Int) / 2 ^ k % 2 = ((n / 2 ^ k % 2 : Nat) : Int) := fun k => by
    rw [Int.natCast_emod, Int.natCast_ediv, Int.natCast_pow]; rfl
  congr 1
  · refine List.map_congr_left fun k hk => ?_
    have hk := List.mem_range.mp hk
    rw [cast, cast2]
    congr 1
    have e : 2 ^ m = 2 ^ k * (2 * 2 ^ (m - k - 1)) := by
      rw [← Nat.mul_assoc, ← Nat.pow_succ, ← Nat.pow_add]
      congr 1
      omega
    rw [e, Nat.mul_assoc, Nat.add_mul_div_left _ _ (Nat.pow_pos (by decide)), Nat.mul_assoc, Nat.add_mul_mod_self_left]
  · rw [cast, Nat.add_mul_div_left _ _ (Nat.pow_pos (by decide)), Nat.div_eq_of_lt hn, Nat.zero_add, Nat.mod_eq_of_lt hb]
theorem lkL_snoc {C : List Int} {b : Int} {L R : List (Option Int)} : lkL (C ++ [b]) L R = lkL C L R ++ [(b, if b = 0 then L.getD C.length none else R.getD C.length none)] := by
  unfold lkL
  rw [List.length_append, List.length_singleton, List.range_succ, List.map_append, List.map_cons, List.map_nil]
  congr 1
  · refine List.map_congr_left fun k hk => ?_
    have hk := List.mem_range.mp hk
    unfold lkO
    have : (C ++ [b]).getD k 0 = C.getD k 0 := by rw [List.getD_eq_getElem?_getD, List.getElem?_append_left hk, ← List.getD_eq_getElem?_getD]
    rw [this]
  · unfold lkO
    have : (C ++ [b]).getD C.length 0 = b := by rw [List.getD_eq_getElem?_getD, List.getElem?_append_right (Nat.le_refl _)]; simp
    rw [this]
def cntN (L R : List (Option Int)) (m : Nat) (S : List PrI) : Nat := ((List.range (2 ^ m)).filter fun n : Nat => gdr (lkL (bitsL m (n : Int)) L R).reverse S).length
def onePick (q : Int × Option Int) (S : List PrI) (f : List PrI → Nat) : Nat := match q.2 with
  | none => 0
  | some x => if ((q.1, x) : PrI) ∉ S then f ((q.1, x) :: S) else 0
theorem pick_len (L R : List (Option Int)) (m : Nat) (q : Int × Option Int) (S : List PrI) : ((List.range (2 ^ m)).filter fun n : Nat => gdr (q :: (lkL (bitsL m (n : Int)) L R).reverse) S).length = onePick q S (cntN L R m) := by
  obtain ⟨a, o⟩ := q
  unfold onePick
  cases o with
  | none =>
    have : ∀ n : Nat, gdr ((a, none) :: (lkL (bitsL m (n : Int)) L R).reverse) S = false := fun _ => rfl
    simp [this]
  | some x =>
    have e : ∀ n : Nat, gdr ((a, some x) :: (lkL (bitsL m (n : Int)) L R).reverse) S = (decide (((a, x) : PrI) ∉ S) && gdr (lkL (bitsL m (n : Int)) L R).reverse ((a, x) :: S)) := fun _ => rfl
    dsimp only
    by_cases h : ((a, x) : PrI) ∈ S
    · rw [if_neg (fun n => n h)]
      simp [e, h]
    · rw [if_pos h]
      unfold cntN
      congr 1
      refine List.filter_congr fun n _ => ?_
      rw [e, decide_eq_true h, Bool.true_and]
theorem cnt_succ (L R : List (Option Int)) (m : Nat) (S : List PrI) : cntN L R (m + 1) S = onePick (0, L.getD m none) S (cntN L R m) + onePick (1, R.getD m none) S (cntN L R m) := by
  have r2 : List.range (2 ^ (m + 1)) = List.range (2 ^ m) ++ (List.range (2 ^ m)).map (2 ^ m + ·) := by
    rw [Nat.pow_succ, Nat.mul_two, List.range_add]
  have h0 : ∀ n ∈ List.range (2 ^ m), gdr (lkL (bitsL (m + 1) (n : Int)) L R).reverse S = gdr ((0, L.getD m none) :: (lkL (bitsL m (n : Int)) L R).reverse) S := fun n hn => by
    have := bits_snoc m n 0 (List.mem_range.mp hn) (by decide)
    rw [show n + 2 ^ m * 0 = n by omega] at this
    rw [this, lkL_snoc, List.reverse_append, bits_len]; rfl
  have h1 : ∀ n ∈ List.range (2 ^ m), gdr (lkL (bitsL (m + 1) ((2 ^ m + n : Nat) : Int)) L R).reverse S = gdr ((1, R.getD m none) :: (lkL (bitsL m (n : Int)) L R).reverse) S := fun n hn => by
    have := bits_snoc m n 1 (List.mem_range.mp hn) (by decide)
    rw [show n + 2 ^ m * 1 = 2 ^ m + n by omega] at this
    rw [this, lkL_snoc, List.reverse_append, bits_len]; rfl
  have e0 : cntN L R (m + 1) S = ((List.range (2 ^ (m + 1))).filter fun n : Nat => gdr (lkL (bitsL (m + 1) (n : Int)) L R).reverse S).length := rfl
  rw [e0, r2, List.filter_append, List.length_append, List.filter_map, List.length_map, List.filter_congr h0, pick_len]
  congr 1
  have : ((fun n : Nat => gdr (lkL (bitsL (m + 1) (n : Int)) L R).reverse S) ∘ (2 ^ m + ·)) = fun n : Nat => gdr (lkL (bitsL (m + 1) ((2 ^ m + n : Nat) : Int)) L R).reverse S := rfl
  rw [this, List.filter_congr h1, pick_len]
theorem cnt_ch (L R : List (Option Int)) : ∀ (m : Nat) (S : List PrI), cntN L R m S = chN ((List.range m).map (linkL L R)).reverse S
  | 0, S => by
    unfold cntN
    simp [lkL, bitsL, gdr, chN]
  | m + 1, S => by
    rw [cnt_succ, List.range_succ, List.map_append, List.map_cons, List.map_nil, List.reverse_append]
    show _ = chN (linkL L R m :: ((List.range m).map (linkL L R)).reverse) S
    unfold chN
    have ih : cntN L R m = fun S => chN ((List.range m).map (linkL L R)).reverse S := funext fun S => cnt_ch L R m S
    rw [ih]
    unfold linkL onePick
    cases L.getD m none with
    | none => cases R.getD m none with
      | none => rfl
      | some y => by_cases hy : ((1, y) : PrI) ∈ S <;> simp [hy]
    | some x => cases R.getD m none with
      | none => by_cases hx : ((0, x) : PrI) ∈ S <;> simp [hx]
      | some y => by_cases hx : ((0, x) : PrI) ∈ S <;> by_cases hy : ((1, y) : PrI) ∈ S <;> simp [hx, hy]
theorem fold_count {α : Type} {f : α → Int → Res Int} {c : α → Bool} : ∀ {xs : List α} {s : Int}, (∀ x ∈ xs, ∀ s, f x s = .ok (if c x = true then s + 1 else s)) → foldR f xs s = .ok (s + ((xs.filter c).length : Nat))
  | [], s, _ => by
    show Res.ok s = _
    simp
  | x :: xs, s, h => by
    unfold foldR
    rw [h x List.mem_cons_self, Res.bind_ok, fold_count fun y hy => h y (List.mem_cons_of_mem _ hy), List.filter_cons]
    by_cases z : c x = true
    · rw [if_pos z, if_pos z, List.length_cons]
      congr 1
      omega
    · rw [if_neg z, if_neg z]
theorem free_ok {m : Nat} (hm : m ≤ 7) {C : List Int} {L R : List (Option Int)} (hC : C.length = m) (hL : L.length = m) (hR : R.length = m) (h01 : ∀ k < m, C.getD k 0 = 0 ∨ C.getD k 0 = 1) : p__law_free L R C = .ok (decide (cauL (lkL C L R) 0 [] = [])) := by
  unfold p__law_free
  rw [hC, rng1_ok (by omega) (by omega), Res.bind_ok, Int.toNat_natCast, llinks_ok hm hC hL hR h01, Res.bind_ok, Res.bind_ok, Res.bind_ok, ldue_ok hm (by rw [lkL_len]; exact hC), Res.bind_ok]
theorem worth : ∀ k : Nat, k < 8 → geti (([1, 2, 4, 8, 16, 32, 64, 128] : List Int)) (k : Int) = .ok (2 ^ k) := fun k hk => by
  rw [geti_nat (xs := ([1, 2, 4, 8, 16, 32, 64, 128] : List Int)) (i := k) (by simpa using hk)]
  congr 1
  revert k
  decide
theorem wbits_ok {m : Nat} (hm : m ≤ 7) (n : Int) : mapC (fun k' => (geti (([1, 2, 4, 8, 16, 32, 64, 128] : List Int)) k').bind fun t59 => (divR n t59).bind fun t60 => Res.ok ((t60 % 2))) (irng 0 m) = .ok (bitsL m n) := by
  rw [mapC_ok (g := fun k => n / 2 ^ k.toNat % 2) (by rw [irng_len]; omega) fun k hk => ?_]
  · congr 1
    unfold bitsL irng
    rw [List.map_map]
    refine List.map_congr_left fun k _ => ?_
    simp
  · have := irng_mem.mp hk
    obtain ⟨j, rfl⟩ := Int.eq_ofNat_of_zero_le this.1
    have h2 : (2 : Int) ^ j < 1073741824 ∧ 0 < (2 : Int) ^ j := (by decide : ∀ j < 7, (2 : Int) ^ j < 1073741824 ∧ 0 < (2 : Int) ^ j) j (by omega)
    rw [worth j (by omega), Res.bind_ok, divR_ok h2.2 h2.1, Res.bind_ok, Int.toNat_natCast]
theorem two_rng (m : Nat) : irng 0 ((2 : Int) ^ m).toNat = (List.range (2 ^ m)).map fun n : Nat => (n : Int) := by
  have : ((2 : Int) ^ m).toNat = 2 ^ m := by
    rw [show (2 : Int) ^ m = ((2 ^ m : Nat) : Int) by rw [Int.natCast_pow]; rfl, Int.toNat_natCast]
  rw [this]
  unfold irng
  refine List.map_congr_left fun n _ => ?_
  omega
theorem cnt_rng (L R : List (Option Int)) (m : Nat) : (((irng 0 ((2 : Int) ^ m).toNat).filter fun n => decide (cauL (lkL (bitsL m n) L R) 0 [] = [])).length : Nat) = cntN L R m [] := by
  rw [two_rng, List.filter_map, List.length_map]
  unfold cntN
  congr 1
  refine List.filter_congr fun n _ => ?_
  exact cau_gdr _
theorem pow7 {m : Nat} (hm : m ≤ 7) : (2 : Int) ^ m ≤ 128 ∧ 0 ≤ (2 : Int) ^ m := (by decide : ∀ m < 8, (2 : Int) ^ m ≤ 128 ∧ 0 ≤ (2 : Int) ^ m) m (by omega)
section
variable {m : Nat} {L R : List (Option Int)} (hm : m ≤ 7) (hL : L.length = m) (hR : R.length = m)
include hm hL hR
theorem plainly_ok : p_passing_plainly L R = .ok (cntN L R m [] : Nat) := by
  have pw := pow7 hm
  unfold p_passing_plainly
  rw [Res.bind_ok, Res.bind_ok, hL, rng1_ok (by omega) (by omega), Res.bind_ok, Int.toNat_natCast]
  obtain ⟨s, h1, h2⟩ := foldR_hd (f := fun (row : Int) rows => (Res.ok ((rows * 2) : Int)).bind fun rows => Res.ok rows) (xs := irng 0 m) (s := (1 : Int)) (fun i s => s = 2 ^ i) (by simp) fun i hi s hs => by
    subst hs
    rw [Res.bind_ok]
    exact Hd.ok (by rw [Int.pow_succ])
  rw [irng_len] at h2
  subst h2
  rw [h1, Res.bind_ok, Res.bind_ok, rng1_ok (by omega) (by omega), Res.bind_ok, fold_count (c := fun n => decide (cauL (lkL (bitsL m n) L R) 0 [] = [])) fun n _ s => ?_, Res.bind_ok, cnt_rng, Int.zero_add]
  rw [bits_ok hm, Res.bind_ok, caught_ok hm (bits_len m n) hL hR fun k hk => bits_01 n hk, Res.bind_ok]
  cases z : cauL (lkL (bitsL m n) L R) 0 [] with
  | nil => rw [if_pos (by rfl), Res.bind_ok, Res.bind_ok, if_pos (by rfl)]
  | cons a l => rw [if_neg (by simp), Res.bind_ok, if_neg (by simp)]
theorem lcount_ok : foldR (fun (number : Int) count => (rng1R (m : Int)).bind fun xs51 => (mapC (fun k' => (geti (([1, 2, 4, 8, 16, 32, 64, 128] : List Int)) k').bind fun t59 => (divR number t59).bind fun t60 => Res.ok ((t60 % 2))) xs51).bind fun t63 =>
    (p__law_free L R t63).bind fun t67 => (if t67 = true then (Res.ok ((count + 1) : Int)).bind fun count => Res.ok count else Res.ok count).bind fun count => Res.ok count) (irng 0 ((2 : Int) ^ m).toNat) (0 : Int) = .ok (cntN L R m [] : Nat) := by
  rw [fold_count (c := fun n => decide (cauL (lkL (bitsL m n) L R) 0 [] = [])) fun n _ s => ?_, cnt_rng, Int.zero_add]
  rw [rng1_ok (by omega) (by omega), Res.bind_ok, Int.toNat_natCast, wbits_ok hm, Res.bind_ok, free_ok hm (bits_len m n) hL hR (fun k hk => bits_01 n hk), Res.bind_ok]
  by_cases z : cauL (lkL (bitsL m n) L R) 0 [] = []
  · rw [decide_eq_true z, if_pos rfl, Res.bind_ok, Res.bind_ok, if_pos rfl]
  · rw [decide_eq_false z, if_neg (by decide), Res.bind_ok, if_neg (by decide)]
end
def stepP (P : List (List PrI)) (r : List PrI) : List (List PrI) := if r = [] then P else joinP P r
theorem parts_is {links : List (List PrI)} (h1 : links.length ≤ 100) (h2 : ∀ r ∈ links, r.length ≤ 2) : Hd (p_parts_of links) fun P => P = links.foldl stepP [] := by
  unfold p_parts_of
  rw [Res.bind_ok]
  refine (foldR_hd (fun k P => P = (links.take k).foldl stepP [] ∧ P.length ≤ k ∧ P.flatten.length ≤ 2 * k) ⟨rfl, Nat.le_refl _, Nat.le_refl _⟩ fun k hk P ⟨a, b, c⟩ => ?_).bind fun P ⟨a, b, c⟩ => ?_
  · have e1 : links.take (k + 1) = links.take k ++ [links[k]] := by rw [List.take_add_one, List.getElem?_eq_getElem hk]; rfl
    have lr := h2 _ (List.getElem_mem hk)
    rw [e1, List.foldl_append, ← a]
    show Hd _ fun Q => Q = stepP P links[k] ∧ _
    by_cases z : links[k] = []
    · rw [if_neg (by rw [z]; decide), Res.bind_ok]
      refine Hd.ok ⟨?_, by omega, by omega⟩
      unfold stepP
      rw [if_pos z]
    · rw [if_pos (by cases q : links[k] with | nil => exact absurd q z | cons _ _ => rfl)]
      rw [Res.bind_assoc]
      refine (joined_ok (by omega) (by omega) (by omega)).bind fun P' hP => ?_
      subst hP
      have j := join_len P links[k]
      rw [Res.bind_ok, Res.bind_ok]
      refine Hd.ok ⟨?_, by omega, by omega⟩
      unfold stepP
      rw [if_neg z]
  · rw [List.take_length] at a
    exact Hd.ok a
theorem inn_loop (p : List PrI) : ∀ (xs : List (List PrI)) (w h : Int), (∀ r ∈ xs, r.length ≤ 2) → foldR (fun (ends : List (Int × Int)) ((whole, half) : Int × Int) => (if (!ends.isEmpty) = true then (geti ends 0).bind fun t51 => Res.ok (memD t51 p) else Res.ok false).bind fun t54 =>
    (if t54 = true then (Res.ok (whole + ((ends.length : Int) / 2))).bind fun whole => (Res.ok (half + (2 - (ends.length : Int)))).bind fun half => Res.ok (whole, half) else Res.ok (whole, half)).bind fun (whole, half) => Res.ok (whole, half)) xs (w, h) = .ok (w + (wN p xs : Nat), h + (hN p xs : Nat))
  | [], w, h, _ => by
    show Res.ok (w, h) = _
    simp [wN, hN]
  | r :: xs, w, h, hl => by
    have rl := hl r List.mem_cons_self
    have ih := fun w h => inn_loop p xs w h fun r hr => hl r (List.mem_cons_of_mem _ hr)
    unfold foldR
    dsimp only
    have wc : wN p (r :: xs) = (if (inP p r && decide (r.length = 2)) = true then 1 else 0) + wN p xs := by
      unfold wN
      rw [List.filter_cons]
      split
      · rw [List.length_cons]; omega
      · omega
    have hc : hN p (r :: xs) = (if (inP p r && decide (r.length = 1)) = true then 1 else 0) + hN p xs := by
      unfold hN
      rw [List.filter_cons]
      split
      · rw [List.length_cons]; omega
      · omega
    rw [wc, hc]
    match r, rl with
    | [], _ =>
      rw [if_neg (by simp), Res.bind_ok, if_neg (by simp), Res.bind_ok, Res.bind_ok, ih]
      simp [inP]
    | e :: l, rl =>
      rw [if_pos (by simp), show geti (e :: l) 0 = .ok e from geti_nat (i := 0) (by simp), Res.bind_ok, Res.bind_ok]
      by_cases he : e ∈ p
      · rw [if_pos (memD_iff.mpr he), Res.bind_ok, Res.bind_ok, Res.bind_ok, Res.bind_ok, ih]
        have ip : inP p (e :: l) = true := by simp [inP, he]
        rw [ip, Bool.true_and, Bool.true_and]
        rcases l with _ | ⟨b, _ | ⟨c, l⟩⟩
        · simp; omega
        · simp; omega
        · simp at rl
      · rw [if_neg (fun h => he (memD_iff.mp h)), Res.bind_ok, Res.bind_ok, ih]
        have ip : inP p (e :: l) = false := by simp [inP, he]
        rw [ip]
        simp
theorem pin_ok (p : List PrI) {links : List (List PrI)} (h : ∀ r ∈ links, r.length ≤ 2) : p_passing_in p links = .ok (psN p links : Nat) := by
  unfold p_passing_in
  rw [Res.bind_ok, Res.bind_ok, inn_loop p links 0 0 h, Res.bind_ok]
  dsimp only
  rw [Int.zero_add, Int.zero_add]
  unfold psN
  by_cases c1 : hN p links = 0 ∧ wN p links + 1 = p.length
  · rw [if_pos (by simp; omega), if_pos c1]
  · rw [if_neg (by simp; omega), if_neg c1]
    unfold p_passing_in_4
    by_cases c2 : hN p links = 0 ∧ wN p links = p.length
    · rw [if_pos (by simp; omega), if_pos c2]; rfl
    · rw [if_neg (by simp; omega), if_neg c2]
      by_cases c3 : hN p links = 1 ∧ wN p links + 1 = p.length
      · rw [if_pos (by simp; omega), if_pos c3]; rfl
      · rw [if_neg (by simp; omega), if_neg c3]; rfl
theorem psN_le (p : List PrI) {links : List (List PrI)} (hl : links.length ≤ 100) : psN p links ≤ 200 := by
  unfold psN
  have : wN p links ≤ links.length := by unfold wN; exact List.length_filter_le _ _
  split
  · omega
  · split
    · omega
    · split <;> omega
theorem prod_ok {links : List (List PrI)} (hl : links.length ≤ 100) (h : ∀ r ∈ links, r.length ≤ 2) : ∀ (P : List (List PrI)) (k : Int), foldR (fun (part : List (Int × Int)) count => (p_passing_in part links).bind fun t56 => (mulR count t56).bind fun t59 => (Res.ok (t59 : Int)).bind fun count => Res.ok count) P k = .ok (k * ((P.foldr (fun p a => psN p links * a) 1 : Nat) : Int))
  | [], k => by
    show Res.ok k = _
    simp
  | p :: P, k => by
    have := psN_le p hl
    unfold foldR
    rw [pin_ok p h, Res.bind_ok, mulR_ok (by omega), Res.bind_ok, Res.bind_ok, Res.bind_ok, prod_ok hl h P, List.foldr_cons, Int.natCast_mul, Int.mul_assoc]
theorem empties : ∀ (links : List (List PrI)) (k : Int), foldR (fun (ends : List (Int × Int)) count => (if (!(!ends.isEmpty)) = true then (Res.ok (0 : Int)).bind fun count => Res.ok count else Res.ok count).bind fun count => Res.ok count) links k = .ok (if [] ∈ links then 0 else k)
  | [], k => by
    show Res.ok k = _
    simp
  | r :: links, k => by
    have hs : ((if (!(!r.isEmpty)) = true then (Res.ok (0 : Int)).bind fun count => Res.ok count else Res.ok k).bind fun count => Res.ok count) = .ok (if r = [] then 0 else k) := by
      cases r with
      | nil => rw [if_pos (by rfl), if_pos rfl]; rfl
      | cons e l => rw [if_neg (by simp), if_neg (by simp)]; rfl
    unfold foldR
    rw [hs]
    show foldR _ links (if r = [] then 0 else k) = _
    rw [empties links]
    by_cases z : r = []
    · subst z
      simp
    · rw [if_neg z]
      simp [Ne.symm z]
theorem steps_join : ∀ (links : List (List PrI)) (P : List (List PrI)), [] ∉ links → links.foldl stepP P = links.foldl joinP P
  | [], _, _ => rfl
  | r :: links, P, h => by
    rw [List.mem_cons, not_or] at h
    rw [List.foldl_cons, List.foldl_cons, steps_join links _ h.2]
    unfold stepP
    rw [if_neg (Ne.symm h.1)]
theorem link_nd (L R : List (Option Int)) (k : Nat) : (linkL L R k).Nodup := by
  unfold linkL
  cases L.getD k none <;> cases R.getD k none <;> simp
theorem passing_ok {m : Nat} {L R : List (Option Int)} (hm : m ≤ 7) (hL : L.length = m) (hR : R.length = m) : p_passing L R = .ok (cntN L R m [] : Nat) := by
  unfold p_passing
  have h2 : ∀ r ∈ (List.range m).map (linkL L R), r.length ≤ 2 := fun r hr => by
    obtain ⟨k, _, rfl⟩ := List.mem_map.mp hr
    exact link_len L R k
  have hl : ((List.range m).map (linkL L R)).length ≤ 100 := by rw [List.length_map, List.length_range]; omega
  rw [links_ok hL hR (by omega), Res.bind_ok, Res.bind_ok, Res.bind_ok, empties, Res.bind_ok, cnt_ch]
  obtain ⟨P, hP, rfl⟩ := parts_is hl h2
  rw [hP, Res.bind_ok, prod_ok hl h2, Res.bind_ok]
  by_cases z : [] ∈ (List.range m).map (linkL L R)
  · rw [if_pos z, Int.zero_mul, chN_zero (List.mem_reverse.mpr z)]; rfl
  · rw [if_neg z, Int.one_mul, steps_join _ _ z, count_parts fun r hr => ⟨h2 r hr, fun e => z (e ▸ hr), by
      obtain ⟨k, _, rfl⟩ := List.mem_map.mp hr
      exact link_nd L R k⟩]
theorem cnt_le (L R : List (Option Int)) {m : Nat} (hm : m ≤ 7) : cntN L R m [] ≤ 128 := by
  unfold cntN
  have a := List.length_filter_le (fun n : Nat => gdr (lkL (bitsL m (n : Int)) L R).reverse []) (List.range (2 ^ m))
  rw [List.length_range] at a
  have : 2 ^ m ≤ 128 := (by decide : ∀ m < 8, 2 ^ m ≤ 128) m (by omega)
  omega
theorem law_plain (ns : List Int) : p_law ns = .ok true := by
  refine Hd.true ?_
  unfold p_law
  refine (box_hd ns (by decide) (by decide)).bind fun b _ => ?_
  rw [Res.bind_ok]
  refine hd_drw (by decide) fun n b n0 n1 => ?_
  obtain ⟨m, rfl⟩ := Int.eq_ofNat_of_zero_le n0
  have hm : m ≤ 7 := by omega
  dsimp only
  rw [Res.bind_ok, rng1_ok (by omega) (by omega), Res.bind_ok]
  refine (claims_hd n0 (by omega)).bind fun q hq => ?_
  obtain ⟨L, b⟩ := q
  obtain ⟨hL, _⟩ := hq
  dsimp only at hL ⊢
  rw [Res.bind_ok, Res.bind_ok]
  refine (claims_hd n0 (by omega)).bind fun q hq => ?_
  obtain ⟨R, b⟩ := q
  obtain ⟨hR, _⟩ := hq
  dsimp only at hR ⊢
  rw [Int.toNat_natCast] at hL hR
  have pw := pow7 hm
  have cl := cnt_le L R hm
  rw [Res.bind_ok, Res.bind_ok]
  unfold p_law_5
  rw [Res.bind_ok, worth m (by omega), Res.bind_ok, rng1_ok (n := 2 ^ m) (by omega) (by omega), Res.bind_ok, lcount_ok hm hL hR, Res.bind_ok, plainly_ok hm hL hR, Res.bind_ok]
  obtain ⟨t, ht⟩ := (Sh.encI (i := ((cntN L R m [] : Nat) : Int)) (by omega)).show
  rw [same_eq ht rfl, Res.bind_ok, if_pos rfl, passing_ok hm hL hR, Res.bind_ok, same_eq ht rfl, Res.bind_ok, Res.bind_ok]
  exact Hd.ok rfl
theorem law_pure (ns : List Int) : ∃ as', φ_law [.fz (.scr ns)] = .ok (.fz (.bl true)) as' := law_of (ss_law ns) (law_plain ns)
end
end V
set_option maxHeartbeats 0
namespace V
open PySem PySem.Spec PyProof.Rows L2 VF
abbrev N_opened_claims : List Str := ["left", "right", "coins", "rows", "row", "coin"]
theorem sc_opened_claims : FnScope N_opened_claims ["left", "right", "coins"] (defScope s_opened_claims) := ⟨rfl, rfl, rfl, by decide +kernel, rfl, by decide +kernel, by decide +kernel⟩
abbrev N_caught : List Str := ["left", "right", "coins", "found", "seen", "row", "link"]
theorem sc_caught : FnScope N_caught ["left", "right", "coins"] (defScope s_caught) := ⟨rfl, rfl, rfl, by decide +kernel, rfl, by decide +kernel, by decide +kernel⟩
abbrev N_coins_of_number : List Str := ["rows", "number", "coins", "left", "row"]
theorem sc_coins_of_number : FnScope N_coins_of_number ["rows", "number"] (defScope s_coins_of_number) := ⟨rfl, rfl, rfl, by decide +kernel, rfl, by decide +kernel, by decide +kernel⟩
abbrev N_passing_plainly : List Str := ["left", "right", "many", "rows", "row", "count", "number"]
theorem sc_passing_plainly : FnScope N_passing_plainly ["left", "right"] (defScope s_passing_plainly) := ⟨rfl, rfl, rfl, by decide +kernel, rfl, by decide +kernel, by decide +kernel⟩
abbrev N_links_of : List Str := ["left", "right", "rows", "row", "ends"]
theorem sc_links_of : FnScope N_links_of ["left", "right"] (defScope s_links_of) := ⟨rfl, rfl, rfl, by decide +kernel, rfl, by decide +kernel, by decide +kernel⟩
abbrev N_joined_parts : List Str := ["parts", "ends", "others", "whole", "part", "end", "touched"]
theorem sc_joined_parts : FnScope N_joined_parts ["parts", "ends"] (defScope s_joined_parts) := ⟨rfl, rfl, rfl, by decide +kernel, rfl, by decide +kernel, by decide +kernel⟩
abbrev N_parts_of : List Str := ["links", "parts", "ends"]
theorem sc_parts_of : FnScope N_parts_of ["links"] (defScope s_parts_of) := ⟨rfl, rfl, rfl, by decide +kernel, rfl, by decide +kernel, by decide +kernel⟩
abbrev N_passing_in : List Str := ["part", "links", "whole", "half", "ends"]
theorem sc_passing_in : FnScope N_passing_in ["part", "links"] (defScope s_passing_in) := ⟨rfl, rfl, rfl, by decide +kernel, rfl, by decide +kernel, by decide +kernel⟩
abbrev N_passing : List Str := ["left", "right", "links", "count", "ends", "part"]
theorem sc_passing : FnScope N_passing ["left", "right"] (defScope s_passing) := ⟨rfl, rfl, rfl, by decide +kernel, rfl, by decide +kernel, by decide +kernel⟩
abbrev N__law_cell : List Str := ["_law_script", "_law_k"]
theorem sc__law_cell : FnScope N__law_cell ["_law_script", "_law_k"] (defScope s__law_cell) := ⟨rfl, rfl, rfl, by decide +kernel, rfl, by decide +kernel, by decide +kernel⟩
abbrev N__law_row : List Str := ["_law_cell_here", "_law_k", "_law_many", "_law_row_here", "_law_seed", "_law_turn"]
theorem sc__law_row : FnScope N__law_row ["_law_cell_here", "_law_k", "_law_many"] (defScope s__law_row) := ⟨rfl, rfl, rfl, by decide +kernel, rfl, by decide +kernel, by decide +kernel⟩
abbrev N__law_box : List Str := ["_law_script", "_law_first", "_law_last", "_law_row_here", "_law_k"]
theorem sc__law_box : FnScope N__law_box ["_law_script", "_law_first", "_law_last"] (defScope s__law_box) := ⟨rfl, rfl, rfl, by decide +kernel, rfl, by decide +kernel, by decide +kernel⟩
abbrev N__law_draw : List Str := ["_law_box_here", "_law_many", "_law_at"]
theorem sc__law_draw : FnScope N__law_draw ["_law_box_here", "_law_many"] (defScope s__law_draw) := ⟨rfl, rfl, rfl, by decide +kernel, rfl, by decide +kernel, by decide +kernel⟩
abbrev N__law_same : List Str := ["_law_one", "_law_other"]
theorem sc__law_same : FnScope N__law_same ["_law_one", "_law_other"] (defScope s__law_same) := ⟨rfl, rfl, rfl, by decide +kernel, rfl, by decide +kernel, by decide +kernel⟩
abbrev N__law_claim : List Str := ["_law_box_here", "_law_many"]
theorem sc__law_claim : FnScope N__law_claim ["_law_box_here", "_law_many"] (defScope s__law_claim) := ⟨rfl, rfl, rfl, by decide +kernel, rfl, by decide +kernel, by decide +kernel⟩
abbrev N__law_free : List Str := ["_law_left", "_law_right", "_law_coins", "_law_links", "_law_k"]
theorem sc__law_free : FnScope N__law_free ["_law_left", "_law_right", "_law_coins"] (defScope s__law_free) := ⟨rfl, rfl, rfl, by decide +kernel, rfl, by decide +kernel, by decide +kernel⟩
abbrev N_law : List Str := ["_law_script", "_law_box_here", "_law_many", "_law_left", "_law_right", "_law_worths", "_law_count", "_law_number", "_law_k"]
theorem sc_law : FnScope N_law ["_law_script"] (defScope s_law) := ⟨rfl, rfl, rfl, by decide +kernel, rfl, by decide +kernel, by decide +kernel⟩
abbrev FnP (K : PySem.W.Frag) (x : Str) (st : Stmt) (f : Addr) (fd : FuncData) : Prop := FunD K x x (defArgs st) (defBody st) (defScope st) [] [] f fd
structure Tx (P : Program) (K : PySem.W.Frag) (mg : Str → Option Value) where
  b_enumerate : mg "enumerate" = none
  b_int : mg "int" = none
  b_len : mg "len" = none
  b_range : mg "range" = none
  b_repr : mg "repr" = none
  b_set : mg "set" = none
  gc_LEFT : ∃ t, mg "LEFT" = some (.int 0 t)
  gc_RIGHT : ∃ t, mg "RIGHT" = some (.int 1 t)
  a_opened_claims : Addr
  fd_opened_claims : FuncData
  F_opened_claims : FnP K "opened_claims" s_opened_claims a_opened_claims fd_opened_claims
  g_opened_claims : mg "opened_claims" = some (.ref a_opened_claims)
  a_caught : Addr
  fd_caught : FuncData
  F_caught : FnP K "caught" s_caught a_caught fd_caught
  g_caught : mg "caught" = some (.ref a_caught)
  a_coins_of_number : Addr
  fd_coins_of_number : FuncData
  F_coins_of_number : FnP K "coins_of_number" s_coins_of_number a_coins_of_number fd_coins_of_number
  g_coins_of_number : mg "coins_of_number" = some (.ref a_coins_of_number)
  a_passing_plainly : Addr
  fd_passing_plainly : FuncData
  F_passing_plainly : FnP K "passing_plainly" s_passing_plainly a_passing_plainly fd_passing_plainly
  g_passing_plainly : mg "passing_plainly" = some (.ref a_passing_plainly)
  a_links_of : Addr
  fd_links_of : FuncData
  F_links_of : FnP K "links_of" s_links_of a_links_of fd_links_of
  g_links_of : mg "links_of" = some (.ref a_links_of)
  a_joined_parts : Addr
  fd_joined_parts : FuncData
  F_joined_parts : FnP K "joined_parts" s_joined_parts a_joined_parts fd_joined_parts
  g_joined_parts : mg "joined_parts" = some (.ref a_joined_parts)
  a_parts_of : Addr
  fd_parts_of : FuncData
  F_parts_of : FnP K "parts_of" s_parts_of a_parts_of fd_parts_of
  g_parts_of : mg "parts_of" = some (.ref a_parts_of)
  a_passing_in : Addr
  fd_passing_in : FuncData
  F_passing_in : FnP K "passing_in" s_passing_in a_passing_in fd_passing_in
  g_passing_in : mg "passing_in" = some (.ref a_passing_in)
  a_passing : Addr
  fd_passing : FuncData
  F_passing : FnP K "passing" s_passing a_passing fd_passing
  g_passing : mg "passing" = some (.ref a_passing)
  a__law_cell : Addr
  fd__law_cell : FuncData
  F__law_cell : FnP K "_law_cell" s__law_cell a__law_cell fd__law_cell
  g__law_cell : mg "_law_cell" = some (.ref a__law_cell)
  a__law_row : Addr
  fd__law_row : FuncData
  F__law_row : FnP K "_law_row" s__law_row a__law_row fd__law_row
  g__law_row : mg "_law_row" = some (.ref a__law_row)
  a__law_box : Addr
  fd__law_box : FuncData
  F__law_box : FnP K "_law_box" s__law_box a__law_box fd__law_box
  g__law_box : mg "_law_box" = some (.ref a__law_box)
  a__law_draw : Addr
  fd__law_draw : FuncData
  F__law_draw : FnP K "_law_draw" s__law_draw a__law_draw fd__law_draw
  g__law_draw : mg "_law_draw" = some (.ref a__law_draw)
  a__law_same : Addr
  fd__law_same : FuncData
  F__law_same : FnP K "_law_same" s__law_same a__law_same fd__law_same
  g__law_same : mg "_law_same" = some (.ref a__law_same)
  a__law_claim : Addr
  fd__law_claim : FuncData
  F__law_claim : FnP K "_law_claim" s__law_claim a__law_claim fd__law_claim
  g__law_claim : mg "_law_claim" = some (.ref a__law_claim)
  a__law_free : Addr
  fd__law_free : FuncData
  F__law_free : FnP K "_law_free" s__law_free a__law_free fd__law_free
  g__law_free : mg "_law_free" = some (.ref a__law_free)
  a_law : Addr
  fd_law : FuncData
  F_law : FnP K "law" s_law a_law fd_law
  g_law : mg "law" = some (.ref a_law)
section
variable {P : Program} {w : World} {K : PySem.W.Frag} {mg : Str → Option Value} {base : Heap}
theorem Tx.bd_opened_claims (T : Tx P K mg) : Binds K T.fd_opened_claims ["left", "right", "coins"] [] := T.F_opened_claims.bindsN fun _ _ _ _ _ _ us hl => match us, hl with | [_, _, _], _ => rfl
theorem Tx.ok_opened_claims (T : Tx P K mg) : FnOk P w K mg base CX0 1 T.a_opened_claims T.fd_opened_claims ["left", "right", "coins"] (spF K mg 3 φ_opened_claims) :=
  fn_ok (k := 0) T.F_opened_claims sc_opened_claims [false, false, false] rfl (m := d_opened_claims) (n := 6) rfl fun cdv A outer s H E hr => ((b_cons (s_set (i := 3) sc_opened_claims.nd rfl (by first | exact .inl rfl | exact .inr rfl) (v_lst a_nil))
      (b_cons (s_for PassesOwn.never rfl (i_enum rfl T.b_enumerate (a_cons (v_var (i := 2) rfl (by first | exact .inl rfl | exact .inr (.inl rfl) | exact .inr (.inr rfl))) a_nil)) (g_tup rfl (gs_cons (g_name (i := 4) sc_opened_claims.nd rfl (by first | exact .inl rfl | exact .inr rfl)) (gs_cons (g_name (i := 5) sc_opened_claims.nd rfl (by first | exact .inl rfl | exact .inr rfl)) gs_nil))) (b_one (s_if (t_eq (u64 hr) (v_var (i := 5) rfl (by first | exact .inl rfl | exact .inr (.inl rfl) | exact .inr (.inr rfl))) (v_gint rfl T.gc_LEFT)) (b_one (s_expr (v_app (i := 3) rfl (by first | exact .inl rfl | exact .inr (.inl rfl) | exact .inr (.inr rfl)) (v_tup (a_cons (v_gint rfl T.gc_LEFT) (a_cons (v_ix (v_var (i := 0) rfl (by first | exact .inl rfl | exact .inr (.inl rfl) | exact .inr (.inr rfl))) (v_var (i := 4) rfl (by first | exact .inl rfl | exact .inr (.inl rfl) | exact .inr (.inr rfl))) (fun _ _ => rfl)) a_nil))) rfl (by decide) (by decide) (fun ho ha => pe_bm PySem.F.plainAttrs_list PySem.F.slot_list_append PySem.F.type_list_append mt_append ho ha)))) (b_one (s_expr (v_app (i := 3) rfl (by first | exact .inl rfl | exact .inr (.inl rfl) | exact .inr (.inr rfl)) (v_tup (a_cons (v_gint rfl T.gc_RIGHT) (a_cons (v_ix (v_var (i := 1) rfl (by first | exact .inl rfl | exact .inr (.inl rfl) | exact .inr (.inr rfl))) (v_var (i := 4) rfl (by first | exact .inl rfl | exact .inr (.inl rfl) | exact .inr (.inr rfl))) (fun _ _ => rfl)) a_nil))) rfl (by decide) (by decide) (fun ho ha => pe_bm PySem.F.plainAttrs_list PySem.F.slot_list_append PySem.F.type_list_append mt_append ho ha)))))))
      (b_one (s_ret (v_var (i := 3) rfl (by first | exact .inl rfl | exact .inr (.inl rfl) | exact .inr (.inr rfl))))))))
theorem Tx.bd_caught (T : Tx P K mg) : Binds K T.fd_caught ["left", "right", "coins"] [] := T.F_caught.bindsN fun _ _ _ _ _ _ us hl => match us, hl with | [_, _, _], _ => rfl
theorem Tx.ok_caught (T : Tx P K mg) : FnOk P w K mg base CX0 2 T.a_caught T.fd_caught ["left", "right", "coins"] (spF K mg 3 φ_caught) :=
  fn_ok (k := 1) T.F_caught sc_caught [false, false, false] rfl (m := d_caught) (n := 7) rfl fun cdv A outer s H E hr => ((b_cons (s_set (i := 3) sc_caught.nd rfl (by first | exact .inl rfl | exact .inr rfl) (v_lst a_nil))
      (b_seen (jf := 3) (js := 4) (jr := 5) (jl := 6) PassesOwn.never rfl (Nat.lt_of_le_of_lt (Nat.add_le_add_left (by decide : 1 ≤ 65) _) (u65 hr)) sc_caught.nd rfl T.b_set rfl T.b_enumerate rfl (by first | exact .inl rfl | exact .inr (.inl rfl) | exact .inr (.inr rfl)) rfl (by first | exact .inl rfl | exact .inr (.inl rfl) | exact .inr (.inr rfl)) (by first | exact .inl rfl | exact .inr rfl) rfl (by first | exact .inl rfl | exact .inr (.inl rfl) | exact .inr (.inr rfl)) (by first | exact .inl rfl | exact .inr rfl) rfl (by first | exact .inl rfl | exact .inr (.inl rfl) | exact .inr (.inr rfl)) (by first | exact .inl rfl | exact .inr rfl) (a_cons (v_call (md := [false, false, false]) T.ok_opened_claims (hr.mono (by decide)) rfl T.g_opened_claims T.F_opened_claims.kp T.bd_opened_claims passN (a_cons (v_var (i := 0) rfl (by first | exact .inl rfl | exact .inr (.inl rfl) | exact .inr (.inr rfl))) (a_cons (v_var (i := 1) rfl (by first | exact .inl rfl | exact .inr (.inl rfl) | exact .inr (.inr rfl))) (a_cons (v_var (i := 2) rfl (by first | exact .inl rfl | exact .inr (.inl rfl) | exact .inr (.inr rfl))) a_nil)))) a_nil)
      (b_one (s_ret (v_var (i := 3) rfl (by first | exact .inl rfl | exact .inr (.inl rfl) | exact .inr (.inr rfl))))) (happ := fun ho ha => pe_bm PySem.F.plainAttrs_list PySem.F.slot_list_append PySem.F.type_list_append mt_append ho ha) (hadd := fun ho ha => OS.pe_saddN (Nat.lt_of_le_of_lt (Nat.add_le_add_left (by decide : 1 ≤ 65) _) (u65 hr)) ho ha))))
theorem Tx.bd_coins_of_number (T : Tx P K mg) : Binds K T.fd_coins_of_number ["rows", "number"] [] := T.F_coins_of_number.bindsN fun _ _ _ _ _ _ us hl => match us, hl with | [_, _], _ => rfl
theorem Tx.ok_coins_of_number (T : Tx P K mg) : FnOk P w K mg base CX0 1 T.a_coins_of_number T.fd_coins_of_number ["rows", "number"] (spF K mg 2 φ_coins_of_number) :=
  fn_ok (k := 0) T.F_coins_of_number sc_coins_of_number [false, false] rfl (m := d_coins_of_number) (n := 5) rfl fun cdv A outer s H E hr => ((b_cons (s_set (i := 2) sc_coins_of_number.nd rfl (by first | exact .inl rfl | exact .inr rfl) (v_lst a_nil))
      (b_cons (s_set (i := 3) sc_coins_of_number.nd rfl (by first | exact .inl rfl | exact .inr rfl) (v_var (i := 1) rfl (by first | exact .inl rfl | exact .inr (.inl rfl) | exact .inr (.inr rfl))))
      (b_cons (s_for PassesOwn.never rfl (i_rng1 rfl T.b_range (a_cons (v_var (i := 0) rfl (by first | exact .inl rfl | exact .inr (.inl rfl) | exact .inr (.inr rfl))) a_nil)) (g_name (i := 4) sc_coins_of_number.nd rfl (by first | exact .inl rfl | exact .inr rfl)) (b_cons (s_expr (v_app (i := 2) rfl (by first | exact .inl rfl | exact .inr (.inl rfl) | exact .inr (.inr rfl)) (v_mod (v_callInt rfl T.b_int (a_cons (v_var (i := 3) rfl (by first | exact .inl rfl | exact .inr (.inl rfl) | exact .inr (.inr rfl))) a_nil)) v_int) rfl (by decide) (by decide) (fun ho ha => pe_bm PySem.F.plainAttrs_list PySem.F.slot_list_append PySem.F.type_list_append mt_append ho ha)))
      (b_one (s_set (i := 3) sc_coins_of_number.nd rfl (by first | exact .inl rfl | exact .inr rfl) (v_div (v_var (i := 3) rfl (by first | exact .inl rfl | exact .inr (.inl rfl) | exact .inr (.inr rfl))) v_int)))))
      (b_one (s_ret (v_var (i := 2) rfl (by first | exact .inl rfl | exact .inr (.inl rfl) | exact .inr (.inr rfl)))))))))
theorem Tx.bd_passing_plainly (T : Tx P K mg) : Binds K T.fd_passing_plainly ["left", "right"] [] := T.F_passing_plainly.bindsN fun _ _ _ _ _ _ us hl => match us, hl with | [_, _], _ => rfl
theorem Tx.ok_passing_plainly (T : Tx P K mg) : FnOk P w K mg base CX0 3 T.a_passing_plainly T.fd_passing_plainly ["left", "right"] (spF K mg 2 φ_passing_plainly) :=
  fn_ok (k := 2) T.F_passing_plainly sc_passing_plainly [false, false] rfl (m := d_passing_plainly) (n := 7) rfl fun cdv A outer s H E hr => ((b_cons (s_set (i := 2) sc_passing_plainly.nd rfl (by first | exact .inl rfl | exact .inr rfl) (v_len rfl T.b_len (a_cons (v_var (i := 0) rfl (by first | exact .inl rfl | exact .inr (.inl rfl) | exact .inr (.inr rfl))) a_nil)))
      (b_cons (s_set (i := 3) sc_passing_plainly.nd rfl (by first | exact .inl rfl | exact .inr rfl) v_int)
      (b_cons (s_for PassesOwn.never rfl (i_rng1 rfl T.b_range (a_cons (v_var (i := 2) rfl (by first | exact .inl rfl | exact .inr (.inl rfl) | exact .inr (.inr rfl))) a_nil)) (g_name (i := 4) sc_passing_plainly.nd rfl (by first | exact .inl rfl | exact .inr rfl)) (b_one (s_set (i := 3) sc_passing_plainly.nd rfl (by first | exact .inl rfl | exact .inr rfl) (v_mul (v_var (i := 3) rfl (by first | exact .inl rfl | exact .inr (.inl rfl) | exact .inr (.inr rfl))) v_int))))
      (b_cons (s_set (i := 5) sc_passing_plainly.nd rfl (by first | exact .inl rfl | exact .inr rfl) v_int)
      (b_cons (s_for PassesOwn.never rfl (i_rng1 rfl T.b_range (a_cons (v_var (i := 3) rfl (by first | exact .inl rfl | exact .inr (.inl rfl) | exact .inr (.inr rfl))) a_nil)) (g_name (i := 6) sc_passing_plainly.nd rfl (by first | exact .inl rfl | exact .inr rfl)) (b_one (s_if (t_not (t_tru (v_call (md := [false, false, false]) T.ok_caught (hr.mono (by decide)) rfl T.g_caught T.F_caught.kp T.bd_caught passN (a_cons (v_var (i := 0) rfl (by first | exact .inl rfl | exact .inr (.inl rfl) | exact .inr (.inr rfl))) (a_cons (v_var (i := 1) rfl (by first | exact .inl rfl | exact .inr (.inl rfl) | exact .inr (.inr rfl))) (a_cons (v_call (md := [false, false]) T.ok_coins_of_number (hr.mono (by decide)) rfl T.g_coins_of_number T.F_coins_of_number.kp T.bd_coins_of_number passN (a_cons (v_var (i := 2) rfl (by first | exact .inl rfl | exact .inr (.inl rfl) | exact .inr (.inr rfl))) (a_cons (v_var (i := 6) rfl (by first | exact .inl rfl | exact .inr (.inl rfl) | exact .inr (.inr rfl))) a_nil))) a_nil)))))) (b_one (s_aug (i := 5) (f := (· + ·)) ip_add sc_passing_plainly.nd rfl (by first | exact .inl rfl | exact .inr rfl) v_int)) b_nil)))
      (b_one (s_ret (v_var (i := 5) rfl (by first | exact .inl rfl | exact .inr (.inl rfl) | exact .inr (.inr rfl)))))))))))
theorem Tx.bd_links_of (T : Tx P K mg) : Binds K T.fd_links_of ["left", "right"] [] := T.F_links_of.bindsN fun _ _ _ _ _ _ us hl => match us, hl with | [_, _], _ => rfl
theorem Tx.ok_links_of (T : Tx P K mg) : FnOk P w K mg base CX0 1 T.a_links_of T.fd_links_of ["left", "right"] (spF K mg 2 φ_links_of) :=
  fn_ok (k := 0) T.F_links_of sc_links_of [false, false] rfl (m := d_links_of) (n := 5) rfl fun cdv A outer s H E hr => ((b_cons (s_set (i := 2) sc_links_of.nd rfl (by first | exact .inl rfl | exact .inr rfl) (v_lst a_nil))
      (b_cons (s_for PassesOwn.never rfl (i_rng1 rfl T.b_range (a_cons (v_len rfl T.b_len (a_cons (v_var (i := 0) rfl (by first | exact .inl rfl | exact .inr (.inl rfl) | exact .inr (.inr rfl))) a_nil)) a_nil)) (g_name (i := 3) sc_links_of.nd rfl (by first | exact .inl rfl | exact .inr rfl)) (b_cons (s_set (i := 4) sc_links_of.nd rfl (by first | exact .inl rfl | exact .inr rfl) (v_lst a_nil))
      (b_cons (s_if (t_notN (v_ix (v_var (i := 0) rfl (by first | exact .inl rfl | exact .inr (.inl rfl) | exact .inr (.inr rfl))) (v_var (i := 3) rfl (by first | exact .inl rfl | exact .inr (.inl rfl) | exact .inr (.inr rfl))) (fun _ _ => rfl)) v_non) (b_one (s_expr (v_app (i := 4) rfl (by first | exact .inl rfl | exact .inr (.inl rfl) | exact .inr (.inr rfl)) (v_tup (a_cons (v_gint rfl T.gc_LEFT) (a_cons (v_ix (v_var (i := 0) rfl (by first | exact .inl rfl | exact .inr (.inl rfl) | exact .inr (.inr rfl))) (v_var (i := 3) rfl (by first | exact .inl rfl | exact .inr (.inl rfl) | exact .inr (.inr rfl))) (fun _ _ => rfl)) a_nil))) rfl (by decide) (by decide) (fun ho ha => pe_bm PySem.F.plainAttrs_list PySem.F.slot_list_append PySem.F.type_list_append mt_append ho ha)))) b_nil)
      (b_cons (s_if (t_notN (v_ix (v_var (i := 1) rfl (by first | exact .inl rfl | exact .inr (.inl rfl) | exact .inr (.inr rfl))) (v_var (i := 3) rfl (by first | exact .inl rfl | exact .inr (.inl rfl) | exact .inr (.inr rfl))) (fun _ _ => rfl)) v_non) (b_one (s_expr (v_app (i := 4) rfl (by first | exact .inl rfl | exact .inr (.inl rfl) | exact .inr (.inr rfl)) (v_tup (a_cons (v_gint rfl T.gc_RIGHT) (a_cons (v_ix (v_var (i := 1) rfl (by first | exact .inl rfl | exact .inr (.inl rfl) | exact .inr (.inr rfl))) (v_var (i := 3) rfl (by first | exact .inl rfl | exact .inr (.inl rfl) | exact .inr (.inr rfl))) (fun _ _ => rfl)) a_nil))) rfl (by decide) (by decide) (fun ho ha => pe_bm PySem.F.plainAttrs_list PySem.F.slot_list_append PySem.F.type_list_append mt_append ho ha)))) b_nil)
      (b_one (s_expr (v_app (i := 2) rfl (by first | exact .inl rfl | exact .inr (.inl rfl) | exact .inr (.inr rfl)) (v_var (i := 4) rfl (by first | exact .inl rfl | exact .inr (.inl rfl) | exact .inr (.inr rfl))) rfl (by decide) (by decide) (fun ho ha => pe_bm PySem.F.plainAttrs_list PySem.F.slot_list_append PySem.F.type_list_append mt_append ho ha))))))))
      (b_one (s_ret (v_var (i := 2) rfl (by first | exact .inl rfl | exact .inr (.inl rfl) | exact .inr (.inr rfl))))))))
theorem Tx.bd_joined_parts (T : Tx P K mg) : Binds K T.fd_joined_parts ["parts", "ends"] [] := T.F_joined_parts.bindsN fun _ _ _ _ _ _ us hl => match us, hl with | [_, _], _ => rfl
theorem Tx.ok_joined_parts (T : Tx P K mg) : FnOk P w K mg base CX0 1 T.a_joined_parts T.fd_joined_parts ["parts", "ends"] (spF K mg 2 φ_joined_parts) :=
  fn_ok (k := 0) T.F_joined_parts sc_joined_parts [false, false] rfl (m := d_joined_parts) (n := 7) rfl fun cdv A outer s H E hr => ((b_cons (s_set (i := 2) sc_joined_parts.nd rfl (by first | exact .inl rfl | exact .inr rfl) (v_lst a_nil))
      (b_cons (s_set (i := 3) sc_joined_parts.nd rfl (by first | exact .inl rfl | exact .inr rfl) (v_lst a_nil))
      (b_cons (s_for PassesOwn.never rfl (i_any (v_var (i := 0) rfl (by first | exact .inl rfl | exact .inr (.inl rfl) | exact .inr (.inr rfl)))) (g_name (i := 4) sc_joined_parts.nd rfl (by first | exact .inl rfl | exact .inr rfl)) (b_cons (s_set (i := 6) sc_joined_parts.nd rfl (by first | exact .inl rfl | exact .inr rfl) v_bl)
      (b_cons (s_for PassesOwn.never rfl (i_any (v_var (i := 1) rfl (by first | exact .inl rfl | exact .inr (.inl rfl) | exact .inr (.inr rfl)))) (g_name (i := 5) sc_joined_parts.nd rfl (by first | exact .inl rfl | exact .inr rfl)) (b_one (s_if (t_in (u65 hr) (v_var (i := 5) rfl (by first | exact .inl rfl | exact .inr (.inl rfl) | exact .inr (.inr rfl))) (v_var (i := 4) rfl (by first | exact .inl rfl | exact .inr (.inl rfl) | exact .inr (.inr rfl))) (by rfl)) (b_one (s_set (i := 6) sc_joined_parts.nd rfl (by first | exact .inl rfl | exact .inr rfl) v_bl)) b_nil)))
      (b_one (s_if (t_tru (v_var (i := 6) rfl (by first | exact .inl rfl | exact .inr (.inl rfl) | exact .inr (.inr rfl)))) (b_one (s_set (i := 3) sc_joined_parts.nd rfl (by first | exact .inl rfl | exact .inr rfl) (v_addL (v_var (i := 3) rfl (by first | exact .inl rfl | exact .inr (.inl rfl) | exact .inr (.inr rfl))) (v_var (i := 4) rfl (by first | exact .inl rfl | exact .inr (.inl rfl) | exact .inr (.inr rfl)))))) (b_one (s_expr (v_app (i := 2) rfl (by first | exact .inl rfl | exact .inr (.inl rfl) | exact .inr (.inr rfl)) (v_var (i := 4) rfl (by first | exact .inl rfl | exact .inr (.inl rfl) | exact .inr (.inr rfl))) rfl (by decide) (by decide) (fun ho ha => pe_bm PySem.F.plainAttrs_list PySem.F.slot_list_append PySem.F.type_list_append mt_append ho ha)))))))))
      (b_cons (s_for PassesOwn.never rfl (i_any (v_var (i := 1) rfl (by first | exact .inl rfl | exact .inr (.inl rfl) | exact .inr (.inr rfl)))) (g_name (i := 5) sc_joined_parts.nd rfl (by first | exact .inl rfl | exact .inr rfl)) (b_one (s_if (t_notIn (u65 hr) (v_var (i := 5) rfl (by first | exact .inl rfl | exact .inr (.inl rfl) | exact .inr (.inr rfl))) (v_var (i := 3) rfl (by first | exact .inl rfl | exact .inr (.inl rfl) | exact .inr (.inr rfl))) (by rfl)) (b_one (s_expr (v_app (i := 3) rfl (by first | exact .inl rfl | exact .inr (.inl rfl) | exact .inr (.inr rfl)) (v_var (i := 5) rfl (by first | exact .inl rfl | exact .inr (.inl rfl) | exact .inr (.inr rfl))) rfl (by decide) (by decide) (fun ho ha => pe_bm PySem.F.plainAttrs_list PySem.F.slot_list_append PySem.F.type_list_append mt_append ho ha)))) b_nil)))
      (b_one (s_ret (v_addL (v_var (i := 2) rfl (by first | exact .inl rfl | exact .inr (.inl rfl) | exact .inr (.inr rfl))) (v_lst (a_cons (v_var (i := 3) rfl (by first | exact .inl rfl | exact .inr (.inl rfl) | exact .inr (.inr rfl))) a_nil))))))))))
theorem Tx.bd_parts_of (T : Tx P K mg) : Binds K T.fd_parts_of ["links"] [] := T.F_parts_of.bindsN fun _ _ _ _ _ _ us hl => match us, hl with | [_], _ => rfl
theorem Tx.ok_parts_of (T : Tx P K mg) : FnOk P w K mg base CX0 2 T.a_parts_of T.fd_parts_of ["links"] (spF K mg 1 φ_parts_of) :=
  fn_ok (k := 1) T.F_parts_of sc_parts_of [false] rfl (m := d_parts_of) (n := 3) rfl fun cdv A outer s H E hr => ((b_cons (s_set (i := 1) sc_parts_of.nd rfl (by first | exact .inl rfl | exact .inr rfl) (v_lst a_nil))
      (b_cons (s_for PassesOwn.never rfl (i_any (v_var (i := 0) rfl (by first | exact .inl rfl | exact .inr (.inl rfl) | exact .inr (.inr rfl)))) (g_name (i := 2) sc_parts_of.nd rfl (by first | exact .inl rfl | exact .inr rfl)) (b_one (s_if (t_tru (v_var (i := 2) rfl (by first | exact .inl rfl | exact .inr (.inl rfl) | exact .inr (.inr rfl)))) (b_one (s_set (i := 1) sc_parts_of.nd rfl (by first | exact .inl rfl | exact .inr rfl) (v_call (md := [false, false]) T.ok_joined_parts (hr.mono (by decide)) rfl T.g_joined_parts T.F_joined_parts.kp T.bd_joined_parts passN (a_cons (v_var (i := 1) rfl (by first | exact .inl rfl | exact .inr (.inl rfl) | exact .inr (.inr rfl))) (a_cons (v_var (i := 2) rfl (by first | exact .inl rfl | exact .inr (.inl rfl) | exact .inr (.inr rfl))) a_nil))))) b_nil)))
      (b_one (s_ret (v_var (i := 1) rfl (by first | exact .inl rfl | exact .inr (.inl rfl) | exact .inr (.inr rfl))))))))
theorem Tx.bd_passing_in (T : Tx P K mg) : Binds K T.fd_passing_in ["part", "links"] [] := T.F_passing_in.bindsN fun _ _ _ _ _ _ us hl => match us, hl with | [_, _], _ => rfl
theorem Tx.ok_passing_in (T : Tx P K mg) : FnOk P w K mg base CX0 1 T.a_passing_in T.fd_passing_in ["part", "links"] (spF K mg 2 φ_passing_in) :=
  fn_ok (k := 0) T.F_passing_in sc_passing_in [false, false] rfl (m := d_passing_in) (n := 5) rfl fun cdv A outer s H E hr => ((b_cons (s_set (i := 2) sc_passing_in.nd rfl (by first | exact .inl rfl | exact .inr rfl) v_int)
      (b_cons (s_set (i := 3) sc_passing_in.nd rfl (by first | exact .inl rfl | exact .inr rfl) v_int)
      (b_cons (s_for PassesOwn.never rfl (i_any (v_var (i := 1) rfl (by first | exact .inl rfl | exact .inr (.inl rfl) | exact .inr (.inr rfl)))) (g_name (i := 4) sc_passing_in.nd rfl (by first | exact .inl rfl | exact .inr rfl)) (b_one (s_if (VW.t (w_and (t_tru (v_var (i := 4) rfl (by first | exact .inl rfl | exact .inr (.inl rfl) | exact .inr (.inr rfl)))) (w_and1 (t_in (u65 hr) (v_ix (v_var (i := 4) rfl (by first | exact .inl rfl | exact .inr (.inl rfl) | exact .inr (.inr rfl))) v_int (fun _ _ => rfl)) (v_var (i := 0) rfl (by first | exact .inl rfl | exact .inr (.inl rfl) | exact .inr (.inr rfl))) (by rfl))))) (b_cons (s_aug (i := 2) (f := (· + ·)) ip_add sc_passing_in.nd rfl (by first | exact .inl rfl | exact .inr rfl) (v_div (v_len rfl T.b_len (a_cons (v_var (i := 4) rfl (by first | exact .inl rfl | exact .inr (.inl rfl) | exact .inr (.inr rfl))) a_nil)) v_int))
      (b_one (s_aug (i := 3) (f := (· + ·)) ip_add sc_passing_in.nd rfl (by first | exact .inl rfl | exact .inr rfl) (v_sub v_int (v_len rfl T.b_len (a_cons (v_var (i := 4) rfl (by first | exact .inl rfl | exact .inr (.inl rfl) | exact .inr (.inr rfl))) a_nil)))))) b_nil)))
      (b_cons (s_if (VW.t (w_and (t_eq (u64 hr) (v_var (i := 3) rfl (by first | exact .inl rfl | exact .inr (.inl rfl) | exact .inr (.inr rfl))) v_int) (w_and1 (t_eq (u64 hr) (v_var (i := 2) rfl (by first | exact .inl rfl | exact .inr (.inl rfl) | exact .inr (.inr rfl))) (v_sub (v_len rfl T.b_len (a_cons (v_var (i := 0) rfl (by first | exact .inl rfl | exact .inr (.inl rfl) | exact .inr (.inr rfl))) a_nil)) v_int))))) (b_one (s_ret (v_len rfl T.b_len (a_cons (v_var (i := 0) rfl (by first | exact .inl rfl | exact .inr (.inl rfl) | exact .inr (.inr rfl))) a_nil)))) b_nil)
      (b_cons (s_if (VW.t (w_and (t_eq (u64 hr) (v_var (i := 3) rfl (by first | exact .inl rfl | exact .inr (.inl rfl) | exact .inr (.inr rfl))) v_int) (w_and1 (t_eq (u64 hr) (v_var (i := 2) rfl (by first | exact .inl rfl | exact .inr (.inl rfl) | exact .inr (.inr rfl))) (v_len rfl T.b_len (a_cons (v_var (i := 0) rfl (by first | exact .inl rfl | exact .inr (.inl rfl) | exact .inr (.inr rfl))) a_nil)))))) (b_one (s_ret v_int)) b_nil)
      (b_cons (s_if (VW.t (w_and (t_eq (u64 hr) (v_var (i := 3) rfl (by first | exact .inl rfl | exact .inr (.inl rfl) | exact .inr (.inr rfl))) v_int) (w_and1 (t_eq (u64 hr) (v_var (i := 2) rfl (by first | exact .inl rfl | exact .inr (.inl rfl) | exact .inr (.inr rfl))) (v_sub (v_len rfl T.b_len (a_cons (v_var (i := 0) rfl (by first | exact .inl rfl | exact .inr (.inl rfl) | exact .inr (.inr rfl))) a_nil)) v_int))))) (b_one (s_ret v_int)) b_nil)
      (b_one (s_ret v_int)))))))))
theorem Tx.bd_passing (T : Tx P K mg) : Binds K T.fd_passing ["left", "right"] [] := T.F_passing.bindsN fun _ _ _ _ _ _ us hl => match us, hl with | [_, _], _ => rfl
theorem Tx.ok_passing (T : Tx P K mg) : FnOk P w K mg base CX0 3 T.a_passing T.fd_passing ["left", "right"] (spF K mg 2 φ_passing) :=
  fn_ok (k := 2) T.F_passing sc_passing [false, false] rfl (m := d_passing) (n := 6) rfl fun cdv A outer s H E hr => ((b_cons (s_set (i := 2) sc_passing.nd rfl (by first | exact .inl rfl | exact .inr rfl) (v_call (md := [false, false]) T.ok_links_of (hr.mono (by decide)) rfl T.g_links_of T.F_links_of.kp T.bd_links_of passN (a_cons (v_var (i := 0) rfl (by first | exact .inl rfl | exact .inr (.inl rfl) | exact .inr (.inr rfl))) (a_cons (v_var (i := 1) rfl (by first | exact .inl rfl | exact .inr (.inl rfl) | exact .inr (.inr rfl))) a_nil))))
      (b_cons (s_set (i := 3) sc_passing.nd rfl (by first | exact .inl rfl | exact .inr rfl) v_int)
      (b_cons (s_for PassesOwn.never rfl (i_any (v_var (i := 2) rfl (by first | exact .inl rfl | exact .inr (.inl rfl) | exact .inr (.inr rfl)))) (g_name (i := 4) sc_passing.nd rfl (by first | exact .inl rfl | exact .inr rfl)) (b_one (s_if (t_not (t_tru (v_var (i := 4) rfl (by first | exact .inl rfl | exact .inr (.inl rfl) | exact .inr (.inr rfl))))) (b_one (s_set (i := 3) sc_passing.nd rfl (by first | exact .inl rfl | exact .inr rfl) v_int)) b_nil)))
      (b_cons (s_for PassesOwn.never rfl (i_any (v_call (md := [false]) T.ok_parts_of (hr.mono (by decide)) rfl T.g_parts_of T.F_parts_of.kp T.bd_parts_of passN (a_cons (v_var (i := 2) rfl (by first | exact .inl rfl | exact .inr (.inl rfl) | exact .inr (.inr rfl))) a_nil))) (g_name (i := 5) sc_passing.nd rfl (by first | exact .inl rfl | exact .inr rfl)) (b_one (s_set (i := 3) sc_passing.nd rfl (by first | exact .inl rfl | exact .inr rfl) (v_mul (v_var (i := 3) rfl (by first | exact .inl rfl | exact .inr (.inl rfl) | exact .inr (.inr rfl))) (v_callB T.ok_passing_in (hr.mono (by decide)) rfl T.g_passing_in T.F_passing_in.kp T.bd_passing_in passN (a_cons (v_var (i := 5) rfl (by first | exact .inl rfl | exact .inr (.inl rfl) | exact .inr (.inr rfl))) (a_cons (v_var (i := 2) rfl (by first | exact .inl rfl | exact .inr (.inl rfl) | exact .inr (.inr rfl))) a_nil)))))))
      (b_one (s_ret (v_var (i := 3) rfl (by first | exact .inl rfl | exact .inr (.inl rfl) | exact .inr (.inr rfl))))))))))
theorem Tx.bd__law_cell (T : Tx P K mg) : Binds K T.fd__law_cell ["_law_script", "_law_k"] [] := T.F__law_cell.bindsN fun _ _ _ _ _ _ us hl => match us, hl with | [_, _], _ => rfl
theorem Tx.ok__law_cell (T : Tx P K mg) : FnOk P w K mg base CX0 1 T.a__law_cell T.fd__law_cell ["_law_script", "_law_k"] (spF K mg 2 φ__law_cell) :=
  fn_ok (k := 0) T.F__law_cell sc__law_cell [false, false] rfl (m := d__law_cell) (n := 2) rfl fun cdv A outer s H E hr => ((b_cons (s_if (t_lt (v_var (i := 1) rfl (by first | exact .inl rfl | exact .inr (.inl rfl) | exact .inr (.inr rfl))) (v_len rfl T.b_len (a_cons (v_var (i := 0) rfl (by first | exact .inl rfl | exact .inr (.inl rfl) | exact .inr (.inr rfl))) a_nil))) (b_one (s_ret (v_ix (v_var (i := 0) rfl (by first | exact .inl rfl | exact .inr (.inl rfl) | exact .inr (.inr rfl))) (v_var (i := 1) rfl (by first | exact .inl rfl | exact .inr (.inl rfl) | exact .inr (.inr rfl))) (fun _ _ => rfl)))) b_nil)
      (b_one (s_ret v_int))))
theorem Tx.bd__law_row (T : Tx P K mg) : Binds K T.fd__law_row ["_law_cell_here", "_law_k", "_law_many"] [] := T.F__law_row.bindsN fun _ _ _ _ _ _ us hl => match us, hl with | [_, _, _], _ => rfl
theorem Tx.ok__law_row (T : Tx P K mg) : FnOk P w K mg base CX0 1 T.a__law_row T.fd__law_row ["_law_cell_here", "_law_k", "_law_many"] (spF K mg 3 φ__law_row) :=
  fn_ok (k := 0) T.F__law_row sc__law_row [false, false, false] rfl (m := d__law_row) (n := 6) rfl fun cdv A outer s H E hr => ((b_cons (s_set (i := 3) sc__law_row.nd rfl (by first | exact .inl rfl | exact .inr rfl) (v_lst a_nil))
      (b_cons (s_if (t_lt (v_var (i := 0) rfl (by first | exact .inl rfl | exact .inr (.inl rfl) | exact .inr (.inr rfl))) v_int) (b_one (s_set (i := 0) sc__law_row.nd rfl (by first | exact .inl rfl | exact .inr rfl) (v_sub v_int (v_mul v_int (v_var (i := 0) rfl (by first | exact .inl rfl | exact .inr (.inl rfl) | exact .inr (.inr rfl))))))) b_nil)
      (b_cons (s_if (t_ge (v_var (i := 0) rfl (by first | exact .inl rfl | exact .inr (.inl rfl) | exact .inr (.inr rfl))) (v_pow v_int v_int)) (b_cons (s_for PassesOwn.never rfl (i_rng1 rfl T.b_range (a_cons v_int a_nil)) (g_name (i := 5) sc__law_row.nd rfl (by first | exact .inl rfl | exact .inr rfl)) (b_one (s_if (VW.t (w_and (t_gt (v_var (i := 0) rfl (by first | exact .inl rfl | exact .inr (.inl rfl) | exact .inr (.inr rfl))) v_int) (w_and1 (t_lt (v_len rfl T.b_len (a_cons (v_var (i := 3) rfl (by first | exact .inl rfl | exact .inr (.inl rfl) | exact .inr (.inr rfl))) a_nil)) (v_var (i := 2) rfl (by first | exact .inl rfl | exact .inr (.inl rfl) | exact .inr (.inr rfl))))))) (b_cons (s_expr (v_app (i := 3) rfl (by first | exact .inl rfl | exact .inr (.inl rfl) | exact .inr (.inr rfl)) (v_mod (v_callInt rfl T.b_int (a_cons (v_var (i := 0) rfl (by first | exact .inl rfl | exact .inr (.inl rfl) | exact .inr (.inr rfl))) a_nil)) v_int) rfl (by decide) (by decide) (fun ho ha => pe_bm PySem.F.plainAttrs_list PySem.F.slot_list_append PySem.F.type_list_append mt_append ho ha)))
      (b_one (s_set (i := 0) sc__law_row.nd rfl (by first | exact .inl rfl | exact .inr rfl) (v_div (v_var (i := 0) rfl (by first | exact .inl rfl | exact .inr (.inl rfl) | exact .inr (.inr rfl))) v_int)))) b_nil)))
      (b_one (s_ret (v_var (i := 3) rfl (by first | exact .inl rfl | exact .inr (.inl rfl) | exact .inr (.inr rfl)))))) b_nil)
      (b_cons (s_set (i := 4) sc__law_row.nd rfl (by first | exact .inl rfl | exact .inr rfl) (v_mod (v_callInt rfl T.b_int (a_cons (v_addI (v_addI (v_mul (v_var (i := 0) rfl (by first | exact .inl rfl | exact .inr (.inl rfl) | exact .inr (.inr rfl))) v_int) (v_mul (v_var (i := 1) rfl (by first | exact .inl rfl | exact .inr (.inl rfl) | exact .inr (.inr rfl))) v_int)) v_int) a_nil)) v_int))
      (b_cons (s_for PassesOwn.never rfl (i_rng1 rfl T.b_range (a_cons (v_var (i := 2) rfl (by first | exact .inl rfl | exact .inr (.inl rfl) | exact .inr (.inr rfl))) a_nil)) (g_name (i := 5) sc__law_row.nd rfl (by first | exact .inl rfl | exact .inr rfl)) (b_cons (s_set (i := 4) sc__law_row.nd rfl (by first | exact .inl rfl | exact .inr rfl) (v_mod (v_callInt rfl T.b_int (a_cons (v_addI (v_addI (v_mul (v_var (i := 4) rfl (by first | exact .inl rfl | exact .inr (.inl rfl) | exact .inr (.inr rfl))) v_int) (v_mul v_int (v_var (i := 5) rfl (by first | exact .inl rfl | exact .inr (.inl rfl) | exact .inr (.inr rfl))))) v_int) a_nil)) v_int))
      (b_one (s_expr (v_app (i := 3) rfl (by first | exact .inl rfl | exact .inr (.inl rfl) | exact .inr (.inr rfl)) (v_mod (v_callInt rfl T.b_int (a_cons (v_div (v_var (i := 4) rfl (by first | exact .inl rfl | exact .inr (.inl rfl) | exact .inr (.inr rfl))) v_int) a_nil)) v_int) rfl (by decide) (by decide) (fun ho ha => pe_bm PySem.F.plainAttrs_list PySem.F.slot_list_append PySem.F.type_list_append mt_append ho ha))))))
      (b_one (s_ret (v_var (i := 3) rfl (by first | exact .inl rfl | exact .inr (.inl rfl) | exact .inr (.inr rfl)))))))))))
theorem Tx.bd__law_box (T : Tx P K mg) : Binds K T.fd__law_box ["_law_script", "_law_first", "_law_last"] [] := T.F__law_box.bindsN fun _ _ _ _ _ _ us hl => match us, hl with | [_, _, _], _ => rfl
theorem Tx.ok__law_box (T : Tx P K mg) : FnOk P w K mg base CX0 2 T.a__law_box T.fd__law_box ["_law_script", "_law_first", "_law_last"] (spF K mg 3 φ__law_box) :=
  fn_ok (k := 1) T.F__law_box sc__law_box [false, false, false] rfl (m := d__law_box) (n := 5) rfl fun cdv A outer s H E hr => ((b_cons (s_set (i := 3) sc__law_box.nd rfl (by first | exact .inl rfl | exact .inr rfl) (v_lst a_nil))
      (b_cons (s_for PassesOwn.never rfl (i_rng2 rfl T.b_range (a_cons (v_var (i := 1) rfl (by first | exact .inl rfl | exact .inr (.inl rfl) | exact .inr (.inr rfl))) (a_cons (v_var (i := 2) rfl (by first | exact .inl rfl | exact .inr (.inl rfl) | exact .inr (.inr rfl))) a_nil))) (g_name (i := 4) sc__law_box.nd rfl (by first | exact .inl rfl | exact .inr rfl)) (b_one (s_set (i := 3) sc__law_box.nd rfl (by first | exact .inl rfl | exact .inr rfl) (v_addL (v_var (i := 3) rfl (by first | exact .inl rfl | exact .inr (.inl rfl) | exact .inr (.inr rfl))) (v_call (md := [false, false, false]) T.ok__law_row (hr.mono (by decide)) rfl T.g__law_row T.F__law_row.kp T.bd__law_row passN (a_cons (v_call (md := [false, false]) T.ok__law_cell (hr.mono (by decide)) rfl T.g__law_cell T.F__law_cell.kp T.bd__law_cell passN (a_cons (v_var (i := 0) rfl (by first | exact .inl rfl | exact .inr (.inl rfl) | exact .inr (.inr rfl))) (a_cons (v_var (i := 4) rfl (by first | exact .inl rfl | exact .inr (.inl rfl) | exact .inr (.inr rfl))) a_nil))) (a_cons (v_var (i := 4) rfl (by first | exact .inl rfl | exact .inr (.inl rfl) | exact .inr (.inr rfl))) (a_cons v_int a_nil))))))))
      (b_one (s_ret (v_lst (a_cons (v_var (i := 3) rfl (by first | exact .inl rfl | exact .inr (.inl rfl) | exact .inr (.inr rfl))) (a_cons v_int a_nil))))))))
theorem Tx.bd__law_draw (T : Tx P K mg) : Binds K T.fd__law_draw ["_law_box_here", "_law_many"] [] := T.F__law_draw.bindsN fun _ _ _ _ _ _ us hl => match us, hl with | [_, _], _ => rfl
theorem Tx.ok__law_draw (T : Tx P K mg) : FnOk P w K mg base CX0 1 T.a__law_draw T.fd__law_draw ["_law_box_here", "_law_many"] (spF K mg 2 φ__law_draw) :=
  fn_ok (k := 0) T.F__law_draw sc__law_draw [true, false] rfl (m := d__law_draw) (n := 3) rfl fun cdv A outer s H E hr => ((b_cons (s_set (i := 2) sc__law_draw.nd rfl (by first | exact .inl rfl | exact .inr rfl) (v_ix (v_var (i := 0) rfl (by first | exact .inl rfl | exact .inr (.inl rfl) | exact .inr (.inr rfl))) v_int (fun _ _ => rfl)))
      (b_cons (s_setIx (j := 0) rfl (by first | exact .inl rfl | exact .inr (.inl rfl) | exact .inr (.inr rfl)) v_int (v_addI (v_var (i := 2) rfl (by first | exact .inl rfl | exact .inr (.inl rfl) | exact .inr (.inr rfl))) v_int) (fun ho hi => pg_sub ho hi set_list))
      (b_cons (s_if (t_lt (v_var (i := 2) rfl (by first | exact .inl rfl | exact .inr (.inl rfl) | exact .inr (.inr rfl))) (v_len rfl T.b_len (a_cons (v_ix (v_var (i := 0) rfl (by first | exact .inl rfl | exact .inr (.inl rfl) | exact .inr (.inr rfl))) v_int (fun _ _ => rfl)) a_nil))) (b_one (s_ret (v_mod (v_callInt rfl T.b_int (a_cons (v_ix (v_ix (v_var (i := 0) rfl (by first | exact .inl rfl | exact .inr (.inl rfl) | exact .inr (.inr rfl))) v_int (fun _ _ => rfl)) (v_var (i := 2) rfl (by first | exact .inl rfl | exact .inr (.inl rfl) | exact .inr (.inr rfl))) (fun _ _ => rfl)) a_nil)) (v_var (i := 1) rfl (by first | exact .inl rfl | exact .inr (.inl rfl) | exact .inr (.inr rfl)))))) b_nil)
      (b_one (s_ret (v_mod (v_callInt rfl T.b_int (a_cons (v_addI (v_mul (v_var (i := 2) rfl (by first | exact .inl rfl | exact .inr (.inl rfl) | exact .inr (.inr rfl))) v_int) v_int) a_nil)) (v_var (i := 1) rfl (by first | exact .inl rfl | exact .inr (.inl rfl) | exact .inr (.inr rfl))))))))))
theorem Tx.bd__law_same (T : Tx P K mg) : Binds K T.fd__law_same ["_law_one", "_law_other"] [] := T.F__law_same.bindsN fun _ _ _ _ _ _ us hl => match us, hl with | [_, _], _ => rfl
theorem Tx.ok__law_same (T : Tx P K mg) : FnOkG P w K mg base 1 T.a__law_same T.fd__law_same ["_law_one", "_law_other"] (spF K mg 2 φ__law_same) :=
  fn_okG (k := 0) T.F__law_same sc__law_same [false, false] rfl (m := d__law_same) (n := 2) rfl fun cdv A outer s H E hr hgd => ((b_one (s_ret (v_eqS (v_repr hgd (u64 hr) rfl T.b_repr (a_cons (v_var (i := 0) rfl (by first | exact .inl rfl | exact .inr (.inl rfl) | exact .inr (.inr rfl))) a_nil)) (v_repr hgd (u64 hr) rfl T.b_repr (a_cons (v_var (i := 1) rfl (by first | exact .inl rfl | exact .inr (.inl rfl) | exact .inr (.inr rfl))) a_nil))))))
theorem Tx.bd__law_claim (T : Tx P K mg) : Binds K T.fd__law_claim ["_law_box_here", "_law_many"] [] := T.F__law_claim.bindsN fun _ _ _ _ _ _ us hl => match us, hl with | [_, _], _ => rfl
theorem Tx.ok__law_claim (T : Tx P K mg) : FnOk P w K mg base CX0 2 T.a__law_claim T.fd__law_claim ["_law_box_here", "_law_many"] (spF K mg 2 φ__law_claim) :=
  fn_ok (k := 1) T.F__law_claim sc__law_claim [true, false] rfl (m := d__law_claim) (n := 2) rfl fun cdv A outer s H E hr => ((b_cons (s_if (t_eq (u64 hr) (v_call (md := [true, false]) T.ok__law_draw (hr.mono (by decide)) rfl T.g__law_draw T.F__law_draw.kp T.bd__law_draw passN (a_cons (v_var (i := 0) rfl (by first | exact .inl rfl | exact .inr (.inl rfl) | exact .inr (.inr rfl))) (a_cons v_int a_nil))) v_int) (b_one (s_ret v_non)) b_nil)
      (b_one (s_ret (v_mod (v_callInt rfl T.b_int (a_cons (v_call (md := [true, false]) T.ok__law_draw (hr.mono (by decide)) rfl T.g__law_draw T.F__law_draw.kp T.bd__law_draw passN (a_cons (v_var (i := 0) rfl (by first | exact .inl rfl | exact .inr (.inl rfl) | exact .inr (.inr rfl))) (a_cons v_int a_nil))) a_nil)) (v_var (i := 1) rfl (by first | exact .inl rfl | exact .inr (.inl rfl) | exact .inr (.inr rfl))))))))
theorem Tx.bd__law_free (T : Tx P K mg) : Binds K T.fd__law_free ["_law_left", "_law_right", "_law_coins"] [] := T.F__law_free.bindsN fun _ _ _ _ _ _ us hl => match us, hl with | [_, _, _], _ => rfl
theorem Tx.ok__law_free (T : Tx P K mg) : FnOk P w K mg base CX0 1 T.a__law_free T.fd__law_free ["_law_left", "_law_right", "_law_coins"] (spF K mg 3 φ__law_free) :=
  fn_ok (k := 0) T.F__law_free sc__law_free [false, false, false] rfl (m := d__law_free) (n := 5) rfl fun cdv A outer s H E hr => ((b_cons (s_set (i := 3) sc__law_free.nd rfl (by first | exact .inl rfl | exact .inr rfl) (v_comp (sc := defScope s__law_free) (own := [("_law_k", 4)]) rfl sc__law_free.nd (by rfl) (blkOk_by (N := N__law_free) (sc := defScope s__law_free) (own := [("_law_k", 4)]) (by decide +kernel)) (by decide) (i_rng1 rfl T.b_range (a_cons (v_len rfl T.b_len (a_cons (v_var (i := 2) rfl (by first | exact .inl rfl | exact .inr (.inl rfl) | exact .inr (.inr rfl))) a_nil)) a_nil)) (fun _ _ _ _ _ => (g_name (i := 4) sc__law_free.nd rfl (by first | exact .inl rfl | exact .inr rfl))) (fun _ _ _ _ _ => ts_nil) (fun _ _ _ _ _ => (v_tup (a_cons (v_ix (v_var (i := 2) rfl (by first | exact .inl rfl | exact .inr (.inl rfl) | exact .inr (.inr rfl))) (v_var (i := 4) rfl (by first | exact .inl rfl | exact .inr (.inl rfl) | exact .inr (.inr rfl))) (fun _ _ => rfl)) (a_cons (v_ix (v_ix (v_lst (a_cons (v_var (i := 0) rfl (by first | exact .inl rfl | exact .inr (.inl rfl) | exact .inr (.inr rfl))) (a_cons (v_var (i := 1) rfl (by first | exact .inl rfl | exact .inr (.inl rfl) | exact .inr (.inr rfl))) a_nil))) (v_ix (v_var (i := 2) rfl (by first | exact .inl rfl | exact .inr (.inl rfl) | exact .inr (.inr rfl))) (v_var (i := 4) rfl (by first | exact .inl rfl | exact .inr (.inl rfl) | exact .inr (.inr rfl))) (fun _ _ => rfl)) (fun _ _ => rfl)) (v_var (i := 4) rfl (by first | exact .inl rfl | exact .inr (.inl rfl) | exact .inr (.inr rfl))) (fun _ _ => rfl)) a_nil))))))
      (b_one (s_ret (v_eq (u64 hr) (v_comp (sc := defScope s__law_free) (own := [("_law_k", 4)]) rfl sc__law_free.nd (by rfl) (blkOk_by (N := N__law_free) (sc := defScope s__law_free) (own := [("_law_k", 4)]) (by decide +kernel)) (by decide) (i_rng1 rfl T.b_range (a_cons (v_len rfl T.b_len (a_cons (v_var (i := 2) rfl (by first | exact .inl rfl | exact .inr (.inl rfl) | exact .inr (.inr rfl))) a_nil)) a_nil)) (fun _ _ _ _ _ => (g_name (i := 4) sc__law_free.nd rfl (by first | exact .inl rfl | exact .inr rfl))) (fun _ _ _ _ _ => (ts_one (VW.t (w_or (t_isN (v_ix (v_ix (v_var (i := 3) rfl (by first | exact .inl rfl | exact .inr (.inl rfl) | exact .inr (.inr rfl))) (v_var (i := 4) rfl (by first | exact .inl rfl | exact .inr (.inl rfl) | exact .inr (.inr rfl))) (fun _ _ => rfl)) v_int (fun _ _ => rfl)) v_non) (w_or1 (t_in (u65 hr) (v_ix (v_var (i := 3) rfl (by first | exact .inl rfl | exact .inr (.inl rfl) | exact .inr (.inr rfl))) (v_var (i := 4) rfl (by first | exact .inl rfl | exact .inr (.inl rfl) | exact .inr (.inr rfl))) (fun _ _ => rfl)) (v_slTo (v_var (i := 3) rfl (by first | exact .inl rfl | exact .inr (.inl rfl) | exact .inr (.inr rfl))) (v_var (i := 4) rfl (by first | exact .inl rfl | exact .inr (.inl rfl) | exact .inr (.inr rfl)))) (by rfl))))))) (fun _ _ _ _ _ => (v_var (i := 4) rfl (by first | exact .inl rfl | exact .inr (.inl rfl) | exact .inr (.inr rfl))))) (v_lst a_nil))))))
theorem Tx.ok_law (T : Tx P K mg) : FnOkG P w K mg base 4 T.a_law T.fd_law ["_law_script"] (spF K mg 1 φ_law) :=
  fn_okG (k := 3) T.F_law sc_law [false] rfl (m := d_law) (n := 9) rfl fun cdv A outer s H E hr hgd => ((b_cons (s_set (i := 1) sc_law.nd rfl (by first | exact .inl rfl | exact .inr rfl) (v_call (md := [false, false, false]) T.ok__law_box (hr.mono (by decide)) rfl T.g__law_box T.F__law_box.kp T.bd__law_box passN (a_cons (v_var (i := 0) rfl (by first | exact .inl rfl | exact .inr (.inl rfl) | exact .inr (.inr rfl))) (a_cons v_int (a_cons v_int a_nil)))))
      (b_cons (s_set (i := 2) sc_law.nd rfl (by first | exact .inl rfl | exact .inr rfl) (v_call (md := [true, false]) T.ok__law_draw (hr.mono (by decide)) rfl T.g__law_draw T.F__law_draw.kp T.bd__law_draw passN (a_cons (v_var (i := 1) rfl (by first | exact .inl rfl | exact .inr (.inl rfl) | exact .inr (.inr rfl))) (a_cons v_int a_nil))))
      (b_cons (s_setComp (i := 3) (sc := defScope s_law) (own := [("_law_k", 8)]) rfl sc_law.nd rfl rfl (sw_true rfl rfl rfl (by decide +kernel)) (by rfl) (blkOk_by (N := N_law) (sc := defScope s_law) (own := [("_law_k", 8)]) (by decide +kernel)) (by decide) (i_rng1 rfl T.b_range (a_cons (v_var (i := 2) rfl (by first | exact .inl rfl | exact .inr (.inl rfl) | exact .inr (.inr rfl))) a_nil)) (fun _ _ _ _ _ => (g_name (i := 8) sc_law.nd rfl (by first | exact .inl rfl | exact .inr rfl))) (fun _ _ _ _ _ => ts_nil) (fun _ _ _ _ _ => (v_call (md := [true, false]) T.ok__law_claim (hr.mono (by decide)) rfl T.g__law_claim T.F__law_claim.kp T.bd__law_claim passN (a_cons (v_var (i := 1) rfl (by first | exact .inl rfl | exact .inr (.inl rfl) | exact .inr (.inr rfl))) (a_cons (v_var (i := 2) rfl (by first | exact .inl rfl | exact .inr (.inl rfl) | exact .inr (.inr rfl))) a_nil)))))
      (b_cons (s_setComp (i := 4) (sc := defScope s_law) (own := [("_law_k", 8)]) rfl sc_law.nd rfl rfl (sw_true rfl rfl rfl (by decide +kernel)) (by rfl) (blkOk_by (N := N_law) (sc := defScope s_law) (own := [("_law_k", 8)]) (by decide +kernel)) (by decide) (i_rng1 rfl T.b_range (a_cons (v_var (i := 2) rfl (by first | exact .inl rfl | exact .inr (.inl rfl) | exact .inr (.inr rfl))) a_nil)) (fun _ _ _ _ _ => (g_name (i := 8) sc_law.nd rfl (by first | exact .inl rfl | exact .inr rfl))) (fun _ _ _ _ _ => ts_nil) (fun _ _ _ _ _ => (v_call (md := [true, false]) T.ok__law_claim (hr.mono (by decide)) rfl T.g__law_claim T.F__law_claim.kp T.bd__law_claim passN (a_cons (v_var (i := 1) rfl (by first | exact .inl rfl | exact .inr (.inl rfl) | exact .inr (.inr rfl))) (a_cons (v_var (i := 2) rfl (by first | exact .inl rfl | exact .inr (.inl rfl) | exact .inr (.inr rfl))) a_nil)))))
      (b_cons (s_set (i := 5) sc_law.nd rfl (by first | exact .inl rfl | exact .inr rfl) (v_lst (a_cons v_int (a_cons v_int (a_cons v_int (a_cons v_int (a_cons v_int (a_cons v_int (a_cons v_int (a_cons v_int a_nil))))))))))
      (b_cons (s_set (i := 6) sc_law.nd rfl (by first | exact .inl rfl | exact .inr rfl) v_int)
      (b_cons (s_for PassesOwn.never rfl (i_rng1 rfl T.b_range (a_cons (v_ix (v_var (i := 5) rfl (by first | exact .inl rfl | exact .inr (.inl rfl) | exact .inr (.inr rfl))) (v_var (i := 2) rfl (by first | exact .inl rfl | exact .inr (.inl rfl) | exact .inr (.inr rfl))) (fun _ _ => rfl)) a_nil)) (g_name (i := 7) sc_law.nd rfl (by first | exact .inl rfl | exact .inr rfl)) (b_one (s_if (t_tru (v_callB T.ok__law_free (hr.mono (by decide)) rfl T.g__law_free T.F__law_free.kp T.bd__law_free passN (a_cons (v_var (i := 3) rfl (by first | exact .inl rfl | exact .inr (.inl rfl) | exact .inr (.inr rfl))) (a_cons (v_var (i := 4) rfl (by first | exact .inl rfl | exact .inr (.inl rfl) | exact .inr (.inr rfl))) (a_cons (v_comp (sc := defScope s_law) (own := [("_law_k", 8)]) rfl sc_law.nd (by rfl) (blkOk_by (N := N_law) (sc := defScope s_law) (own := [("_law_k", 8)]) (by decide +kernel)) (by decide) (i_rng1 rfl T.b_range (a_cons (v_var (i := 2) rfl (by first | exact .inl rfl | exact .inr (.inl rfl) | exact .inr (.inr rfl))) a_nil)) (fun _ _ _ _ _ => (g_name (i := 8) sc_law.nd rfl (by first | exact .inl rfl | exact .inr rfl))) (fun _ _ _ _ _ => ts_nil) (fun _ _ _ _ _ => (v_mod (v_callInt rfl T.b_int (a_cons (v_div (v_var (i := 7) rfl (by first | exact .inl rfl | exact .inr (.inl rfl) | exact .inr (.inr rfl))) (v_ix (v_var (i := 5) rfl (by first | exact .inl rfl | exact .inr (.inl rfl) | exact .inr (.inr rfl))) (v_var (i := 8) rfl (by first | exact .inl rfl | exact .inr (.inl rfl) | exact .inr (.inr rfl))) (fun _ _ => rfl))) a_nil)) v_int))) a_nil))))) (b_one (s_set (i := 6) sc_law.nd rfl (by first | exact .inl rfl | exact .inr rfl) (v_addI (v_var (i := 6) rfl (by first | exact .inl rfl | exact .inr (.inl rfl) | exact .inr (.inr rfl))) v_int))) b_nil)))
      (b_one (s_ret (v_and (v_callBG T.ok__law_same (hr.mono (by decide)) hgd rfl T.g__law_same T.F__law_same.kp T.bd__law_same (a_cons (v_callB T.ok_passing_plainly (hr.mono (by decide)) rfl T.g_passing_plainly T.F_passing_plainly.kp T.bd_passing_plainly passN (a_cons (v_var (i := 3) rfl (by first | exact .inl rfl | exact .inr (.inl rfl) | exact .inr (.inr rfl))) (a_cons (v_var (i := 4) rfl (by first | exact .inl rfl | exact .inr (.inl rfl) | exact .inr (.inr rfl))) a_nil))) (a_cons (v_var (i := 6) rfl (by first | exact .inl rfl | exact .inr (.inl rfl) | exact .inr (.inr rfl))) a_nil))) (v_one (v_callBG T.ok__law_same (hr.mono (by decide)) hgd rfl T.g__law_same T.F__law_same.kp T.bd__law_same (a_cons (v_callB T.ok_passing (hr.mono (by decide)) rfl T.g_passing T.F_passing.kp T.bd_passing passN (a_cons (v_var (i := 3) rfl (by first | exact .inl rfl | exact .inr (.inl rfl) | exact .inr (.inr rfl))) (a_cons (v_var (i := 4) rfl (by first | exact .inl rfl | exact .inr (.inl rfl) | exact .inr (.inr rfl))) a_nil))) (a_cons (v_var (i := 6) rfl (by first | exact .inl rfl | exact .inr (.inl rfl) | exact .inr (.inr rfl))) a_nil)))))))))))))))
end
abbrev PR : Program := PySem.W.OpenLaw.prog PySem.Challenge.rw_veilcount_k57_whole_audits_that_pass
theorem ob_eq (s : PySem.W.SharedT) : ob s = hk.obs s.abs := He.obsDG_eq (HandSHeadRun.getT_eq s)
theorem facts {K : PySem.W.Frag} {h : Heap} {mg : Str → Option Value} (X : K.In h) (G : h.Ns mainGlobals mg) (c : He.SaysD fa fn K) : Nonempty (Tx PR K mg) := by
  obtain ⟨fd_opened_claims, F_opened_claims⟩ := c.def_ 0 (d := D_opened_claims) rfl
  obtain ⟨fd_caught, F_caught⟩ := c.def_ 1 (d := D_caught) rfl
  obtain ⟨fd_coins_of_number, F_coins_of_number⟩ := c.def_ 2 (d := D_coins_of_number) rfl
  obtain ⟨fd_passing_plainly, F_passing_plainly⟩ := c.def_ 3 (d := D_passing_plainly) rfl
  obtain ⟨fd_links_of, F_links_of⟩ := c.def_ 4 (d := D_links_of) rfl
  obtain ⟨fd_joined_parts, F_joined_parts⟩ := c.def_ 5 (d := D_joined_parts) rfl
  obtain ⟨fd_parts_of, F_parts_of⟩ := c.def_ 6 (d := D_parts_of) rfl
  obtain ⟨fd_passing_in, F_passing_in⟩ := c.def_ 7 (d := D_passing_in) rfl
  obtain ⟨fd_passing, F_passing⟩ := c.def_ 8 (d := D_passing) rfl
  obtain ⟨fd__law_cell, F__law_cell⟩ := c.def_ 9 (d := D__law_cell) rfl
  obtain ⟨fd__law_row, F__law_row⟩ := c.def_ 10 (d := D__law_row) rfl
  obtain ⟨fd__law_box, F__law_box⟩ := c.def_ 11 (d := D__law_box) rfl
  obtain ⟨fd__law_draw, F__law_draw⟩ := c.def_ 12 (d := D__law_draw) rfl
  obtain ⟨fd__law_same, F__law_same⟩ := c.def_ 13 (d := D__law_same) rfl
  obtain ⟨fd__law_claim, F__law_claim⟩ := c.def_ 14 (d := D__law_claim) rfl
  obtain ⟨fd__law_free, F__law_free⟩ := c.def_ 15 (d := D__law_free) rfl
  obtain ⟨fd_law, F_law⟩ := c.def_ 16 (d := D_law) rfl
  exact ⟨{ b_enumerate := He.free_ok X G (c.fact 17 (f := .free "enumerate") rfl), b_int := He.free_ok X G (c.fact 18 (f := .free "int") rfl), b_len := He.free_ok X G (c.fact 19 (f := .free "len") rfl), b_range := He.free_ok X G (c.fact 20 (f := .free "range") rfl), b_repr := He.free_ok X G (c.fact 21 (f := .free "repr") rfl), b_set := He.free_ok X G (c.fact 22 (f := .free "set") rfl), a_opened_claims := _, fd_opened_claims := fd_opened_claims, F_opened_claims := F_opened_claims, g_opened_claims := He.glo_ok X G (c.fact 0 (f := .glo "opened_claims") rfl), a_caught := _, fd_caught := fd_caught, F_caught := F_caught, g_caught := He.glo_ok X G (c.fact 1 (f := .glo "caught") rfl), a_coins_of_number := _, fd_coins_of_number := fd_coins_of_number, F_coins_of_number := F_coins_of_number, g_coins_of_number := He.glo_ok X G (c.fact 2 (f := .glo "coins_of_number") rfl), a_passing_plainly := _, fd_passing_plainly := fd_passing_plainly, F_passing_plainly := F_passing_plainly, g_passing_plainly := He.glo_ok X G (c.fact 3 (f := .glo "passing_plainly") rfl), a_links_of := _, fd_links_of := fd_links_of, F_links_of := F_links_of, g_links_of := He.glo_ok X G (c.fact 4 (f := .glo "links_of") rfl), a_joined_parts := _, fd_joined_parts := fd_joined_parts, F_joined_parts := F_joined_parts, g_joined_parts := He.glo_ok X G (c.fact 5 (f := .glo "joined_parts") rfl), a_parts_of := _, fd_parts_of := fd_parts_of, F_parts_of := F_parts_of, g_parts_of := He.glo_ok X G (c.fact 6 (f := .glo "parts_of") rfl), a_passing_in := _, fd_passing_in := fd_passing_in, F_passing_in := F_passing_in, g_passing_in := He.glo_ok X G (c.fact 7 (f := .glo "passing_in") rfl), a_passing := _, fd_passing := fd_passing, F_passing := F_passing, g_passing := He.glo_ok X G (c.fact 8 (f := .glo "passing") rfl), a__law_cell := _, fd__law_cell := fd__law_cell, F__law_cell := F__law_cell, g__law_cell := He.glo_ok X G (c.fact 9 (f := .glo "_law_cell") rfl), a__law_row := _, fd__law_row := fd__law_row, F__law_row := F__law_row, g__law_row := He.glo_ok X G (c.fact 10 (f := .glo "_law_row") rfl), a__law_box := _, fd__law_box := fd__law_box, F__law_box := F__law_box, g__law_box := He.glo_ok X G (c.fact 11 (f := .glo "_law_box") rfl), a__law_draw := _, fd__law_draw := fd__law_draw, F__law_draw := F__law_draw, g__law_draw := He.glo_ok X G (c.fact 12 (f := .glo "_law_draw") rfl), a__law_same := _, fd__law_same := fd__law_same, F__law_same := F__law_same, g__law_same := He.glo_ok X G (c.fact 13 (f := .glo "_law_same") rfl), a__law_claim := _, fd__law_claim := fd__law_claim, F__law_claim := F__law_claim, g__law_claim := He.glo_ok X G (c.fact 14 (f := .glo "_law_claim") rfl), a__law_free := _, fd__law_free := fd__law_free, F__law_free := F__law_free, g__law_free := He.glo_ok X G (c.fact 15 (f := .glo "_law_free") rfl), a_law := _, fd_law := fd_law, F_law := F_law, g_law := He.glo_ok X G (c.fact 16 (f := .glo "law") rfl), gc_LEFT := He.int_ok X G (c.fact 23 (f := .int "LEFT" 0) rfl), gc_RIGHT := He.int_ok X G (c.fact 24 (f := .int "RIGHT" 1) rfl) }⟩
end V
open PySem PySem.W PySem.Calls PyProof.Rows
theorem PySem.Challenge.cw_veilcount_k57_whole_audits_that_pass_holds : PySem.Challenge.rw_veilcount_k57_whole_audits_that_pass.Holds := by
  w_on; o_law
  refine HandSHeadRun.head_any (r := OpenLaw.row PySem.Challenge.rw_veilcount_k57_whole_audits_that_pass) (q := view (OpenLaw.row PySem.Challenge.rw_veilcount_k57_whole_audits_that_pass).prog [20]) (H := V.hk) (ob := V.ob) (M := 4000) (loose := V.loose) (d := HandSHeadRun.topDef (OpenLaw.row PySem.Challenge.rw_veilcount_k57_whole_audits_that_pass).prog 20) (kwd := []) V.ob_eq
    (by kernel_rfl) (fun s => by kernel_rfl) V.run (by kernel_rfl) (by kernel_rfl) (by kernel_rfl) (by rfl) (by first | assumption | decide +kernel) (by decide +kernel) ⟨rfl, rfl, rfl, rfl, rfl, by decide +kernel⟩ ?hw ?hc
  case hw => w_witness2
  case hc =>
    refine VF.walk_G (l := PySem.Challenge.rw_veilcount_k57_whole_audits_that_pass) (n := 63) (k := 4) (x := "_law_script") rfl (by decide) (by kernel_rfl) ⟨rfl, by decide, by decide⟩ ?F
    intro w mg fa h Y G hmg0
    obtain ⟨K, KX, c⟩ := Y
    have hmg : mg ("law" : PySem.Str) = some (.ref fa) := by
      have e : (HandSHeadRun.topDef (OpenLaw.row PySem.Challenge.rw_veilcount_k57_whole_audits_that_pass).prog 20).name = ("law" : PySem.Str) := by kernel_rfl
      rw [← e]
      exact hmg0
    obtain ⟨T⟩ := V.facts KX G c
    have e := hmg.symm.trans T.g_law
    cases e
    have b := L2.FunD.bindsA (ps := ["_law_script"]) T.F_law fun _ _ _ _ _ _ us hl => match us, hl with | [_], _ => rfl
    exact ⟨K, T.fd_law, _, KX, fun s v => b s [v] rfl, fun H a ns hS => VF.law_sp (V.law_pure ns) hS, fun base _ _ => T.ok_law⟩
