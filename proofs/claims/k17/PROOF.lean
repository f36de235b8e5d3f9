import PyProof.Rows.All
import Wide.All
import OpenK.AllK
import Wide.FinOn
import HandS.ForMost
import HandS.IsInst
import HandS.Defaults
import HandS.ExcOwn
import HandS.Deep
import HandS.SortInts
import HandS.Conv
import HandS.Style
import HandS.ExcInit
import HandS.ExcField
import HandS.Nested
import HandS.FStr
import KE.KExcSuper
import HandS.ExcIs
import HandS.HeadHook4
import KE.KExcIs
import HandS.Zip
import HandS.HeadHook2
import KE.LtSeq
import HandS.CallSlots
import KE.KStateDown
import HandS.More
import HandS.WordsExc
import HandS.Head0
import HandS.Head1
import HandS.Head2
import HandS.HeadEnd
import HandS.HeadHook1
import PySem.Challenge.RW_veilcount_k17_seats
set_option Elab.async false
set_option linter.all false
set_option maxRecDepth 100000
set_option maxRecDepth 100000
set_option maxHeartbeats 4000000
/-! Value trees over the hand layer: data, trees that are owned, what a heap holds of them. -/
namespace VF
set_option autoImplicit false
open PySem PySem.Spec PyProof.Rows L2

/-- plain data, without the heap -/
inductive D where
  | non | bl (b : Bool) | int (i : Int) | str (s : Str) | ty (n : String)
  | lst (xs : List D) | tup (xs : List D) | dct (ks : List Key) (xs : List D) | obj (c : Str) (ns : List Str) (xs : List D)
  | scr (ns : List Int)
  deriving Inhabited
/-- what a place holds: data that nobody changes, or a list, an object, a dict of one's own -/
inductive SV where
  | fz (d : D) | ol (xs : List SV) | oo (c : Str) (ns : List Str) (xs : List SV) | od (ks : List Key) (xs : List SV)
  deriving Inhabited
/-- the same with its addresses -/
inductive AT where
  | fz (v : V) (d : D) | ol (p : Addr) (xs : List AT) | oo (p C dx : Addr) (c : Str) (ns : List Str) (xs : List AT) | od (p : Addr) (ks : List Key) (xs : List AT)

def AT.val : AT → V
  | .fz v _ => v
  | .ol p _ => .ref p
  | .oo p _ _ _ _ _ => .ref p
  | .od p _ _ => .ref p
mutual
def SV.toD : SV → D
  | .fz d => d
  | .ol xs => .lst (SV.toDs xs)
  | .oo c ns xs => .obj c ns (SV.toDs xs)
  | .od ks xs => .dct ks (SV.toDs xs)
def SV.toDs : List SV → List D
  | [] => []
  | x :: xs => SV.toD x :: SV.toDs xs
end
mutual
def AT.er : AT → SV
  | .fz _ d => .fz d
  | .ol _ xs => .ol (AT.ers xs)
  | .oo _ _ _ c ns xs => .oo c ns (AT.ers xs)
  | .od _ ks xs => .od ks (AT.ers xs)
def AT.ers : List AT → List SV
  | [] => []
  | x :: xs => AT.er x :: AT.ers xs
end
def vals (xs : List AT) : List V := xs.map AT.val
mutual
def AT.cells : AT → List (Addr × HO)
  | .fz _ _ => []
  | .ol p xs => (p, .lst (vals xs)) :: AT.cellsL xs
  | .oo p C dx _ ns xs => (p, .ins C dx (ns.zip (vals xs))) :: AT.cellsL xs
  | .od p ks xs => (p, .dK (ks.zip (vals xs))) :: AT.cellsL xs
def AT.cellsL : List AT → List (Addr × HO)
  | [] => []
  | x :: xs => AT.cells x ++ AT.cellsL xs
end
open AT (cells cellsL er ers)

section
variable (K : PySem.W.Frag) (mg : Str → Option Value)
mutual
/-- the value v stands for the data d in the heap F -/
def Rep (F : Hp) : V → D → Prop
  | v, .non => v = .non
  | v, .bl b => v = .bl b
  | v, .int i => v = .int i
  | v, .str s => v = .str s
  | v, .ty n => v = .ty n
  | v, .lst ds => ∃ p vs, v = .ref p ∧ F p = some (.lst vs) ∧ Reps F vs ds
  | v, .tup ds => ∃ p vs, v = .ref p ∧ SqT K F p vs ∧ Reps F vs ds
  | v, .dct ks ds => ∃ p vs, v = .ref p ∧ F p = some (.dK (ks.zip vs)) ∧ ks.length = vs.length ∧ Reps F vs ds
  | v, .obj c ns ds => ∃ p C dx vs, v = .ref p ∧ mg c = some (.ref C) ∧ F p = some (.ins C dx (ns.zip vs)) ∧ ns.length = vs.length ∧ Reps F vs ds
  | v, .scr ns => ∃ p, v = .ref p ∧ SqL K F p (ns.map V.int)
def Reps (F : Hp) : List V → List D → Prop
  | [], [] => True
  | v :: vs, d :: ds => Rep F v d ∧ Reps F vs ds
  | _, _ => False
end
mutual
def Ok (F : Hp) : AT → Prop
  | .fz v d => Rep K mg F v d
  | .ol _ xs => Oks F xs
  | .oo _ C _ c ns xs => mg c = some (.ref C) ∧ ns.length = xs.length ∧ Oks F xs
  | .od _ ks xs => ks.length = xs.length ∧ Oks F xs
def Oks (F : Hp) : List AT → Prop
  | [] => True
  | x :: xs => Ok F x ∧ Oks F xs
end
structure Good (F H : Hp) (ts : List AT) : Prop where
  at_ : ∀ c ∈ cellsL ts, H c.1 = some c.2 ∧ F c.1 = none
  ok : Oks K mg F ts
  nd : ((cellsL ts).map (·.1)).Nodup
end

theorem SqT_same {K : PySem.W.Frag} {H H' : Hp} {a : Addr} {xs : List V} (e : Same H H') (h : SqT K H a xs) : SqT K H' a xs := by
  rcases h with h | h
  · rcases h with h | ⟨o, h⟩
    · exact .inl (.inl (e _ _ h))
    · exact .inl (.inr ⟨o, e _ _ h⟩)
  · exact .inr h
section
variable {K : PySem.W.Frag} {mg : Str → Option Value} {F F' H H' : Hp}
mutual
theorem Rep.same (s : Same F F') : ∀ {d : D} {v : V}, Rep K mg F v d → Rep K mg F' v d
  | .non, _, h => h
  | .bl _, _, h => h
  | .int _, _, h => h
  | .str _, _, h => h
  | .ty _, _, h => h
  | .lst ds, _, ⟨p, vs, e, h1, h2⟩ => ⟨p, vs, e, s _ _ h1, Reps.same s h2⟩
  | .tup ds, _, ⟨p, vs, e, h1, h2⟩ => ⟨p, vs, e, SqT_same s h1, Reps.same s h2⟩
  | .dct ks ds, _, ⟨p, vs, e, h1, h3, h2⟩ => ⟨p, vs, e, s _ _ h1, h3, Reps.same s h2⟩
  | .obj c ns ds, _, ⟨p, C, dx, vs, e, h0, h1, h3, h2⟩ => ⟨p, C, dx, vs, e, h0, s _ _ h1, h3, Reps.same s h2⟩
  | .scr ns, _, ⟨p, e, h1⟩ => ⟨p, e, s.seq h1⟩
theorem Reps.same (s : Same F F') : ∀ {ds : List D} {vs : List V}, Reps K mg F vs ds → Reps K mg F' vs ds
  | [], [], _ => trivial
  | _ :: _, _ :: _, ⟨h1, h2⟩ => ⟨Rep.same s h1, Reps.same s h2⟩
  | [], _ :: _, h => h.elim
  | _ :: _, [], h => h.elim
end
theorem Reps.length : ∀ {ds : List D} {vs : List V}, Reps K mg F vs ds → vs.length = ds.length
  | [], [], _ => rfl
  | _ :: _, _ :: _, ⟨_, h2⟩ => congrArg Nat.succ (Reps.length h2)
  | [], _ :: _, h => h.elim
  | _ :: _, [], h => h.elim
theorem Reps.get : ∀ {ds : List D} {vs : List V} {i : Nat} {d : D}, Reps K mg F vs ds → ds[i]? = some d → ∃ v, vs[i]? = some v ∧ Rep K mg F v d
  | d :: _, v :: _, 0, _, ⟨h1, _⟩, e => ⟨v, rfl, by cases e; exact h1⟩
  | _ :: ds, _ :: vs, i + 1, _, ⟨_, h2⟩, e => by
    obtain ⟨v, e1, e2⟩ := Reps.get (i := i) h2 (by simpa using e)
    exact ⟨v, by simpa using e1, e2⟩
  | [], _ :: _, _, _, h, _ => h.elim
  | _ :: _, [], _, _, h, _ => h.elim
  | [], [], _, _, _, e => by simp at e
theorem Reps.getV : ∀ {ds : List D} {vs : List V} {i : Nat} {v : V}, Reps K mg F vs ds → vs[i]? = some v → ∃ d, ds[i]? = some d ∧ Rep K mg F v d
  | d :: _, v :: _, 0, _, ⟨h1, _⟩, e => ⟨d, rfl, by cases e; exact h1⟩
  | _ :: ds, _ :: vs, i + 1, _, ⟨_, h2⟩, e => by
    obtain ⟨v, e1, e2⟩ := Reps.getV (i := i) h2 (by simpa using e)
    exact ⟨v, by simpa using e1, e2⟩
  | [], _ :: _, _, _, h, _ => h.elim
  | _ :: _, [], _, _, h, _ => h.elim
  | [], [], _, _, _, e => by simp at e
theorem Reps.append : ∀ {ds es : List D} {vs us : List V}, Reps K mg F vs ds → Reps K mg F us es → Reps K mg F (vs ++ us) (ds ++ es)
  | [], _, [], _, _, h => h
  | _ :: _, _, _ :: _, _, ⟨h1, h2⟩, h => ⟨h1, Reps.append h2 h⟩
  | [], _, _ :: _, _, h, _ => h.elim
  | _ :: _, _, [], _, h, _ => h.elim
theorem Reps.take (n : Nat) : ∀ {ds : List D} {vs : List V}, Reps K mg F vs ds → Reps K mg F (vs.take n) (ds.take n) := by
  induction n with
  | zero => intro ds vs _; simp only [List.take_zero]; trivial
  | succ n ih =>
    intro ds vs h
    cases ds with
    | nil => cases vs with
      | nil => trivial
      | cons _ _ => exact h.elim
    | cons d ds => cases vs with
      | nil => exact h.elim
      | cons v vs => exact ⟨h.1, ih h.2⟩
theorem Reps.drop (n : Nat) : ∀ {ds : List D} {vs : List V}, Reps K mg F vs ds → Reps K mg F (vs.drop n) (ds.drop n) := by
  induction n with
  | zero => intro ds vs h; simpa only [List.drop_zero] using h
  | succ n ih =>
    intro ds vs h
    cases ds with
    | nil => cases vs with
      | nil => trivial
      | cons _ _ => exact h.elim
    | cons d ds => cases vs with
      | nil => exact h.elim
      | cons v vs => exact ih h.2
theorem Reps.set {v : V} {d : D} (h0 : Rep K mg F v d) : ∀ {ds : List D} {vs : List V} (n : Nat), Reps K mg F vs ds → Reps K mg F (vs.set n v) (ds.set n d)
  | [], [], _, _ => trivial
  | _ :: _, _ :: _, 0, ⟨_, h2⟩ => ⟨h0, h2⟩
  | _ :: _, _ :: _, n + 1, ⟨h1, h2⟩ => ⟨h1, Reps.set h0 n h2⟩
  | [], _ :: _, _, h => h.elim
  | _ :: _, [], _, h => h.elim
theorem Reps.erase : ∀ {ds : List D} {vs : List V} (n : Nat), Reps K mg F vs ds → Reps K mg F (vs.eraseIdx n) (ds.eraseIdx n)
  | [], [], _, _ => trivial
  | _ :: _, _ :: _, 0, ⟨_, h2⟩ => h2
  | _ :: _, _ :: _, n + 1, ⟨h1, h2⟩ => ⟨h1, Reps.erase n h2⟩
  | [], _ :: _, _, h => h.elim
  | _ :: _, [], _, h => h.elim
theorem Reps.ints : ∀ {ns : List Int} {vs : List V}, Reps K mg F vs (ns.map D.int) → vs = ns.map V.int
  | [], [], _ => rfl
  | n :: ns, v :: vs, ⟨h1, h2⟩ => by
    have e : v = V.int n := h1
    rw [e, Reps.ints h2]
    rfl
  | [], _ :: _, h => h.elim
  | _ :: _, [], h => h.elim

mutual
theorem Ok.same (s : Same F F') : ∀ {t : AT}, Ok K mg F t → Ok K mg F' t
  | .fz _ _, h => Rep.same s h
  | .ol _ xs, h => Oks.same s h
  | .oo _ _ _ _ _ xs, ⟨h1, h2, h3⟩ => ⟨h1, h2, Oks.same s h3⟩
  | .od _ _ xs, ⟨h2, h3⟩ => ⟨h2, Oks.same s h3⟩
theorem Oks.same (s : Same F F') : ∀ {ts : List AT}, Oks K mg F ts → Oks K mg F' ts
  | [], _ => trivial
  | _ :: _, ⟨h1, h2⟩ => ⟨Ok.same s h1, Oks.same s h2⟩
end
theorem Oks.append : ∀ {ts us : List AT}, Oks K mg F (ts ++ us) ↔ Oks K mg F ts ∧ Oks K mg F us
  | [], us => ⟨fun h => ⟨trivial, h⟩, fun h => h.2⟩
  | t :: ts, us => by
    show (Ok K mg F t ∧ Oks K mg F (ts ++ us)) ↔ (Ok K mg F t ∧ Oks K mg F ts) ∧ Oks K mg F us
    rw [Oks.append (ts := ts)]
    exact ⟨fun ⟨a, b, c⟩ => ⟨⟨a, b⟩, c⟩, fun ⟨⟨a, b⟩, c⟩ => ⟨a, b, c⟩⟩
theorem Oks.mem : ∀ {ts : List AT}, Oks K mg F ts ↔ ∀ t ∈ ts, Ok K mg F t
  | [] => ⟨fun _ _ h => absurd h List.not_mem_nil, fun _ => trivial⟩
  | t :: ts => by
    show (Ok K mg F t ∧ Oks K mg F ts) ↔ _
    rw [Oks.mem (ts := ts), List.forall_mem_cons]
theorem cellsL_append : ∀ (ts us : List AT), cellsL (ts ++ us) = cellsL ts ++ cellsL us
  | [], _ => rfl
  | t :: ts, us => by
    show cells t ++ cellsL (ts ++ us) = (cells t ++ cellsL ts) ++ cellsL us
    rw [cellsL_append ts us, List.append_assoc]
theorem cellsL_eq : ∀ (ts : List AT), cellsL ts = ts.flatMap cells
  | [] => rfl
  | t :: ts => by
    show cells t ++ cellsL ts = _
    rw [cellsL_eq ts, List.flatMap_cons]
theorem ers_eq : ∀ (ts : List AT), ers ts = ts.map er
  | [] => rfl
  | t :: ts => congrArg (er t :: ·) (ers_eq ts)
theorem toDs_eq : ∀ (ts : List SV), SV.toDs ts = ts.map SV.toD
  | [] => rfl
  | t :: ts => congrArg (SV.toD t :: ·) (toDs_eq ts)

/-- a tree of the heap stands for its data -/
theorem ers_length (ts : List AT) : (ers ts).length = ts.length := by rw [ers_eq, List.length_map]
mutual
theorem rep_of : ∀ (t : AT), (∀ c ∈ cells t, H c.1 = some c.2) → Same F H → Ok K mg F t → Rep K mg H t.val (SV.toD (er t))
  | .fz v d, _, s, h => Rep.same s h
  | .ol p xs, hc, s, h => ⟨p, vals xs, rfl, hc _ List.mem_cons_self, reps_of xs (fun c hm => hc c (List.mem_cons_of_mem _ hm)) s h⟩
  | .oo p C dx c ns xs, hc, s, ⟨h1, h2, h3⟩ => ⟨p, C, dx, vals xs, rfl, h1, hc _ List.mem_cons_self, by rw [h2]; exact (List.length_map _).symm, reps_of xs (fun c hm => hc c (List.mem_cons_of_mem _ hm)) s h3⟩
  | .od p ks xs, hc, s, ⟨h2, h3⟩ => ⟨p, vals xs, rfl, hc _ List.mem_cons_self, by rw [h2]; exact (List.length_map _).symm, reps_of xs (fun c hm => hc c (List.mem_cons_of_mem _ hm)) s h3⟩
theorem reps_of : ∀ (ts : List AT), (∀ c ∈ cellsL ts, H c.1 = some c.2) → Same F H → Oks K mg F ts → Reps K mg H (vals ts) (SV.toDs (ers ts))
  | [], _, _, _ => trivial
  | t :: ts, hc, s, ⟨h1, h2⟩ => ⟨rep_of t (fun c hm => hc c (List.mem_append_left _ hm)) s h1, reps_of ts (fun c hm => hc c (List.mem_append_right _ hm)) s h2⟩
end
theorem Good.rep {ts : List AT} {t : AT} (g : Good K mg F H ts) (s : Same F H) (h : t ∈ ts) : Rep K mg H t.val (SV.toD (er t)) := by
  refine rep_of t (fun c hc => (g.at_ c ?_).1) s (Oks.mem.mp g.ok t h)
  rw [cellsL_eq]
  exact List.mem_flatMap.mpr ⟨t, h, hc⟩
theorem cellsL_perm {ts us : List AT} (p : ts.Perm us) : (cellsL ts).Perm (cellsL us) := by
  rw [cellsL_eq, cellsL_eq]
  exact p.flatMap_right _
theorem Good.perm {ts us : List AT} (g : Good K mg F H ts) (p : ts.Perm us) : Good K mg F H us where
  at_ := fun c hc => g.at_ c ((cellsL_perm p).mem_iff.mpr hc)
  ok := Oks.mem.mpr fun t ht => Oks.mem.mp g.ok t (p.mem_iff.mpr ht)
  nd := (((cellsL_perm p).map _).nodup_iff).mp g.nd
theorem Good.sub {ts us : List AT} (g : Good K mg F H (ts ++ us)) : Good K mg F H us where
  at_ := fun c hc => g.at_ c (by rw [cellsL_append]; exact List.mem_append_right _ hc)
  ok := (Oks.append.mp g.ok).2
  nd := by
    have := g.nd
    rw [cellsL_append, List.map_append] at this
    exact (List.nodup_append.mp this).2.1
theorem Good.left {ts us : List AT} (g : Good K mg F H (ts ++ us)) : Good K mg F H ts := (g.perm List.perm_append_comm).sub
theorem Good.fz {ts : List AT} {v : V} {d : D} (g : Good K mg F H ts) (r : Rep K mg F v d) : Good K mg F H (.fz v d :: ts) :=
  ⟨g.at_, ⟨r, g.ok⟩, g.nd⟩
theorem Good.unfz {ts : List AT} {v : V} {d : D} (g : Good K mg F H (.fz v d :: ts)) : Good K mg F H ts ∧ Rep K mg F v d :=
  ⟨⟨g.at_, g.ok.2, g.nd⟩, g.ok.1⟩
theorem Good.tail {ts : List AT} {t : AT} (g : Good K mg F H (t :: ts)) : Good K mg F H ts := Good.sub (ts := [t]) g

/-- freezing: the cells of a tree are told to be data -/
def frz (cs : List (Addr × HO)) (F : Hp) : Hp := fun a => match cs.lookup a with
  | some o => some o
  | none => F a
theorem lookup_of_mem {α β : Type} [BEq α] [LawfulBEq α] : ∀ {l : List (α × β)} {a : α} {b : β}, (l.map (·.1)).Nodup → (a, b) ∈ l → l.lookup a = some b
  | (c, d) :: l, a, b, nd, h => by
    rw [List.map_cons, List.nodup_cons] at nd
    rw [List.lookup_cons]
    rcases List.mem_cons.mp h with e | h
    · cases e
      simp
    · have ne : a ≠ c := fun e => nd.1 (e ▸ List.mem_map_of_mem (f := (·.1)) h)
      have : (a == c) = false := by simpa using ne
      rw [this]
      exact lookup_of_mem nd.2 h
theorem mem_of_look {α β : Type} [BEq α] [LawfulBEq α] : ∀ {l : List (α × β)} {a : α} {b : β}, l.lookup a = some b → (a, b) ∈ l
  | (c, d) :: l, a, b, h => by
    rw [List.lookup_cons] at h
    cases e : (a == c) with
    | true =>
      rw [e] at h
      have e2 : a = c := by simpa using e
      subst e2
      cases h
      exact List.mem_cons_self
    | false =>
      rw [e] at h
      exact List.mem_cons_of_mem _ (mem_of_look h)
theorem frz_same {cs : List (Addr × HO)} (h : ∀ c ∈ cs, F c.1 = none) : Same F (frz cs F) := fun a o e => by
  unfold frz
  cases q : cs.lookup a with
  | none => exact e
  | some u =>
    have := h _ (mem_of_look q)
    rw [e] at this
    cases this
theorem frz_le {cs : List (Addr × HO)} (s : Same F H) (h : ∀ c ∈ cs, H c.1 = some c.2) : Same (frz cs F) H := fun a o e => by
  unfold frz at e
  cases q : cs.lookup a with
  | none => rw [q] at e; exact s a o e
  | some u =>
    rw [q] at e
    cases e
    exact h _ (mem_of_look q)
theorem frz_out {cs : List (Addr × HO)} {a : Addr} (h : a ∉ cs.map (·.1)) : frz cs F a = F a := by
  unfold frz
  cases q : cs.lookup a with
  | none => rfl
  | some u => exact absurd (List.mem_map_of_mem (f := (·.1)) (mem_of_look q)) h
theorem Good.freeze {ts : List AT} {t : AT} (g : Good K mg F H (t :: ts)) (s : Same F H) :
    Same F (frz (cells t) F) ∧ Same (frz (cells t) F) H ∧ Good K mg (frz (cells t) F) H (.fz t.val (SV.toD (er t)) :: ts) := by
  have hc : ∀ c ∈ cells t, H c.1 = some c.2 ∧ F c.1 = none := fun c h => g.at_ c (List.mem_append_left _ h)
  have nd := g.nd
  have nd2 : ((cells t ++ cellsL ts).map (·.1)).Nodup := nd
  rw [List.map_append, List.nodup_append] at nd2
  have s1 : Same F (frz (cells t) F) := frz_same fun c h => (hc c h).2
  refine ⟨s1, frz_le s fun c h => (hc c h).1, ⟨fun c h => ?_, ⟨?_, Oks.same s1 g.ok.2⟩, nd2.2.1⟩⟩
  · have h' := g.at_ c (List.mem_append_right _ h)
    refine ⟨h'.1, ?_⟩
    rw [frz_out fun q => nd2.2.2 _ q _ (List.mem_map_of_mem (f := (·.1)) h) rfl]
    exact h'.2
  · refine rep_of t (fun c h => ?_) s1 g.ok.1
    unfold frz
    rw [lookup_of_mem (l := cells t) nd2.1 (show (c.1, c.2) ∈ cells t from h)]
end
end VF

set_option maxRecDepth 100000
set_option maxHeartbeats 4000000
/-! States of a def's run by value trees; what a reading (TE, TT, TA, TS) asks, told by a function on such states. -/
namespace VF
set_option autoImplicit false
open PySem PySem.Spec PyProof.Rows L2
open AT (cells cellsL er ers)

def imm : D → Option V
  | .non => some .non
  | .bl b => some (.bl b)
  | .int i => some (.int i)
  | .str s => some (.str s)
  | .ty n => some (.ty n)
  | _ => none
/-- what is wished of an exception, by the slots -/
abbrev XS := Value → Option Addr → L2.St → Hp → Prop
def E0 : XS := fun _ _ _ _ => False
structure Exc where
  c : Str
  ns : List Str
  ds : List D
structure Env where
  sl : List (Option SV)
  pn : List Nat
inductive R (α : Type) where
  | st | ok (a : α) (e : Env) | ex (x : Exc) (e : Env)
abbrev M (α : Type) := Env → R α
/-- an expression's value: data, a new tree, the value of the name in a slot -/
inductive RV where
  | fz (d : D) | own (s : SV) | var (i : Nat)
inductive Fl where
  | nx | rt (r : RV) | bk | ct
def R.bind {α β : Type} (r : R α) (f : α → M β) : R β := match r with
  | .st => .st
  | .ok a e => f a e
  | .ex x e => .ex x e
def M.bind {α β : Type} (m : M α) (f : α → M β) : M β := fun e => (m e).bind f
def M.ret {α : Type} (a : α) : M α := fun e => .ok a e
def M.st {α : Type} : M α := fun _ => .st

def opts (as : List (Option AT)) : List AT := as.filterMap id
theorem mem_opts {as : List (Option AT)} {i : Nat} {t : AT} (h : as[i]? = some (some t)) : t ∈ opts as :=
  List.mem_filterMap.mpr ⟨some t, List.mem_of_getElem? h, rfl⟩
theorem opts_take : ∀ {as : List (Option AT)} {i : Nat} {t : AT}, as[i]? = some (some t) → (opts as).Perm (t :: opts (as.set i none))
  | a :: as, 0, t, h => by
    have e : a = some t := by simpa using h
    subst e
    exact List.Perm.refl _
  | a :: as, i + 1, t, h => by
    have ih := opts_take (as := as) (i := i) (t := t) (by simpa using h)
    cases a with
    | none => exact ih
    | some u => exact (ih.cons u).trans (List.Perm.swap _ _ _)
theorem opts_put : ∀ {as : List (Option AT)} {i : Nat} (t : AT), as[i]? = some none → (t :: opts as).Perm (opts (as.set i (some t)))
  | a :: as, 0, t, h => by
    have e : a = none := by simpa using h
    subst e
    exact List.Perm.refl _
  | a :: as, i + 1, t, h => by
    have ih := opts_put (as := as) (i := i) t (by simpa using h)
    cases a with
    | none => exact ih
    | some u => exact (List.Perm.swap _ _ _).trans (ih.cons u)
theorem opts_set {as : List (Option AT)} {i : Nat} (t : AT) : ∃ L, (t :: opts as).Perm (L ++ opts (as.set i (some t))) := by
  cases e : as[i]? with
  | none =>
    have : as.length ≤ i := List.getElem?_eq_none_iff.mp e
    exact ⟨[t], by rw [List.set_eq_of_length_le this]; exact List.Perm.refl _⟩
  | some o =>
    cases o with
    | none => exact ⟨[], opts_put t e⟩
    | some u =>
      refine ⟨[u], ?_⟩
      have h1 := opts_take e
      have hlt : i < as.length := (List.getElem?_eq_some_iff.mp e).1
      have h2 := opts_put (as := as.set i none) (i := i) t (by simp [hlt])
      rw [List.set_set] at h2
      exact ((h1.cons t).trans (List.Perm.swap _ _ _)).trans (h2.cons u)

section
variable (K : PySem.W.Frag) (mg : Str → Option Value)
structure SR (pv : List (Nat × V)) (σ : L2.St) (e : Env) (as : List (Option AT)) : Prop where
  sl : e.sl = as.map (Option.map er)
  len : σ.length = as.length
  at_ : ∀ (i : Nat) (t : AT), as[i]? = some (some t) → σ[i]? = some (some t.val)
  pin : ∀ p ∈ pv, p.1 ∈ e.pn ∧ σ[p.1]? = some (some p.2)
/-- a state: its trees (as: by slot; held: others) are of the heap -/
structure Cf (pv : List (Nat × V)) (F H : Hp) (σ : L2.St) (e : Env) (as : List (Option AT)) (held : List AT) : Prop where
  s : Same F H
  r : SR pv σ e as
  g : Good K mg F H (opts as ++ held)
def RR (σ : L2.St) (v : V) : RV → List AT → Prop
  | .fz d, tr => tr = [.fz v d]
  | .own s, tr => ∃ t, tr = [t] ∧ t.val = v ∧ er t = s
  | .var i, tr => tr = [] ∧ σ[i]? = some (some v)
def RRs (σ : L2.St) : List V → List RV → List AT → Prop
  | [], [], tr => tr = []
  | v :: vs, r :: rs, tr => ∃ t1 t2, tr = t2 ++ t1 ∧ RR σ v r t1 ∧ RRs σ vs rs t2
  | _, _, _ => False
/-- an exception: its class, its fields (immediate values) -/
def RX (H : Hp) (x : Exc) (cls : Value) (d : Option Addr) : Prop :=
  ∃ C, mg x.c = some (.ref C) ∧ cls = .ref C ∧ ((x.ns = [] ∧ d = none) ∨ (x.ns ≠ [] ∧ ∃ dd vs, d = some dd ∧ H dd = some (.xd (x.ns.zip vs)) ∧ x.ns.length = vs.length ∧ x.ds.mapM imm = some vs))
def WX (pv : List (Nat × V)) (F : Hp) (held : List AT) (E : XS) (x : Exc) (e' : Env) : Prop :=
  ∀ cls d F' H' σ' as', Same F F' → Cf K mg pv F' H' σ' e' as' held → RX mg H' x cls d → (∀ dd, d = some dd → F dd = none) → E cls d σ' H'
def WE (pv : List (Nat × V)) (F : Hp) (held : List AT) (σ : L2.St) (Q : VK) (E : XS) : R RV → Prop
  | .st => False
  | .ok r e' => ∀ v F' H' as' tr, Same F F' → Cf K mg pv F' H' σ e' as' (tr ++ held) → RR σ v r tr → Q v H'
  | .ex x e' => WX K mg pv F held E x e'
def WT (pv : List (Nat × V)) (F : Hp) (held : List AT) (σ : L2.St) (Q : Bool → Hp → Prop) (E : XS) : R Bool → Prop
  | .st => False
  | .ok b e' => ∀ F' H' as', Same F F' → Cf K mg pv F' H' σ e' as' held → Q b H'
  | .ex x e' => WX K mg pv F held E x e'
def WA (pv : List (Nat × V)) (F : Hp) (held : List AT) (σ : L2.St) (Q : List V → Hp → Prop) (E : XS) : R (List RV) → Prop
  | .st => False
  | .ok rs e' => ∀ vs F' H' as' tr, Same F F' → Cf K mg pv F' H' σ e' as' (tr ++ held) → RRs σ vs rs tr → Q vs H'
  | .ex x e' => WX K mg pv F held E x e'
def WS (pv : List (Nat × V)) (F : Hp) (held : List AT) (E : XS) (D : Ends) : R Fl → Prop
  | .st => False
  | .ok .nx e' => ∀ σ' F' H' as', Same F F' → Cf K mg pv F' H' σ' e' as' held → D.nx σ' H'
  | .ok .bk e' => ∀ σ' F' H' as', Same F F' → Cf K mg pv F' H' σ' e' as' held → D.bk σ' H'
  | .ok .ct e' => ∀ σ' F' H' as', Same F F' → Cf K mg pv F' H' σ' e' as' held → D.ct σ' H'
  | .ok (.rt r) e' => ∀ v σ' F' H' as' tr, Same F F' → Cf K mg pv F' H' σ' e' as' (tr ++ held) → RR σ' v r tr → D.rt v H'
  | .ex x e' => WX K mg pv F held E x e'
def SE (E : XS) (t : TE) (m : M RV) : Prop := ∀ pv F H σ e as held Q, Cf K mg pv F H σ e as held → WE K mg pv F held σ Q E (m e) → t σ H Q
def ST (E : XS) (t : TT) (m : M Bool) : Prop := ∀ pv F H σ e as held Q, Cf K mg pv F H σ e as held → WT K mg pv F held σ Q E (m e) → t σ H Q
def SA (E : XS) (t : TA) (m : M (List RV)) : Prop := ∀ pv F H σ e as held Q, Cf K mg pv F H σ e as held → WA K mg pv F held σ Q E (m e) → t σ H Q
def SS (E : XS) (t : TS) (m : M Fl) : Prop := ∀ pv F H σ e as held D, Cf K mg pv F H σ e as held → WS K mg pv F held E D (m e) → t D σ H
end
section
variable {K : PySem.W.Frag} {mg : Str → Option Value} {pv : List (Nat × V)} {F F' H H' : Hp} {σ : L2.St} {e e' : Env} {as as' : List (Option AT)} {held tr ts : List AT} {E : XS}

theorem none_le {dd : Addr} (s : Same F F') (h : F' dd = none) : F dd = none := by
  cases q : F dd with
  | none => rfl
  | some o => rw [s _ _ q] at h; cases h
theorem WX.mono {x : Exc} (s : Same F F') (h : WX K mg pv F held E x e) : WX K mg pv F' held E x e := fun cls d F2 H2 σ2 as2 s2 c r n => h cls d F2 H2 σ2 as2 (s.trans s2) c r fun dd q => none_le s (n dd q)
/-- an exception behind which further trees are held: they are dropped -/
theorem Cf.drop (c : Cf K mg pv F H σ e as (tr ++ held)) : Cf K mg pv F H σ e as held :=
  ⟨c.s, c.r, (c.g.perm (us := tr ++ (opts as ++ held)) (by rw [← List.append_assoc, ← List.append_assoc]; exact List.perm_append_comm.append_right held)).sub⟩
theorem Cf.fz {v : V} {d : D} (c : Cf K mg pv F H σ e as held) (r : Rep K mg F v d) : Cf K mg pv F H σ e as ([.fz v d] ++ held) :=
  ⟨c.s, c.r, (c.g.fz r).perm (by exact (List.perm_middle (l₁ := opts as) (l₂ := held) (a := AT.fz v d)).symm)⟩
theorem WX.drop {x : Exc} (h : WX K mg pv F held E x e) : WX K mg pv F (tr ++ held) E x e := fun cls d F2 H2 σ2 as2 s2 c r n => h cls d F2 H2 σ2 as2 s2 c.drop r n
theorem SR.slot {i : Nat} {t : AT} (r : SR pv σ e as) (h : as[i]? = some (some t)) : e.sl[i]? = some (some (er t)) := by
  rw [r.sl, List.getElem?_map, h]; rfl
theorem SR.slotOf {i : Nat} {s : SV} (r : SR pv σ e as) (h : e.sl[i]? = some (some s)) : ∃ t, as[i]? = some (some t) ∧ er t = s := by
  rw [r.sl, List.getElem?_map] at h
  cases q : as[i]? with
  | none => rw [q] at h; cases h
  | some o =>
    rw [q] at h
    cases o with
    | none => cases h
    | some t =>
      have h2 : some (some (er t)) = some (some s) := h
      exact ⟨t, rfl, by simpa using h2⟩
/-- what is seen of a value -/
def view (e : Env) : RV → Option D
  | .fz d => some d
  | .own s => some s.toD
  | .var i => match e.sl[i]? with
    | some (some s) => some s.toD
    | _ => none
theorem Cf.seen {v : V} {r : RV} {d : D} (c : Cf K mg pv F H σ e as held) (h : RR σ v r tr) (hm : ∀ t ∈ tr, t ∈ held) (q : view e r = some d) : Rep K mg H v d := by
  cases r with
  | fz x =>
    have e1 : tr = [.fz v x] := h
    have e2 : x = d := Option.some.inj q
    subst e1 e2
    exact c.g.rep c.s (List.mem_append_right _ (hm _ List.mem_cons_self))
  | own s =>
    obtain ⟨t, e1, e2, e3⟩ := h
    have e4 : s.toD = d := Option.some.inj q
    subst e1 e2 e3 e4
    exact c.g.rep c.s (List.mem_append_right _ (hm _ List.mem_cons_self))
  | var i =>
    obtain ⟨_, hv⟩ := h
    have q' : (match e.sl[i]? with | some (some s) => some s.toD | _ => none) = some d := q
    cases z : e.sl[i]? with
    | none => rw [z] at q'; cases q'
    | some o =>
      cases o with
      | none => rw [z] at q'; cases q'
      | some s =>
        rw [z] at q'
        have e4 : s.toD = d := Option.some.inj q'
        obtain ⟨t, ht, e5⟩ := c.r.slotOf z
        have hv2 := c.r.at_ i t ht
        rw [hv] at hv2
        have e6 : v = t.val := by simpa using hv2
        subst e4 e5 e6
        exact c.g.rep c.s (List.mem_append_left _ (mem_opts ht))

/-! ### composing -/
theorem WE.bindE {α : Type} {f : RV → M α} {m : M RV} {W : R α → Prop} (hs : ¬ W .st) (h : W ((m e).bind f)) {P : V → Hp → Prop}
    (hx : ∀ x e', W (.ex x e') → WX K mg pv F held E x e')
    (k : ∀ r e' v F' H' as' tr, Same F F' → Cf K mg pv F' H' σ e' as' (tr ++ held) → RR σ v r tr → W (f r e') → P v H') : WE K mg pv F held σ P E (m e) := by
  cases q : m e with
  | st => rw [q] at h; exact absurd h hs
  | ok r e' => rw [q] at h; exact fun v F' H' as' tr s c rr => k r e' v F' H' as' tr s c rr h
  | ex x e' => rw [q] at h; exact hx x e' h
theorem WT.bindT {α : Type} {f : Bool → M α} {m : M Bool} {W : R α → Prop} (hs : ¬ W .st) (h : W ((m e).bind f)) {P : Bool → Hp → Prop}
    (hx : ∀ x e', W (.ex x e') → WX K mg pv F held E x e')
    (k : ∀ b e' F' H' as', Same F F' → Cf K mg pv F' H' σ e' as' held → W (f b e') → P b H') : WT K mg pv F held σ P E (m e) := by
  cases q : m e with
  | st => rw [q] at h; exact absurd h hs
  | ok r e' => rw [q] at h; exact fun F' H' as' s c => k r e' F' H' as' s c h
  | ex x e' => rw [q] at h; exact hx x e' h
theorem WA.bindA {α : Type} {f : List RV → M α} {m : M (List RV)} {W : R α → Prop} (hs : ¬ W .st) (h : W ((m e).bind f)) {P : List V → Hp → Prop}
    (hx : ∀ x e', W (.ex x e') → WX K mg pv F held E x e')
    (k : ∀ rs e' vs F' H' as' tr, Same F F' → Cf K mg pv F' H' σ e' as' (tr ++ held) → RRs σ vs rs tr → W (f rs e') → P vs H') : WA K mg pv F held σ P E (m e) := by
  cases q : m e with
  | st => rw [q] at h; exact absurd h hs
  | ok r e' => rw [q] at h; exact fun v F' H' as' tr s c rr => k r e' v F' H' as' tr s c rr h
  | ex x e' => rw [q] at h; exact hx x e' h
theorem WE.mono {Q : VK} {r : R RV} (s : Same F F') (h : WE K mg pv F held σ Q E r) : WE K mg pv F' held σ Q E r := by
  cases r with
  | st => exact h
  | ok r e' => exact fun v F2 H2 as2 tr2 s2 c rr => h v F2 H2 as2 tr2 (s.trans s2) c rr
  | ex x e' => exact WX.mono s h
theorem WT.mono {Q : Bool → Hp → Prop} {r : R Bool} (s : Same F F') (h : WT K mg pv F held σ Q E r) : WT K mg pv F' held σ Q E r := by
  cases r with
  | st => exact h
  | ok r e' => exact fun F2 H2 as2 s2 c => h F2 H2 as2 (s.trans s2) c
  | ex x e' => exact WX.mono s h
theorem WA.mono {Q : List V → Hp → Prop} {r : R (List RV)} (s : Same F F') (h : WA K mg pv F held σ Q E r) : WA K mg pv F' held σ Q E r := by
  cases r with
  | st => exact h
  | ok r e' => exact fun v F2 H2 as2 tr2 s2 c rr => h v F2 H2 as2 tr2 (s.trans s2) c rr
  | ex x e' => exact WX.mono s h
theorem WS.mono {D : Ends} {r : R Fl} (s : Same F F') (h : WS K mg pv F held E D r) : WS K mg pv F' held E D r := by
  cases r with
  | st => exact h
  | ok r e' => cases r with
    | nx => exact fun σ2 F2 H2 as2 s2 c => h σ2 F2 H2 as2 (s.trans s2) c
    | bk => exact fun σ2 F2 H2 as2 s2 c => h σ2 F2 H2 as2 (s.trans s2) c
    | ct => exact fun σ2 F2 H2 as2 s2 c => h σ2 F2 H2 as2 (s.trans s2) c
    | rt r => exact fun v σ2 F2 H2 as2 tr2 s2 c rr => h v σ2 F2 H2 as2 tr2 (s.trans s2) c rr
  | ex x e' => exact WX.mono s h

/-! ### names, constants -/
theorem rep_imm {d : D} {v : V} (h : imm d = some v) : Rep K mg F v d := by
  cases d <;> first | (cases h; rfl) | cases h
def dVar (i : Nat) : M RV := fun e => match e.sl[i]? with
  | some (some (.fz d)) => .ok (.fz d) e
  | some (some _) => .ok (.var i) e
  | _ => .st
def dC (d : D) : M RV := fun e => .ok (.fz d) e
theorem se_var {i : Nat} : SE K mg E (tVar i) (dVar i) := by
  intro pv F H σ e as held Q c w
  unfold dVar at w
  cases z : e.sl[i]? with
  | none => rw [z] at w; exact w.elim
  | some o =>
    cases o with
    | none => rw [z] at w; exact w.elim
    | some s =>
      rw [z] at w
      obtain ⟨t, ht, et⟩ := c.r.slotOf z
      have hv := c.r.at_ i t ht
      refine ⟨t.val, hv, ?_⟩
      cases s with
      | fz d =>
        cases t with
        | fz v d' =>
          have ed : d' = d := by simpa [er] using et
          subst ed
          have rp : Rep K mg F v d' := Oks.mem.mp c.g.ok _ (List.mem_append_left _ (mem_opts ht))
          exact w v F H as _ (Same.refl _) (c.fz rp) rfl
        | ol _ _ => simp [er] at et
        | oo _ _ _ _ _ _ => simp [er] at et
        | od _ _ _ => simp [er] at et
      | ol xs => exact w t.val F H as [] (Same.refl _) c ⟨rfl, hv⟩
      | oo c' ns xs => exact w t.val F H as [] (Same.refl _) c ⟨rfl, hv⟩
      | od ks xs => exact w t.val F H as [] (Same.refl _) c ⟨rfl, hv⟩
theorem se_c {v : V} {d : D} (h : imm d = some v := by rfl) : SE K mg E (tC v) (dC d) := by
  intro pv F H σ e as held Q c w
  exact w v F H as _ (Same.refl _) (c.fz (rep_imm h)) rfl

/-! ### two values, seen as data, an immediate value out -/
def dOp (f : D → D → Option D) (a b : M RV) : M RV := a.bind fun r => b.bind fun q => fun e => match view e r, view e q with
  | some x, some y => (match f x y with
    | some d => .ok (.fz d) e
    | none => .st)
  | _, _ => .st
/-- a rule by values answers as the function does -/
def OpD (r : R2) (K : PySem.W.Frag) (mg : Str → Option Value) (f : D → D → Option D) : Prop := ∀ (H : Hp) (x y : V) (a b d : D), Rep K mg H x a → Rep K mg H y b → f a b = some d → ∃ v, imm d = some v ∧ ∀ Q : VK, Q v H → r x y H Q
theorem se_op {r : R2} {f : D → D → Option D} {ta tb : TE} {ma mb : M RV} (hr : OpD r K mg f) (ha : SE K mg E ta ma) (hb : SE K mg E tb mb) : SE K mg E (tOp r ta tb) (dOp f ma mb) := by
  intro pv F H σ e as held Q c w
  refine ha pv F H σ e as held _ c (WE.bindE (W := WE K mg pv F held σ Q E) (fun z => z) w (fun _ _ z => z) fun r1 e1 v1 F1 H1 as1 tr1 s1 c1 rr1 w1 => ?_)
  refine hb pv F1 H1 σ e1 as1 (tr1 ++ held) _ c1 (WE.bindE (W := WE K mg pv F held σ Q E) (fun z => z) w1 (fun _ _ z => (WX.mono s1 z).drop) fun r2 e2 v2 F2 H2 as2 tr2 s2 c2 rr2 w2 => ?_)
  have w2' : WE K mg pv F held σ Q E (match view e2 r1, view e2 r2 with
    | some x, some y => (match f x y with
      | some d => .ok (.fz d) e2
      | none => .st)
    | _, _ => .st) := w2
  cases q1 : view e2 r1 with
  | none => rw [q1] at w2'; exact w2'.elim
  | some x =>
    cases q2 : view e2 r2 with
    | none => rw [q1, q2] at w2'; exact w2'.elim
    | some y =>
      rw [q1, q2] at w2'
      cases q3 : f x y with
      | none => simp only [q3] at w2'; exact w2'.elim
      | some d =>
        simp only [q3] at w2'
        have p1 := c2.seen rr1 (fun t ht => List.mem_append_right _ (List.mem_append_left _ ht)) q1
        have p2 := c2.seen rr2 (fun t ht => List.mem_append_left _ ht) q2
        obtain ⟨v, hv, k⟩ := hr H2 v1 v2 x y d p1 p2 q3
        exact k Q (w2' v F2 H2 as2 _ (s1.trans s2) (c2.drop.drop.fz (rep_imm hv)) rfl)
def dUn (f : D → Option D) (a : M RV) : M RV := a.bind fun r => fun e => match view e r with
  | some x => (match f x with
    | some d => .ok (.fz d) e
    | none => .st)
  | _ => .st
def UnD (r : V → Hp → VK → Prop) (K : PySem.W.Frag) (mg : Str → Option Value) (f : D → Option D) : Prop := ∀ (H : Hp) (x : V) (a d : D), Rep K mg H x a → f a = some d → ∃ v, imm d = some v ∧ ∀ Q : VK, Q v H → r x H Q
theorem se_un {r : V → Hp → VK → Prop} {f : D → Option D} {ta : TE} {ma : M RV} (hr : UnD r K mg f) (ha : SE K mg E ta ma) : SE K mg E (tUn r ta) (dUn f ma) := by
  intro pv F H σ e as held Q c w
  refine ha pv F H σ e as held _ c (WE.bindE (W := WE K mg pv F held σ Q E) (fun z => z) w (fun _ _ z => z) fun r1 e1 v1 F1 H1 as1 tr1 s1 c1 rr1 w1 => ?_)
  have w2' : WE K mg pv F held σ Q E (match view e1 r1 with
    | some x => (match f x with
      | some d => .ok (.fz d) e1
      | none => .st)
    | _ => .st) := w1
  cases q1 : view e1 r1 with
  | none => rw [q1] at w2'; exact w2'.elim
  | some x =>
    rw [q1] at w2'
    cases q3 : f x with
    | none => simp only [q3] at w2'; exact w2'.elim
    | some d =>
      simp only [q3] at w2'
      have p1 := c1.seen rr1 (fun t ht => List.mem_append_left _ ht) q1
      obtain ⟨v, hv, k⟩ := hr H1 v1 x d p1 q3
      exact k Q (w2' v F1 H1 as1 _ s1 (c1.drop.fz (rep_imm hv)) rfl)
/-! ### arguments -/
def dNil : M (List RV) := fun e => .ok [] e
def dCons (a : M RV) (b : M (List RV)) : M (List RV) := a.bind fun r => b.bind fun rs => fun e => .ok (r :: rs) e
theorem sa_nil : SA K mg E tNil dNil := by
  intro pv F H σ e as held Q c w
  exact w [] F H as [] (Same.refl _) c rfl
theorem sa_cons {ta : TE} {tb : TA} {ma : M RV} {mb : M (List RV)} (ha : SE K mg E ta ma) (hb : SA K mg E tb mb) : SA K mg E (tCons ta tb) (dCons ma mb) := by
  intro pv F H σ e as held Q c w
  refine ha pv F H σ e as held _ c (WE.bindE (W := WA K mg pv F held σ Q E) (fun z => z) w (fun _ _ z => z) fun r1 e1 v1 F1 H1 as1 tr1 s1 c1 rr1 w1 => ?_)
  refine hb pv F1 H1 σ e1 as1 (tr1 ++ held) _ c1 (WA.bindA (W := WA K mg pv F held σ Q E) (fun z => z) w1 (fun _ _ z => (WX.mono s1 z).drop) fun r2 e2 v2 F2 H2 as2 tr2 s2 c2 rr2 w2 => ?_)
  exact w2 (v1 :: v2) F2 H2 as2 (tr2 ++ tr1) (s1.trans s2) (by rw [List.append_assoc]; exact c2) ⟨tr1, tr2, rfl, rr1, rr2⟩
theorem RRs.seen {rs : List RV} : ∀ {vs : List V} {tr : List AT} {rs : List RV} {ds : List D}, Cf K mg pv F H σ e as held → RRs σ vs rs tr → (∀ t ∈ tr, t ∈ held) → rs.mapM (view e) = some ds → Reps K mg H vs ds
  | [], tr, [], ds, _, _, _, q => by
    have : ds = [] := by simpa using q.symm
    subst this
    trivial
  | v :: vs, tr, r :: rs, ds, c, ⟨t1, t2, e1, h1, h2⟩, hm, q => by
    subst e1
    cases q1 : view e r with
    | none => simp [q1] at q
    | some d =>
      cases q2 : rs.mapM (view e) with
      | none => simp [q1, q2] at q
      | some ds' =>
        have : ds = d :: ds' := by simpa [q1, q2] using q.symm
        subst this
        exact ⟨c.seen h1 (fun t ht => hm t (List.mem_append_right _ ht)) q1, RRs.seen (rs := rs) c h2 (fun t ht => hm t (List.mem_append_left _ ht)) q2⟩
  | [], _, _ :: _, _, _, h, _, _ => h.elim
  | _ :: _, _, [], _, _, h, _, _ => h.elim
/-- a built-in that sees its arguments as data and gives an immediate value -/
def dCB (f : List D → Option D) (a : M (List RV)) : M RV := a.bind fun rs => fun e => match rs.mapM (view e) with
  | some xs => (match f xs with
    | some d => .ok (.fz d) e
    | none => .st)
  | none => .st
def CbD (r : List V → Hp → VK → Prop) (K : PySem.W.Frag) (mg : Str → Option Value) (f : List D → Option D) : Prop := ∀ (H : Hp) (xs : List V) (as : List D) (d : D), Reps K mg H xs as → f as = some d → ∃ v, imm d = some v ∧ ∀ Q : VK, Q v H → r xs H Q
theorem se_cb {r : List V → Hp → VK → Prop} {f : List D → Option D} {ta : TA} {ma : M (List RV)} (hr : CbD r K mg f) (ha : SA K mg E ta ma) : SE K mg E (tCB r ta) (dCB f ma) := by
  intro pv F H σ e as held Q c w
  refine ha pv F H σ e as held _ c (WA.bindA (W := WE K mg pv F held σ Q E) (fun z => z) w (fun _ _ z => z) fun r1 e1 v1 F1 H1 as1 tr1 s1 c1 rr1 w1 => ?_)
  have w2' : WE K mg pv F held σ Q E (match r1.mapM (view e1) with
    | some x => (match f x with
      | some d => .ok (.fz d) e1
      | none => .st)
    | none => .st) := w1
  cases q1 : r1.mapM (view e1) with
  | none => rw [q1] at w2'; exact w2'.elim
  | some x =>
    rw [q1] at w2'
    cases q3 : f x with
    | none => simp only [q3] at w2'; exact w2'.elim
    | some d =>
      simp only [q3] at w2'
      have p1 := RRs.seen (rs := r1) c1 rr1 (fun t ht => List.mem_append_left _ ht) q1
      obtain ⟨v, hv, k⟩ := hr H1 v1 x d p1 q3
      exact k Q (w2' v F1 H1 as1 _ s1 (c1.drop.fz (rep_imm hv)) rfl)
/-! ### tests -/
/-- a value that is True or False, as a test -/
def dT (a : M RV) : M Bool := a.bind fun r => fun e => match view e r with
  | some (.bl b) => .ok b e
  | _ => .st
theorem st_val {ta : TE} {ma : M RV} (ha : SE K mg E ta ma) : ST K mg E (tB ta) (dT ma) := by
  intro pv F H σ e as held Q c w
  refine ha pv F H σ e as held _ c (WE.bindE (W := WT K mg pv F held σ Q E) (fun z => z) w (fun _ _ z => z) fun r1 e1 v1 F1 H1 as1 tr1 s1 c1 rr1 w1 => ?_)
  have w2' : WT K mg pv F held σ Q E (match view e1 r1 with
    | some (.bl b) => .ok b e1
    | _ => .st) := w1
  cases q1 : view e1 r1 with
  | none => rw [q1] at w2'; exact w2'.elim
  | some x =>
    rw [q1] at w2'
    have p1 := c1.seen rr1 (fun t ht => List.mem_append_left _ ht) q1
    cases x with
    | bl b => exact ⟨b, p1, w2' F1 H1 as1 s1 c1.drop⟩
    | _ => exact w2'.elim
theorem st_test {ta : TE} {ma : M RV} (ha : SE K mg E ta ma) : ST K mg E (tTest ta) (dT ma) := st_val ha
def dAnd (a b : M Bool) : M Bool := a.bind fun c => match c with
  | true => b
  | false => fun e => .ok false e
def dOr (a b : M Bool) : M Bool := a.bind fun c => match c with
  | true => fun e => .ok true e
  | false => b
def dNot (a : M Bool) : M Bool := a.bind fun c e => .ok (!c) e
theorem st_and {ta tb : TT} {ma mb : M Bool} (ha : ST K mg E ta ma) (hb : ST K mg E tb mb) : ST K mg E (tAnd ta tb) (dAnd ma mb) := by
  intro pv F H σ e as held Q c w
  refine ha pv F H σ e as held _ c (WT.bindT (W := WT K mg pv F held σ Q E) (fun z => z) w (fun _ _ z => z) fun b e1 F1 H1 as1 s1 c1 w1 => ?_)
  cases b with
  | true => exact hb pv F1 H1 σ e1 as1 held Q c1 (WT.mono s1 w1)
  | false => exact w1 F1 H1 as1 s1 c1
theorem st_or {ta tb : TT} {ma mb : M Bool} (ha : ST K mg E ta ma) (hb : ST K mg E tb mb) : ST K mg E (tOr ta tb) (dOr ma mb) := by
  intro pv F H σ e as held Q c w
  refine ha pv F H σ e as held _ c (WT.bindT (W := WT K mg pv F held σ Q E) (fun z => z) w (fun _ _ z => z) fun b e1 F1 H1 as1 s1 c1 w1 => ?_)
  cases b with
  | true => exact w1 F1 H1 as1 s1 c1
  | false => exact hb pv F1 H1 σ e1 as1 held Q c1 (WT.mono s1 w1)
theorem st_not {ta : TT} {ma : M Bool} (ha : ST K mg E ta ma) : ST K mg E (tNot ta) (dNot ma) := by
  intro pv F H σ e as held Q c w
  exact ha pv F H σ e as held _ c (WT.bindT (W := WT K mg pv F held σ Q E) (fun z => z) w (fun _ _ z => z) fun b e1 F1 H1 as1 s1 c1 w1 => w1 F1 H1 as1 s1 c1)
/-! ### statements -/
def dSeq (a b : M Fl) : M Fl := a.bind fun f => match f with
  | .nx => b
  | f => fun e => .ok f e
def dNext : M Fl := fun e => .ok .nx e
def dIf (c : M Bool) (a b : M Fl) : M Fl := c.bind fun k => match k with
  | true => a
  | false => b
theorem ss_next : SS K mg E tNext dNext := by
  intro pv F H σ e as held D c w
  exact w σ F H as (Same.refl _) c
theorem ss_seq {ta tb : TS} {ma mb : M Fl} (ha : SS K mg E ta ma) (hb : SS K mg E tb mb) : SS K mg E (tSeq ta tb) (dSeq ma mb) := by
  intro pv F H σ e as held D c w
  refine ha pv F H σ e as held _ c ?_
  have w' : WS K mg pv F held E D ((ma e).bind fun f => match f with
    | .nx => mb
    | f => fun e => .ok f e) := w
  cases q : ma e with
  | st => rw [q] at w'; exact w'.elim
  | ex x e' => rw [q] at w'; exact w'
  | ok f e' =>
    rw [q] at w'
    cases f with
    | nx => exact fun σ1 F1 H1 as1 s1 c1 => hb pv F1 H1 σ1 e' as1 held D c1 (WS.mono s1 w')
    | bk => exact w'
    | ct => exact w'
    | rt r => exact w'
theorem ss_if {tc : TT} {ta tb : TS} {mc : M Bool} {ma mb : M Fl} (hc : ST K mg E tc mc) (ha : SS K mg E ta ma) (hb : SS K mg E tb mb) : SS K mg E (tIfS tc ta tb) (dIf mc ma mb) := by
  intro pv F H σ e as held D c w
  refine hc pv F H σ e as held _ c (WT.bindT (W := WS K mg pv F held E D) (fun z => z) w (fun _ _ z => z) fun b e1 F1 H1 as1 s1 c1 w1 => ?_)
  cases b with
  | true => exact ha pv F1 H1 σ e1 as1 held D c1 (WS.mono s1 w1)
  | false => exact hb pv F1 H1 σ e1 as1 held D c1 (WS.mono s1 w1)
def dRet (a : M RV) : M Fl := a.bind fun r e => .ok (.rt r) e
theorem ss_ret {ta : TE} {ma : M RV} (ha : SE K mg E ta ma) : SS K mg E (tRet ta) (dRet ma) := by
  intro pv F H σ e as held D c w
  exact ha pv F H σ e as held _ c (WE.bindE (W := WS K mg pv F held E D) (fun z => z) w (fun _ _ z => z) fun r1 e1 v1 F1 H1 as1 tr1 s1 c1 rr1 w1 => w1 v1 σ F1 H1 as1 tr1 s1 c1 rr1)
def dDrop (a : M RV) : M Fl := a.bind fun _ e => .ok .nx e
theorem ss_drop {ta : TE} {ma : M RV} (ha : SE K mg E ta ma) : SS K mg E (tDrop ta) (dDrop ma) := by
  intro pv F H σ e as held D c w
  exact ha pv F H σ e as held _ c (WE.bindE (W := WS K mg pv F held E D) (fun z => z) w (fun _ _ z => z) fun r1 e1 v1 F1 H1 as1 tr1 s1 c1 rr1 w1 => w1 σ F1 H1 as1 s1 c1.drop)
def dBreak : M Fl := fun e => .ok .bk e
def dCont : M Fl := fun e => .ok .ct e
theorem ss_break : SS K mg E tBreak dBreak := fun pv F H σ e as held D c w => w σ F H as (Same.refl _) c
theorem ss_cont : SS K mg E tCont dCont := fun pv F H σ e as held D c w => w σ F H as (Same.refl _) c
def dRetN : M Fl := fun e => .ok (.rt (.fz .non)) e
theorem ss_retN : SS K mg E tRetN dRetN := fun pv F H σ e as held D c w => w .non σ F H as _ (Same.refl _) (c.fz (show Rep K mg F .non .non from rfl)) rfl
end
end VF

set_option maxRecDepth 100000
set_option maxHeartbeats 4000000
/-! Stores, lists of one's own, calls, bodies. -/
namespace VF
set_option autoImplicit false
open PySem PySem.Spec PyProof.Rows L2
open AT (cells cellsL er ers)
section
variable {K : PySem.W.Frag} {mg : Str → Option Value} {pv : List (Nat × V)} {F F' H H' : Hp} {σ : L2.St} {e e' : Env} {as as' : List (Option AT)} {held tr ts us : List AT} {E : XS}

/-! ### heaps: a new cell, a changed cell -/
theorem same_new {p : Addr} {o : HO} (h : H p = none) : Same H (upd H p o) := fun b x e => by
  rw [upd_ne (ne_of_none e h)]; exact e
theorem same_own {p : Addr} {o : HO} (s : Same F H) (h : F p = none) : Same F (upd H p o) := fun b x e => by
  rw [upd_ne (ne_of_none e h)]; exact s b x e
theorem same_both {p : Addr} {o : HO} (s : Same F H) (h : H p = none) : Same F (upd F p o) ∧ Same (upd F p o) (upd H p o) :=
  ⟨same_new (s.free h), fun b x e => by
    by_cases q : b = p
    · subst q; rw [upd_same] at e ⊢; exact e
    · rw [upd_ne q] at e ⊢; exact s b x e⟩
theorem Good.grow {p : Addr} {o : HO} (g : Good K mg F H us) (h : H p = none) : Good K mg F (upd H p o) us :=
  ⟨fun c hc => ⟨by rw [upd_ne (ne_of_none (g.at_ c hc).1 h)]; exact (g.at_ c hc).1, (g.at_ c hc).2⟩, g.ok, g.nd⟩
theorem Good.new {p : Addr} {xs : List AT} (g : Good K mg F H (xs ++ us)) (s : Same F H) (h : H p = none) : Good K mg F (upd H p (.lst (vals xs))) (.ol p xs :: us) := by
  have g2 := g.grow (o := .lst (vals xs)) h
  have hp : ∀ c ∈ cellsL (xs ++ us), c.1 ≠ p := fun c hc => ne_of_none (g.at_ c hc).1 h
  have ok := Oks.append.mp g.ok
  refine ⟨fun c hc => ?_, ⟨ok.1, ok.2⟩, ?_⟩
  · have hc' : c ∈ (p, HO.lst (vals xs)) :: (cellsL xs ++ cellsL us) := hc
    rcases List.mem_cons.mp hc' with e | hc'
    · subst e; exact ⟨upd_same, s.free h⟩
    · exact g2.at_ c (by rw [cellsL_append]; exact hc')
  · show (((p, HO.lst (vals xs)) :: (cellsL xs ++ cellsL us)).map (·.1)).Nodup
    rw [List.map_cons, List.nodup_cons, ← cellsL_append]
    refine ⟨fun q => ?_, g.nd⟩
    obtain ⟨c, hc, ec⟩ := List.mem_map.mp q
    exact hp c hc ec
/-- new data: a cell that nobody changes -/
theorem Good.newF {p : Addr} {o : HO} (g : Good K mg F H us) (s : Same F H) (h : H p = none) : Good K mg (upd F p o) (upd H p o) us := by
  have sb := same_both (o := o) s h
  refine ⟨fun c hc => ?_, Oks.same sb.1 g.ok, g.nd⟩
  have ne := ne_of_none (g.at_ c hc).1 h
  rw [upd_ne ne, upd_ne ne]
  exact g.at_ c hc
/-- a list of one's own is changed: its items are some of those that are there -/
theorem Good.relist {p : Addr} {xs ys zs junk : List AT} (g : Good K mg F H (.ol p xs :: us)) (pm : (xs ++ us).Perm (junk ++ (ys ++ zs))) : Good K mg F (upd H p (.lst (vals ys))) (.ol p ys :: zs) := by
  have nd : (((p, HO.lst (vals xs)) :: (cellsL xs ++ cellsL us)).map (·.1)).Nodup := g.nd
  rw [List.map_cons, List.nodup_cons, ← cellsL_append] at nd
  have g1 : Good K mg F H (xs ++ us) := ⟨fun c hc => g.at_ c (List.mem_cons_of_mem _ (by rw [cellsL_append] at hc; exact hc)), Oks.append.mpr g.ok, nd.2⟩
  have g2 : Good K mg F H (ys ++ zs) := (g1.perm pm).sub
  have mem : ∀ c ∈ cellsL (ys ++ zs), c ∈ cellsL (xs ++ us) := fun c hc => (cellsL_perm pm).mem_iff.mpr (by rw [cellsL_append]; exact List.mem_append_right _ hc)
  have hp : ∀ c ∈ cellsL (ys ++ zs), c.1 ≠ p := fun c hc q => nd.1 (List.mem_map.mpr ⟨c, mem c hc, q⟩)
  have ok := Oks.append.mp g2.ok
  have hF : F p = none := (g.at_ (p, .lst (vals xs)) List.mem_cons_self).2
  refine ⟨fun c hc => ?_, ⟨ok.1, ok.2⟩, ?_⟩
  · have hc' : c ∈ (p, HO.lst (vals ys)) :: (cellsL ys ++ cellsL zs) := hc
    rcases List.mem_cons.mp hc' with e | hc'
    · subst e; exact ⟨upd_same, hF⟩
    · rw [← cellsL_append] at hc'
      rw [upd_ne (hp c hc')]
      exact g2.at_ c hc'
  · show (((p, HO.lst (vals ys)) :: (cellsL ys ++ cellsL zs)).map (·.1)).Nodup
    rw [List.map_cons, List.nodup_cons, ← cellsL_append]
    exact ⟨fun q => by obtain ⟨c, hc, ec⟩ := List.mem_map.mp q; exact hp c hc ec, g2.nd⟩
theorem Good.cell {p : Addr} {xs : List AT} (g : Good K mg F H (.ol p xs :: us)) : H p = some (.lst (vals xs)) ∧ F p = none := g.at_ (p, .lst (vals xs)) List.mem_cons_self

/-! ### a slot's tree taken, put -/
def Env.setS (e : Env) (i : Nat) (s : SV) : Env := ⟨e.sl.set i (some s), e.pn⟩
theorem Cf.take {i : Nat} {t : AT} (c : Cf K mg pv F H σ e as held) (h : as[i]? = some (some t)) : Good K mg F H (t :: (opts (as.set i none) ++ held)) :=
  c.g.perm ((opts_take h).append_right held)
theorem SR.put {i : Nat} {t t' : AT} (r : SR pv σ e as) (h : as[i]? = some (some t)) (hv : t'.val = t.val) : SR pv σ (e.setS i (er t')) (as.set i (some t')) where
  sl := by show e.sl.set i (some (er t')) = _; rw [List.map_set, r.sl]; rfl
  len := by rw [List.length_set]; exact r.len
  at_ := fun j u hj => by
    by_cases q : j = i
    · subst q
      have hlt : j < as.length := (List.getElem?_eq_some_iff.mp h).1
      rw [List.getElem?_set_self hlt] at hj
      cases hj
      rw [hv]
      exact r.at_ j t h
    · rw [List.getElem?_set_ne (Ne.symm q)] at hj
      exact r.at_ j u hj
  pin := r.pin
theorem Cf.put {i : Nat} {t t' : AT} (r : SR pv σ e as) (h : as[i]? = some (some t)) (s : Same F' H') (g : Good K mg F' H' (t' :: (opts (as.set i none) ++ held))) (hv : t'.val = t.val) :
    Cf K mg pv F' H' σ (e.setS i (er t')) (as.set i (some t')) held := by
  refine ⟨s, r.put h hv, ?_⟩
  have hlt : i < as.length := (List.getElem?_eq_some_iff.mp h).1
  have := opts_put (as := as.set i none) (i := i) t' (by simp [hlt])
  rw [List.set_set] at this
  exact g.perm (this.append_right held)
/-- a slot's tree becomes data -/
theorem Cf.frzS {i : Nat} {t : AT} (c : Cf K mg pv F H σ e as held) (h : as[i]? = some (some t)) :
    ∃ F', Same F F' ∧ Cf K mg pv F' H σ (e.setS i (.fz (er t).toD)) (as.set i (some (.fz t.val (er t).toD))) held ∧ Rep K mg F' t.val (er t).toD := by
  obtain ⟨s1, s2, g⟩ := (c.take h).freeze c.s
  exact ⟨_, s1, Cf.put c.r h s2 g rfl, g.unfz.2⟩
def frzR (r : RV) (e : Env) : Option (D × Env) := match r with
  | .fz d => some (d, e)
  | .own s => some (s.toD, e)
  | .var i => match e.sl[i]? with
    | some (some s) => some (s.toD, e.setS i (.fz s.toD))
    | _ => none
/-- a value becomes data (it may stand in a new place then) -/
theorem Cf.frzR {v : V} {r : RV} {d : D} {e' : Env} (c : Cf K mg pv F H σ e as (tr ++ held)) (h : RR σ v r tr) (q : frzR r e = some (d, e')) :
    ∃ F' as', Same F F' ∧ Cf K mg pv F' H σ e' as' held ∧ Rep K mg F' v d := by
  cases r with
  | fz y =>
    have q' : some (y, e) = some (d, e') := q
    cases q'
    have e1 : tr = [.fz v d] := h
    subst e1
    have ok := Oks.mem.mp c.g.ok (.fz v d) (List.mem_append_right _ (List.mem_append_left _ List.mem_cons_self))
    exact ⟨F, as, Same.refl _, c.drop, ok⟩
  | own s =>
    have q' : some (s.toD, e) = some (d, e') := q
    cases q'
    obtain ⟨t, e1, e2, e3⟩ := h
    subst e1 e2 e3
    have g : Good K mg F H (t :: (opts as ++ held)) := c.g.perm (List.perm_middle (l₁ := opts as) (l₂ := held) (a := t))
    obtain ⟨s1, s2, g'⟩ := g.freeze c.s
    exact ⟨_, as, s1, ⟨s2, c.r, g'.unfz.1⟩, g'.unfz.2⟩
  | var i =>
    obtain ⟨e1, hv⟩ := h
    subst e1
    have q' : (match e.sl[i]? with | some (some s) => some (s.toD, e.setS i (.fz s.toD)) | _ => none) = some (d, e') := q
    cases z : e.sl[i]? with
    | none => rw [z] at q'; cases q'
    | some o =>
      cases o with
      | none => rw [z] at q'; cases q'
      | some s =>
        rw [z] at q'
        cases q'
        obtain ⟨t, ht, et⟩ := c.r.slotOf z
        subst et
        obtain ⟨F', s1, c', rp⟩ := c.frzS ht
        have hv2 := c.r.at_ i t ht
        rw [hv] at hv2
        have ev : v = t.val := by simpa using hv2
        subst ev
        exact ⟨F', _, s1, c', rp⟩
def frzRs : List RV → Env → Option (List D × Env)
  | [], e => some ([], e)
  | r :: rs, e => match frzR r e with
    | some (d, e1) => (match frzRs rs e1 with
      | some (ds, e2) => some (d :: ds, e2)
      | none => none)
    | none => none
theorem Cf.frzRs : ∀ {rs : List RV} {vs : List V} {ds : List D} {F : Hp} {e e' : Env} {as : List (Option AT)} {tr : List AT}, Cf K mg pv F H σ e as (tr ++ held) → RRs σ vs rs tr → frzRs rs e = some (ds, e') →
    ∃ F' as', Same F F' ∧ Cf K mg pv F' H σ e' as' held ∧ Reps K mg F' vs ds
  | [], [], ds, F, e, e', as, tr, c, h, q => by
    have e1 : tr = [] := h
    subst e1
    have q' : some (([] : List D), e) = some (ds, e') := q
    cases q'
    exact ⟨F, as, Same.refl _, c, trivial⟩
  | r :: rs, v :: vs, ds, F, e, e', as, tr, c, ⟨t1, t2, e1, h1, h2⟩, q => by
    subst e1
    have q' : (match VF.frzR r e with
      | some (d, e1) => (match VF.frzRs rs e1 with
        | some (ds, e2) => some (d :: ds, e2)
        | none => none)
      | none => none) = some (ds, e') := q
    cases q1 : VF.frzR r e with
    | none => rw [q1] at q'; cases q'
    | some p =>
      obtain ⟨d, e1⟩ := p
      rw [q1] at q'
      cases q2 : VF.frzRs rs e1 with
      | none => simp only [q2] at q'; cases q'
      | some p2 =>
        obtain ⟨ds2, e2⟩ := p2
        simp only [q2] at q'
        cases q'
        have c1 : Cf K mg pv F H σ e as (t1 ++ (t2 ++ held)) := ⟨c.s, c.r, c.g.perm (by
          refine List.Perm.append_left _ ?_
          rw [List.append_assoc]
          rw [← List.append_assoc, ← List.append_assoc]
          exact List.perm_append_comm.append_right held)⟩
        obtain ⟨F1, as1, s1, c2, rp⟩ := c1.frzR h1 q1
        obtain ⟨F2, as2, s2, c3, rps⟩ := Cf.frzRs c2 h2 q2
        exact ⟨F2, as2, s1.trans s2, c3, Rep.same s2 rp, rps⟩
  | [], _ :: _, _, _, _, _, _, _, _, h, _ => h.elim
  | _ :: _, [], _, _, _, _, _, _, _, h, _ => h.elim

/-! ### name = value -/
def putR (i : Nat) (r : RV) (e : Env) : Option Env := if i ∈ e.pn then none else match r with
  | .fz d => some (e.setS i (.fz d))
  | .own s => some (e.setS i s)
  | .var j => match e.sl[j]? with
    | some (some s) => some ((e.setS j (.fz s.toD)).setS i (.fz s.toD))
    | _ => none
theorem SR.store {i : Nat} {t : AT} (r : SR pv σ e as) (hi : i ∉ e.pn) : SR pv (σ.set i (some t.val)) (e.setS i (er t)) (as.set i (some t)) where
  sl := by show e.sl.set i (some (er t)) = _; rw [List.map_set, r.sl]; rfl
  len := by rw [List.length_set, List.length_set]; exact r.len
  at_ := fun j u hj => by
    by_cases q : j = i
    · subst q
      have hlt : j < as.length := by
        have := (List.getElem?_eq_some_iff.mp hj).1
        simpa using this
      rw [List.getElem?_set_self hlt] at hj
      cases hj
      rw [List.getElem?_set_self (by rw [r.len]; exact hlt)]
    · rw [List.getElem?_set_ne (Ne.symm q)] at hj ⊢
      exact r.at_ j u hj
  pin := fun p hp => by
    obtain ⟨h1, h2⟩ := r.pin p hp
    refine ⟨h1, ?_⟩
    have ne : i ≠ p.1 := fun q => hi (by rw [q]; exact h1)
    rw [List.getElem?_set_ne ne]
    exact h2
theorem Cf.store {i : Nat} {t : AT} (c : Cf K mg pv F H σ e as ([t] ++ held)) (hi : i ∉ e.pn) : Cf K mg pv F H (σ.set i (some t.val)) (e.setS i (er t)) (as.set i (some t)) held := by
  refine ⟨c.s, c.r.store hi, ?_⟩
  obtain ⟨L, p⟩ := opts_set (as := as) (i := i) t
  have p2 : (opts as ++ ([t] ++ held)).Perm (L ++ (opts (as.set i (some t)) ++ held)) := by
    refine (List.perm_middle (l₁ := opts as) (l₂ := held) (a := t)).trans ?_
    have := p.append_right held
    rw [List.append_assoc] at this
    exact this
  exact (c.g.perm p2).sub
theorem Cf.putR {i : Nat} {v : V} {r : RV} (c : Cf K mg pv F H σ e as (tr ++ held)) (h : RR σ v r tr) (q : putR i r e = some e') :
    ∃ F' as', Same F F' ∧ Cf K mg pv F' H (σ.set i (some v)) e' as' held := by
  unfold VF.putR at q
  by_cases hi : i ∈ e.pn
  · rw [if_pos hi] at q; cases q
  rw [if_neg hi] at q
  cases r with
  | fz d =>
    cases q
    have e1 : tr = [.fz v d] := h
    subst e1
    exact ⟨F, _, Same.refl _, c.store hi⟩
  | own s =>
    cases q
    obtain ⟨t, e1, e2, e3⟩ := h
    subst e1 e2 e3
    exact ⟨F, _, Same.refl _, c.store hi⟩
  | var j =>
    obtain ⟨e1, hv⟩ := h
    subst e1
    cases z : e.sl[j]? with
    | none => simp only [z] at q; cases q
    | some o =>
      cases o with
      | none => simp only [z] at q; cases q
      | some s =>
        simp only [z] at q
        cases q
        obtain ⟨t, ht, et⟩ := c.r.slotOf z
        subst et
        obtain ⟨F', s1, c', rp⟩ := c.frzS ht
        have hv2 := c.r.at_ j t ht
        rw [hv] at hv2
        have ev : v = t.val := by simpa using hv2
        subst ev
        exact ⟨F', _, s1, Cf.store (t := .fz t.val (er t).toD) (c'.fz rp) hi⟩
def dSet (i : Nat) (a : M RV) : M Fl := a.bind fun r e => match putR i r e with
  | some e' => .ok .nx e'
  | none => .st
theorem ss_set {i : Nat} {ta : TE} {ma : M RV} (ha : SE K mg E ta ma) : SS K mg E (tAsg ta (gName i)) (dSet i ma) := by
  intro pv F H σ e as held D c w
  refine ha pv F H σ e as held _ c (WE.bindE (W := WS K mg pv F held E D) (fun z => z) w (fun _ _ z => z) fun r1 e1 v1 F1 H1 as1 tr1 s1 c1 rr1 w1 => ?_)
  have w2 : WS K mg pv F held E D (match putR i r1 e1 with
    | some e' => .ok .nx e'
    | none => .st) := w1
  cases q : putR i r1 e1 with
  | none => rw [q] at w2; exact w2.elim
  | some e' =>
    rw [q] at w2
    obtain ⟨F', as', s', c'⟩ := c1.putR rr1 q
    exact w2 _ F' H1 as' (s1.trans s') c'
/-! ### displays -/
def dLst (a : M (List RV)) : M RV := a.bind fun rs e => match frzRs rs e with
  | some (ds, e') => if ds.length ≤ sizeLine then .ok (.own (.ol (ds.map .fz))) e' else .st
  | none => .st
def atoms (vs : List V) (ds : List D) : List AT := (vs.zip ds).map fun p => .fz p.1 p.2
theorem vals_atoms : ∀ {vs : List V} {ds : List D}, Reps K mg F vs ds → vals (atoms vs ds) = vs
  | [], [], _ => rfl
  | v :: vs, d :: ds, ⟨_, h⟩ => congrArg (v :: ·) (vals_atoms h)
  | [], _ :: _, h => h.elim
  | _ :: _, [], h => h.elim
theorem ers_atoms : ∀ {vs : List V} {ds : List D}, Reps K mg F vs ds → ers (atoms vs ds) = ds.map .fz
  | [], [], _ => rfl
  | v :: vs, d :: ds, ⟨_, h⟩ => congrArg (SV.fz d :: ·) (ers_atoms h)
  | [], _ :: _, h => h.elim
  | _ :: _, [], h => h.elim
theorem cells_atoms : ∀ (vs : List V) (ds : List D), cellsL (atoms vs ds) = []
  | [], _ => rfl
  | _ :: _, [] => rfl
  | v :: vs, d :: ds => cells_atoms vs ds
theorem oks_atoms : ∀ {vs : List V} {ds : List D}, Reps K mg F vs ds → Oks K mg F (atoms vs ds)
  | [], [], _ => trivial
  | v :: vs, d :: ds, ⟨h1, h⟩ => ⟨h1, oks_atoms h⟩
  | [], _ :: _, h => h.elim
  | _ :: _, [], h => h.elim
theorem Good.atoms {vs : List V} {ds : List D} (g : Good K mg F H us) (h : Reps K mg F vs ds) : Good K mg F H (atoms vs ds ++ us) :=
  ⟨fun c hc => g.at_ c (by rw [cellsL_append, cells_atoms] at hc; exact hc), Oks.append.mpr ⟨oks_atoms h, g.ok⟩, by rw [cellsL_append, cells_atoms]; exact g.nd⟩
/-- a new list of data -/
theorem Cf.newL {p : Addr} {vs : List V} {ds : List D} (c : Cf K mg pv F H σ e as held) (h : Reps K mg F vs ds) (hp : H p = none) :
    ∃ t, t.val = .ref p ∧ er t = .ol (ds.map .fz) ∧ Cf K mg pv F (upd H p (.lst vs)) σ e as ([t] ++ held) := by
  refine ⟨.ol p (VF.atoms vs ds), rfl, ?_, same_own c.s (c.s.free hp), c.r, ?_⟩
  · show SV.ol (ers (VF.atoms vs ds)) = _
    rw [ers_atoms h]
  · have g := (c.g.atoms h).new c.s hp
    rw [vals_atoms h] at g
    exact g.perm (List.perm_middle (l₁ := opts as) (l₂ := held)).symm
theorem se_lst {ta : TA} {ma : M (List RV)} (ha : SA K mg E ta ma) : SE K mg E (tLst ta) (dLst ma) := by
  intro pv F H σ e as held Q c w
  refine ha pv F H σ e as held _ c (WA.bindA (W := WE K mg pv F held σ Q E) (fun z => z) w (fun _ _ z => z) fun rs e1 vs F1 H1 as1 tr1 s1 c1 rr1 w1 => ?_)
  have w2 : WE K mg pv F held σ Q E (match frzRs rs e1 with
    | some (ds, e') => if ds.length ≤ sizeLine then .ok (.own (.ol (ds.map .fz))) e' else .st
    | none => .st) := w1
  cases q : frzRs rs e1 with
  | none => rw [q] at w2; exact w2.elim
  | some pr =>
    obtain ⟨ds, e2⟩ := pr
    rw [q] at w2
    obtain ⟨F2, as2, s2, c2, rps⟩ := c1.frzRs rr1 q
    by_cases hz : ds.length ≤ sizeLine
    · simp only [if_pos hz] at w2
      refine ⟨by rw [rps.length]; exact hz, fun p hp => ?_⟩
      obtain ⟨t, e1, e2', c3⟩ := c2.newL rps hp
      exact w2 (.ref p) F2 _ as2 [t] (s1.trans s2) c3 ⟨t, rfl, e1, e2'⟩
    · simp only [if_neg hz] at w2; exact w2.elim
/-- a tuple: data at once -/
def dTup (a : M (List RV)) : M RV := a.bind fun rs e => match frzRs rs e with
  | some (ds, e') => if ds.length ≤ sizeLine then .ok (.fz (.tup ds)) e' else .st
  | none => .st
theorem Cf.newT {p : Addr} {vs : List V} {ds : List D} (c : Cf K mg pv F H σ e as held) (h : Reps K mg F vs ds) (hp : H p = none) :
    ∃ F', Same F F' ∧ Cf K mg pv F' (upd H p (.tup vs)) σ e as ([.fz (.ref p) (.tup ds)] ++ held) := by
  have sb := same_both (o := .tup vs) c.s hp
  refine ⟨upd F p (.tup vs), sb.1, Cf.fz ⟨sb.2, c.r, c.g.newF c.s hp⟩ ⟨p, vs, rfl, SqT.of upd_same, Reps.same sb.1 h⟩⟩
theorem se_tup {ta : TA} {ma : M (List RV)} (ha : SA K mg E ta ma) : SE K mg E (tTup ta) (dTup ma) := by
  intro pv F H σ e as held Q c w
  refine ha pv F H σ e as held _ c (WA.bindA (W := WE K mg pv F held σ Q E) (fun z => z) w (fun _ _ z => z) fun rs e1 vs F1 H1 as1 tr1 s1 c1 rr1 w1 => ?_)
  have w2 : WE K mg pv F held σ Q E (match frzRs rs e1 with
    | some (ds, e') => if ds.length ≤ sizeLine then .ok (.fz (.tup ds)) e' else .st
    | none => .st) := w1
  cases q : frzRs rs e1 with
  | none => rw [q] at w2; exact w2.elim
  | some pr =>
    obtain ⟨ds, e2⟩ := pr
    rw [q] at w2
    obtain ⟨F2, as2, s2, c2, rps⟩ := c1.frzRs rr1 q
    by_cases hz : ds.length ≤ sizeLine
    · simp only [if_pos hz] at w2
      refine ⟨by rw [rps.length]; exact hz, fun p hp => ?_⟩
      obtain ⟨F3, s3, c3⟩ := c2.newT rps hp
      exact w2 (.ref p) F3 _ as2 _ ((s1.trans s2).trans s3) c3 rfl
    · simp only [if_neg hz] at w2; exact w2.elim
/-! ### xs[i] -/
def kid (xs : List SV) (i : Int) : Option D := match atI xs i with
  | some (.fz d) => some d
  | _ => none
def itemD (d : D) (i : Int) : Option D := match d with
  | .lst ds => atI ds i
  | .tup ds => atI ds i
  | .scr ns => (atI ns i).map .int
  | .str z => if z.length ≤ sizeLine then (atI z.cps.toList i).map fun c => .str ⟨#[c]⟩ else none
  | _ => none
def itemS (s : SV) (i : Int) : Option D := match s with
  | .fz d => itemD d i
  | .ol xs => kid xs i
  | _ => none
def itemR (e : Env) (r : RV) (i : Int) : Option D := match r with
  | .fz d => itemD d i
  | .own s => itemS s i
  | .var j => match e.sl[j]? with
    | some (some s) => itemS s i
    | _ => none
def dIx (a b : M RV) : M RV := a.bind fun r => b.bind fun q e => match view e q with
  | some (.int i) => (match itemR e r i with
    | some d => .ok (.fz d) e
    | none => .st)
  | _ => .st
theorem atI_map {α β : Type} (f : α → β) (xs : List α) (i : Int) : atI (xs.map f) i = (atI xs i).map f := by
  unfold atI
  rw [List.length_map]
  cases ixN xs.length i with
  | none => rfl
  | some j => show (xs.map f)[j]? = _; rw [List.getElem?_map]; rfl
theorem Reps.at {vs : List V} {ds : List D} {i : Int} {d : D} (h : Reps K mg F vs ds) (q : atI ds i = some d) : ∃ v, atI vs i = some v ∧ Rep K mg F v d := by
  unfold atI at q ⊢
  rw [h.length]
  cases z : ixN ds.length i with
  | none => rw [z] at q; cases q
  | some j => rw [z] at q; exact h.get q
theorem item_data {v : V} {d x : D} {i : Int} (s : Same F H) (h : Rep K mg F v d) (q : itemD d i = some x) : ∃ y, Rep K mg F y x ∧ ∀ Q : VK, Q y H → rIx K v (.int i) H Q := by
  cases d with
  | lst ds =>
    obtain ⟨p, vs, e, h1, h2⟩ := h
    subst e
    obtain ⟨y, hy, ry⟩ := h2.at q
    exact ⟨y, ry, fun Q k => .inl ⟨p, vs, i, y, rfl, rfl, SqL.of (s _ _ h1), hy, k⟩⟩
  | tup ds =>
    obtain ⟨p, vs, e, h1, h2⟩ := h
    subst e
    obtain ⟨y, hy, ry⟩ := h2.at q
    exact ⟨y, ry, fun Q k => .inr (.inl ⟨p, vs, i, y, rfl, rfl, SqT_same s h1, hy, k⟩)⟩
  | scr ns =>
    obtain ⟨p, e, h1⟩ := h
    subst e
    have q' : (atI ns i).map D.int = some x := q
    cases z : atI ns i with
    | none => rw [z] at q'; cases q'
    | some n =>
      rw [z] at q'
      cases q'
      exact ⟨.int n, rfl, fun Q k => .inl ⟨p, _, i, .int n, rfl, rfl, s.seq h1, by rw [atI_map, z]; rfl, k⟩⟩
  | str z =>
    have e : v = .str z := h
    subst e
    have q' : (if z.length ≤ sizeLine then (atI z.cps.toList i).map (fun c => D.str ⟨#[c]⟩) else none) = some x := q
    by_cases hz : z.length ≤ sizeLine
    · rw [if_pos hz] at q'
      cases w : atI z.cps.toList i with
      | none => rw [w] at q'; cases q'
      | some c =>
        rw [w] at q'
        cases q'
        exact ⟨.str ⟨#[c]⟩, rfl, fun Q k => .inr (.inr ⟨z, i, c, rfl, rfl, hz, w, k⟩)⟩
    · rw [if_neg hz] at q'; cases q'
  | _ => cases q
theorem item_tree {t : AT} {x : D} {i : Int} (g : Good K mg F H us) (hm : t ∈ us) (s : Same F H) (q : itemS (er t) i = some x) : ∃ y, Rep K mg F y x ∧ ∀ Q : VK, Q y H → rIx K t.val (.int i) H Q := by
  have ok := Oks.mem.mp g.ok t hm
  cases t with
  | fz v d => exact item_data s ok q
  | ol p xs =>
    have hc : H p = some (.lst (vals xs)) := (g.at_ (p, .lst (vals xs)) (by rw [cellsL_eq]; exact List.mem_flatMap.mpr ⟨_, hm, List.mem_cons_self⟩)).1
    have q' : kid (ers xs) i = some x := q
    unfold kid at q'
    rw [ers_eq, atI_map] at q'
    cases z : atI xs i with
    | none => rw [z] at q'; cases q'
    | some u =>
      rw [z] at q'
      cases u with
      | fz v d =>
        have ed : d = x := Option.some.inj q'
        subst ed
        have hu : AT.fz v d ∈ xs := by
          unfold atI at z
          cases w : ixN xs.length i with
          | none => rw [w] at z; cases z
          | some j => rw [w] at z; exact List.mem_of_getElem? z
        have oku : Rep K mg F v d := Oks.mem.mp (show Oks K mg F xs from ok) _ hu
        refine ⟨v, oku, fun Q k => .inl ⟨p, vals xs, i, v, rfl, rfl, SqL.of hc, ?_, k⟩⟩
        show atI (xs.map AT.val) i = some v
        rw [atI_map, z]
        rfl
      | ol _ _ => cases q'
      | oo _ _ _ _ _ _ => cases q'
      | od _ _ _ => cases q'
  | oo _ _ _ _ _ _ => cases q
  | od _ _ _ => cases q
theorem Cf.item {v : V} {r : RV} {x : D} {i : Int} (c : Cf K mg pv F H σ e as held) (h : RR σ v r tr) (hm : ∀ t ∈ tr, t ∈ held) (q : itemR e r i = some x) : ∃ y, Rep K mg F y x ∧ ∀ Q : VK, Q y H → rIx K v (.int i) H Q := by
  cases r with
  | fz d =>
    have e1 : tr = [.fz v d] := h
    subst e1
    exact item_tree (t := .fz v d) c.g (List.mem_append_right _ (hm _ List.mem_cons_self)) c.s q
  | own s =>
    obtain ⟨t, e1, e2, e3⟩ := h
    subst e1 e2 e3
    exact item_tree c.g (List.mem_append_right _ (hm _ List.mem_cons_self)) c.s q
  | var j =>
    obtain ⟨_, hv⟩ := h
    have q' : (match e.sl[j]? with | some (some s) => itemS s i | _ => none) = some x := q
    cases z : e.sl[j]? with
    | none => rw [z] at q'; cases q'
    | some o =>
      cases o with
      | none => rw [z] at q'; cases q'
      | some s =>
        rw [z] at q'
        obtain ⟨t, ht, et⟩ := c.r.slotOf z
        subst et
        have hv2 := c.r.at_ j t ht
        rw [hv] at hv2
        have ev : v = t.val := by simpa using hv2
        subst ev
        exact item_tree c.g (List.mem_append_left _ (mem_opts ht)) c.s q'
theorem se_ix {ta tb : TE} {ma mb : M RV} (ha : SE K mg E ta ma) (hb : SE K mg E tb mb) : SE K mg E (tOp (rIx K) ta tb) (dIx ma mb) := by
  intro pv F H σ e as held Q c w
  refine ha pv F H σ e as held _ c (WE.bindE (W := WE K mg pv F held σ Q E) (fun z => z) w (fun _ _ z => z) fun r1 e1 v1 F1 H1 as1 tr1 s1 c1 rr1 w1 => ?_)
  refine hb pv F1 H1 σ e1 as1 (tr1 ++ held) _ c1 (WE.bindE (W := WE K mg pv F held σ Q E) (fun z => z) w1 (fun _ _ z => (WX.mono s1 z).drop) fun r2 e2 v2 F2 H2 as2 tr2 s2 c2 rr2 w2 => ?_)
  have w3 : WE K mg pv F held σ Q E (match view e2 r2 with
    | some (.int i) => (match itemR e2 r1 i with
      | some d => .ok (.fz d) e2
      | none => .st)
    | _ => .st) := w2
  cases q2 : view e2 r2 with
  | none => rw [q2] at w3; exact w3.elim
  | some y =>
    have p2 := c2.seen rr2 (fun t ht => List.mem_append_left _ ht) q2
    rw [q2] at w3
    cases y with
    | int i =>
      have ev : v2 = .int i := p2
      subst ev
      simp only at w3
      cases q3 : itemR e2 r1 i with
      | none => rw [q3] at w3; exact w3.elim
      | some d =>
        rw [q3] at w3
        obtain ⟨y, ry, k⟩ := c2.item rr1 (fun t ht => List.mem_append_right _ (List.mem_append_left _ ht)) q3
        exact k Q (w3 y F2 H2 as2 _ (s1.trans s2) (c2.drop.drop.fz ry) rfl)
    | _ => exact w3.elim
end
end VF

set_option maxRecDepth 100000
set_option maxHeartbeats 4000000
/-! Lists changed in place; calls; bodies. -/
namespace VF
set_option autoImplicit false
open PySem PySem.Spec PyProof.Rows L2
open AT (cells cellsL er ers)
section
variable {K : PySem.W.Frag} {mg : Str → Option Value} {pv : List (Nat × V)} {F F' H H' : Hp} {σ : L2.St} {e e' : Env} {as as' : List (Option AT)} {held tr ts us : List AT} {E : XS}

theorem pswap {α : Type} (a b c : List α) : (a ++ (b ++ c)).Perm (b ++ (a ++ c)) := by
  rw [← List.append_assoc, ← List.append_assoc]
  exact List.perm_append_comm.append_right c
theorem er_ol {t : AT} {xs : List SV} (h : er t = .ol xs) : ∃ p ys, t = .ol p ys ∧ ers ys = xs := by
  cases t with
  | ol p ys => exact ⟨p, ys, rfl, by simpa [er] using h⟩
  | fz _ _ => simp [er] at h
  | oo _ _ _ _ _ _ => simp [er] at h
  | od _ _ _ => simp [er] at h
/-- the name in slot i holds a list of one's own -/
theorem Cf.ownL {i : Nat} {xs : List SV} (c : Cf K mg pv F H σ e as held) (z : e.sl[i]? = some (some (.ol xs))) :
    ∃ p ys, as[i]? = some (some (.ol p ys)) ∧ ers ys = xs ∧ σ[i]? = some (some (.ref p)) ∧ H p = some (.lst (vals ys)) := by
  obtain ⟨t, ht, et⟩ := c.r.slotOf z
  obtain ⟨p, ys, rfl, ey⟩ := er_ol et
  exact ⟨p, ys, ht, ey, c.r.at_ i _ ht, (c.take ht).cell.1⟩
/-- its items are changed: the new ones are of the old ones and of what is held -/
theorem Cf.relist {i : Nat} {p : Addr} {xs ys zs junk : List AT} (c : Cf K mg pv F H σ e as us) (h : as[i]? = some (some (.ol p xs))) (pm : (xs ++ us).Perm (junk ++ (ys ++ zs))) :
    Cf K mg pv F (upd H p (.lst (vals ys))) σ (e.setS i (.ol (ers ys))) (as.set i (some (.ol p ys))) zs := by
  have g := c.take h
  have g2 : Good K mg F (upd H p (.lst (vals ys))) (.ol p ys :: (opts (as.set i none) ++ zs)) := by
    refine g.relist (junk := junk) ?_
    exact (pswap _ _ _).trans ((pm.append_left _).trans ((pswap _ _ _).trans (List.Perm.append_left _ (pswap _ _ _))))
  exact Cf.put (t' := .ol p ys) c.r h (same_own c.s g.cell.2) g2 rfl
theorem Cf.fzs {v : V} {d : D} (c : Cf K mg pv F H σ e as held) (r : Rep K mg F v d) : Cf K mg pv F H σ e as (.fz v d :: held) := c.fz r

/-! ### x.append(e), x.pop(i), x.pop() -/
def dApp (i : Nat) (a : M RV) : M RV := fun e0 => match e0.sl[i]? with
  | some (some (.ol _)) => (a e0).bind fun r e => match frzR r e with
    | some (d, e1) => (match e1.sl[i]? with
      | some (some (.ol xs)) => if xs.length < sizeLine then .ok (.fz .non) (e1.setS i (.ol (xs ++ [.fz d]))) else .st
      | _ => .st)
    | none => .st
  | _ => .st
theorem vals_snoc (ys : List AT) (v : V) (d : D) : vals (ys ++ [.fz v d]) = vals ys ++ [v] := by
  unfold vals; rw [List.map_append]; rfl
theorem ers_snoc (ys : List AT) (v : V) (d : D) : ers (ys ++ [.fz v d]) = ers ys ++ [.fz d] := by
  rw [ers_eq, ers_eq, List.map_append]; rfl
theorem se_app {i : Nat} {ta : TE} {ma : M RV} (ha : SE K mg E ta ma) : SE K mg E (tBM K "list" rAppend (tVar i) (tCons ta tNil)) (dApp i ma) := by
  intro pv F H σ e as held Q c w
  unfold dApp at w
  cases z : e.sl[i]? with
  | none => simp only [z] at w; exact w.elim
  | some o =>
    cases o with
    | none => simp only [z] at w; exact w.elim
    | some s =>
      cases s with
      | ol xs0 =>
        simp only [z] at w
        obtain ⟨p, ys0, h0, _, hv, hp⟩ := c.ownL z
        refine ⟨_, hv, .inl ⟨rfl, _, SqL.of hp⟩, ?_⟩
        refine ha pv F H σ e as held _ c (WE.bindE (W := WE K mg pv F held σ Q E) (fun z => z) w (fun _ _ z => z) fun r1 e1 v1 F1 H1 as1 tr1 s1 c1 rr1 w1 => ?_)
        cases q : frzR r1 e1 with
        | none => simp only [q] at w1; exact w1.elim
        | some pr =>
          obtain ⟨d, e2⟩ := pr
          simp only [q] at w1
          obtain ⟨F2, as2, s2, c2, rp⟩ := c1.frzR rr1 q
          cases z2 : e2.sl[i]? with
          | none => simp only [z2] at w1; exact w1.elim
          | some o =>
            cases o with
            | none => simp only [z2] at w1; exact w1.elim
            | some s =>
              cases s with
              | ol xs =>
                simp only [z2] at w1
                by_cases hz : xs.length < sizeLine
                · rw [if_pos hz] at w1
                  obtain ⟨p2, ys, h2, ey, hv2, hp2⟩ := c2.ownL z2
                  have ep : p2 = p := by rw [hv] at hv2; simpa using hv2.symm
                  subst ep
                  have ly : (vals ys).length = xs.length := by rw [← ey, ers_length]; exact List.length_map _
                  refine ⟨p2, vals ys, v1, rfl, rfl, hp2, by rw [ly]; exact hz, ?_⟩
                  have c3 := (c2.fzs rp).relist (ys := ys ++ [.fz v1 d]) (zs := held) (junk := []) h2 (by simp)
                  rw [vals_snoc, ers_snoc, ey] at c3
                  exact w1 .non F2 _ _ _ (s1.trans s2) (c3.fz (show Rep K mg F2 .non .non from rfl)) rfl
                · rw [if_neg hz] at w1; exact w1.elim
              | _ => simp only [z2] at w1; exact w1.elim
      | _ => simp only [z] at w; exact w.elim
/-- a tree given out: data as it is, else a tree of one's own -/
def svR : SV → RV
  | .fz d => .fz d
  | .ol xs => .own (.ol xs)
  | .oo c ns xs => .own (.oo c ns xs)
  | .od ks xs => .own (.od ks xs)
theorem rr_svR (t : AT) : RR σ t.val (svR (er t)) [t] := by
  cases t with
  | fz v d => exact rfl
  | ol p xs => exact ⟨_, rfl, rfl, rfl⟩
  | oo p C dx c ns xs => exact ⟨_, rfl, rfl, rfl⟩
  | od p ks xs => exact ⟨_, rfl, rfl, rfl⟩
def dPopAt (i : Nat) (a : M RV) : M RV := fun e0 => match e0.sl[i]? with
  | some (some (.ol _)) => (a e0).bind fun r e => match view e r with
    | some (.int n) => (match e.sl[i]? with
      | some (some (.ol xs)) => if -(2 ^ 63) ≤ n ∧ n < 2 ^ 63 then (match seqIndex? n xs.length with
        | some k => (match xs[k]? with
          | some s => .ok (svR s) (e.setS i (.ol (xs.eraseIdx k)))
          | none => .st)
        | none => .st) else .st
      | _ => .st)
    | _ => .st
  | _ => .st
theorem perm_erase {α : Type} : ∀ {xs : List α} {k : Nat} {x : α}, xs[k]? = some x → xs.Perm (x :: xs.eraseIdx k)
  | a :: xs, 0, x, h => by
    have e : a = x := by simpa using h
    subst e
    exact List.Perm.refl _
  | a :: xs, k + 1, x, h => ((perm_erase (xs := xs) (k := k) (x := x) (by simpa using h)).cons a).trans (List.Perm.swap _ _ _)
theorem map_erase {α β : Type} (f : α → β) : ∀ (xs : List α) (k : Nat), (xs.eraseIdx k).map f = (xs.map f).eraseIdx k
  | [], _ => rfl
  | _ :: _, 0 => rfl
  | x :: xs, k + 1 => congrArg (f x :: ·) (map_erase f xs k)
theorem se_popAt {i : Nat} {ta : TE} {ma : M RV} (ha : SE K mg E ta ma) : SE K mg E (tBM K "list" rPopAt (tVar i) (tCons ta tNil)) (dPopAt i ma) := by
  intro pv F H σ e as held Q c w
  unfold dPopAt at w
  cases z : e.sl[i]? with
  | none => simp only [z] at w; exact w.elim
  | some o =>
    cases o with
    | none => simp only [z] at w; exact w.elim
    | some s =>
      cases s with
      | ol xs0 =>
        simp only [z] at w
        obtain ⟨p, ys0, h0, _, hv, hp⟩ := c.ownL z
        refine ⟨_, hv, .inl ⟨rfl, _, SqL.of hp⟩, ?_⟩
        refine ha pv F H σ e as held _ c (WE.bindE (W := WE K mg pv F held σ Q E) (fun z => z) w (fun _ _ z => z) fun r1 e1 v1 F1 H1 as1 tr1 s1 c1 rr1 w1 => ?_)
        cases q : view e1 r1 with
        | none => simp only [q] at w1; exact w1.elim
        | some x =>
          have p1 := c1.seen rr1 (fun t ht => List.mem_append_left _ ht) q
          cases x with
          | int n =>
            have ev : v1 = .int n := p1
            subst ev
            simp only [q] at w1
            have c2 := c1.drop
            cases z2 : e1.sl[i]? with
            | none => simp only [z2] at w1; exact w1.elim
            | some o =>
              cases o with
              | none => simp only [z2] at w1; exact w1.elim
              | some s =>
                cases s with
                | ol xs =>
                  simp only [z2] at w1
                  by_cases hz : -(2 ^ 63) ≤ n ∧ n < 2 ^ 63
                  · rw [if_pos hz] at w1
                    obtain ⟨p2, ys, h2, ey, hv2, hp2⟩ := c2.ownL z2
                    have ep : p2 = p := by rw [hv] at hv2; simpa using hv2.symm
                    subst ep
                    have ly : (vals ys).length = xs.length := by rw [← ey, ers_length]; exact List.length_map _
                    cases q2 : seqIndex? n xs.length with
                    | none => simp only [q2] at w1; exact w1.elim
                    | some k =>
                      simp only [q2] at w1
                      cases q3 : xs[k]? with
                      | none => simp only [q3] at w1; exact w1.elim
                      | some s =>
                        simp only [q3] at w1
                        rw [← ey, ers_eq, List.getElem?_map] at q3
                        cases q4 : ys[k]? with
                        | none => rw [q4] at q3; cases q3
                        | some t =>
                          rw [q4] at q3
                          have es : er t = s := by simpa using q3
                          subst es
                          have gv : (vals ys)[k]? = some t.val := by unfold vals; rw [List.getElem?_map, q4]; rfl
                          refine ⟨p2, vals ys, n, k, t.val, rfl, rfl, hp2, hz.1, hz.2, by rw [ly]; exact q2, gv, ?_⟩
                          have c3 := c2.relist (ys := ys.eraseIdx k) (zs := t :: held) (junk := []) h2 (by
                            refine ((perm_erase q4).append_right held).trans ?_
                            exact (List.perm_middle (l₁ := ys.eraseIdx k) (l₂ := held) (a := t)).symm)
                          have e1' : vals (ys.eraseIdx k) = (vals ys).eraseIdx k := map_erase _ _ _
                          have e2' : ers (ys.eraseIdx k) = xs.eraseIdx k := by rw [ers_eq, map_erase, ← ers_eq, ey]
                          rw [e1', e2'] at c3
                          exact w1 t.val F1 _ _ [t] s1 c3 (rr_svR t)
                  · rw [if_neg hz] at w1; exact w1.elim
                | _ => simp only [z2] at w1; exact w1.elim
          | _ => simp only [q] at w1; exact w1.elim
      | _ => simp only [z] at w; exact w.elim
/-! ### x[i] = e, x[i] op= e -/
def dSetIx (j : Nat) (b a : M RV) : M Fl := a.bind fun r e0 => match e0.sl[j]? with
  | some (some (.ol _)) => (b e0).bind fun q e => match view e q with
    | some (.int k) => (match frzR r e with
      | some (d, e1) => (match e1.sl[j]? with
        | some (some (.ol xs)) => (match ixN xs.length k with
          | some n => .ok .nx (e1.setS j (.ol (xs.set n (.fz d))))
          | none => .st)
        | _ => .st)
      | none => .st)
    | _ => .st
  | _ => .st
theorem perm_set {α : Type} {y : α} : ∀ {xs : List α} {k : Nat} {x : α}, xs[k]? = some x → (y :: xs).Perm (x :: xs.set k y)
  | a :: xs, 0, x, h => by
    have e : a = x := by simpa using h
    subst e
    exact List.Perm.swap _ _ _
  | a :: xs, k + 1, x, h => by
    have ih := perm_set (y := y) (xs := xs) (k := k) (x := x) (by simpa using h)
    exact ((List.Perm.swap _ _ _).trans (ih.cons a)).trans (List.Perm.swap _ _ _)
theorem Cf.setL {j k : Nat} {p : Addr} {ys : List AT} {v : V} {d : D} (c : Cf K mg pv F H σ e as held) (h : as[j]? = some (some (.ol p ys))) (rp : Rep K mg F v d) (hk : k < ys.length) :
    Cf K mg pv F (upd H p (.lst ((vals ys).set k v))) σ (e.setS j (.ol ((ers ys).set k (.fz d)))) (as.set j (some (.ol p (ys.set k (.fz v d))))) held := by
  have gk : ys[k]? = some ys[k] := List.getElem?_eq_getElem hk
  have c3 := (c.fzs rp).relist (ys := ys.set k (.fz v d)) (zs := held) (junk := [ys[k]]) h (by
    refine (List.perm_middle (l₁ := ys) (l₂ := held) (a := AT.fz v d)).trans ?_
    exact (perm_set (y := AT.fz v d) gk).append_right held)
  have e1 : vals (ys.set k (.fz v d)) = (vals ys).set k v := by unfold vals; rw [List.map_set]; rfl
  have e2 : ers (ys.set k (.fz v d)) = (ers ys).set k (.fz d) := by rw [ers_eq, ers_eq, List.map_set]; rfl
  rw [e1, e2] at c3
  exact c3
theorem ixN_lt {n : Nat} {i : Int} {j : Nat} (h : ixN n i = some j) : j < n := (ixN_seq h).2.1
theorem ss_setIx {j : Nat} {ta tb : TE} {ma mb : M RV} (hb : SE K mg E tb mb) (ha : SE K mg E ta ma) : SS K mg E (tAsg ta (gSub (tVar j) tb rSetL)) (dSetIx j mb ma) := by
  intro pv F H σ e as held D c w
  refine ha pv F H σ e as held _ c (WE.bindE (W := WS K mg pv F held E D) (fun z => z) w (fun _ _ z => z) fun r1 e1 v1 F1 H1 as1 tr1 s1 c1 rr1 w1 => ?_)
  cases z : e1.sl[j]? with
  | none => simp only [z] at w1; exact w1.elim
  | some o =>
    cases o with
    | none => simp only [z] at w1; exact w1.elim
    | some s =>
      cases s with
      | ol xs0 =>
        simp only [z] at w1
        obtain ⟨p, ys0, h0, _, hv, hp⟩ := c1.ownL z
        refine ⟨_, hv, ?_⟩
        refine hb pv F1 H1 σ e1 as1 (tr1 ++ held) _ c1 (WE.bindE (W := WS K mg pv F held E D) (fun z => z) w1 (fun _ _ z => (WX.mono s1 z).drop) fun r2 e2 v2 F2 H2 as2 tr2 s2 c2 rr2 w2 => ?_)
        cases q : view e2 r2 with
        | none => simp only [q] at w2; exact w2.elim
        | some x =>
          have p1 := c2.seen rr2 (fun t ht => List.mem_append_left _ ht) q
          cases x with
          | int k =>
            have ev : v2 = .int k := p1
            subst ev
            simp only [q] at w2
            cases q2 : frzR r1 e2 with
            | none => simp only [q2] at w2; exact w2.elim
            | some pr =>
              obtain ⟨d, e3⟩ := pr
              simp only [q2] at w2
              obtain ⟨F3, as3, s3, c3, rp⟩ := (c2.drop).frzR rr1 q2
              cases z2 : e3.sl[j]? with
              | none => simp only [z2] at w2; exact w2.elim
              | some o =>
                cases o with
                | none => simp only [z2] at w2; exact w2.elim
                | some s =>
                  cases s with
                  | ol xs =>
                    simp only [z2] at w2
                    obtain ⟨p2, ys, h2, ey, hv2, hp2⟩ := c3.ownL z2
                    have ep : p2 = p := by rw [hv] at hv2; simpa using hv2.symm
                    subst ep
                    have ly : (vals ys).length = xs.length := by rw [← ey, ers_length]; exact List.length_map _
                    cases q3 : ixN xs.length k with
                    | none => simp only [q3] at w2; exact w2.elim
                    | some n =>
                      simp only [q3] at w2
                      refine ⟨p2, vals ys, k, n, rfl, rfl, hp2, by rw [ly]; exact q3, ?_⟩
                      have hn := ixN_lt q3
                      have c4 := c3.setL h2 rp (show n < ys.length by rw [← ey, ers_length] at hn; exact hn)
                      rw [ey] at c4
                      exact w2 σ F3 _ _ ((s1.trans s2).trans s3) c4
                  | _ => simp only [z2] at w2; exact w2.elim
          | _ => simp only [q] at w2; exact w2.elim
      | _ => simp only [z] at w1; exact w1.elim
/-- x[i], an item of a list, where it is read to be changed -/
def rGetL (K : PySem.W.Frag) : V → V → Hp → VK → Prop := fun x y H Q => ∃ p xs i v, x = .ref p ∧ y = .int i ∧ SqL K H p xs ∧ 0 ≤ i ∧ atI xs i = some v ∧ Q v H
theorem get_list {X : Cx} : PGet X (rGetL X.K) := by
  intro pins s σ H x y v u Q I rx ry h
  obtain ⟨p, xs, i, z, rfl, rfl, hq, h0, he, q⟩ := h
  cases rx
  obtain ⟨t, rfl⟩ := ry
  obtain ⟨its, r, pl, hz⟩ := I.list hq
  obtain ⟨j, h1, h2, h3, h4, h5⟩ := atI_get he
  obtain ⟨w, ew, rw'⟩ := r.get h2
  have hl := r.length
  have hn := line63
  have fin : EP X pins σ Q w s := ⟨z, H, I, rw', q⟩
  have hj : i.toNat = j := by
    rw [seqIndex_of h0 h5] at h1
    exact Option.some.inj h1
  exact wpAny_mono (wpAny_getItem_list (Q := fun r s' => r = w ∧ EP X pins σ Q r s') pl.isList h0 (by omega) (by rw [hj]; simpa using ew) ⟨rfl, fin⟩) (fun _ _ h => h.2) fun _ _ h => h
end
end VF

set_option maxRecDepth 100000
set_option maxHeartbeats 4000000
/-! Augmented stores; calls; bodies. -/
namespace VF
set_option autoImplicit false
open PySem PySem.Spec PyProof.Rows L2
open AT (cells cellsL er ers)
section
variable {K : PySem.W.Frag} {mg : Str → Option Value} {pv : List (Nat × V)} {F F' H H' : Hp} {σ : L2.St} {e e' : Env} {as as' : List (Option AT)} {held tr ts us : List AT} {E : XS}
/-! ### x op= e, x[i] op= e, of ints -/
def dAug (i : Nat) (f : Int → Int → Int) (a : M RV) : M Fl := fun e0 => match e0.sl[i]? with
  | some (some (.fz (.int x))) => (a e0).bind fun r e => match view e r with
    | some (.int y) => (match putR i (.fz (.int (f x y))) e with
      | some e' => .ok .nx e'
      | none => .st)
    | _ => .st
  | _ => .st
theorem slot_int {i : Nat} {x : Int} (c : Cf K mg pv F H σ e as held) (z : e.sl[i]? = some (some (.fz (.int x)))) : σ[i]? = some (some (.int x)) := by
  obtain ⟨t, ht, et⟩ := c.r.slotOf z
  have hv := c.r.at_ i t ht
  cases t with
  | fz v d =>
    have ed : d = .int x := by simpa [er] using et
    subst ed
    have rp : Rep K mg F v (.int x) := Oks.mem.mp c.g.ok _ (List.mem_append_left _ (mem_opts ht))
    have ev : v = .int x := rp
    subst ev
    exact hv
  | ol _ _ => simp [er] at et
  | oo _ _ _ _ _ _ => simp [er] at et
  | od _ _ _ => simp [er] at et
theorem ss_aug {i : Nat} {f : Int → Int → Int} {ta : TE} {ma : M RV} (ha : SE K mg E ta ma) : SS K mg E (tAug i ta (ipI f)) (dAug i f ma) := by
  intro pv F H σ e as held D c w
  unfold dAug at w
  cases z : e.sl[i]? with
  | none => simp only [z] at w; exact w.elim
  | some o =>
    cases o with
    | none => simp only [z] at w; exact w.elim
    | some s =>
      cases s with
      | fz d =>
        cases d with
        | int x =>
          simp only [z] at w
          refine ⟨.int x, slot_int c z, ?_⟩
          refine ha pv F H σ e as held _ c (WE.bindE (W := WS K mg pv F held E D) (fun z => z) w (fun _ _ z => z) fun r1 e1 v1 F1 H1 as1 tr1 s1 c1 rr1 w1 => ?_)
          cases q : view e1 r1 with
          | none => simp only [q] at w1; exact w1.elim
          | some y =>
            have p1 := c1.seen rr1 (fun t ht => List.mem_append_left _ ht) q
            cases y with
            | int y =>
              have ev : v1 = .int y := p1
              subst ev
              simp only [q] at w1
              cases q2 : putR i (.fz (.int (f x y))) e1 with
              | none => simp only [q2] at w1; exact w1.elim
              | some e2 =>
                simp only [q2] at w1
                have c2 : Cf K mg pv F1 H1 σ e1 as1 ([.fz (.int (f x y)) (.int (f x y))] ++ held) := c1.drop.fz (show Rep K mg F1 (.int (f x y)) (.int (f x y)) from rfl)
                obtain ⟨F', as', s', c'⟩ := c2.putR (show RR σ (.int (f x y)) (.fz (.int (f x y))) [.fz (.int (f x y)) (.int (f x y))] from rfl) q2
                exact ⟨x, y, rfl, rfl, w1 _ F' H1 as' (s1.trans s') c'⟩
            | _ => simp only [q] at w1; exact w1.elim
        | _ => simp only [z] at w; exact w.elim
      | _ => simp only [z] at w; exact w.elim
/-- an int of the list in slot j -/
def kidI (e : Env) (j : Nat) (k : Int) : Option Int := match e.sl[j]? with
  | some (some (.ol xs)) => (match kid xs k with
    | some (.int x) => some x
    | _ => none)
  | _ => none
def dAugIx (j : Nat) (b : M RV) (f : Int → Int → Int) (a : M RV) : M Fl := fun e0 => match e0.sl[j]? with
  | some (some (.ol _)) => (b e0).bind fun q e => match view e q with
    | some (.int k) => if 0 ≤ k then (match kidI e j k with
      | some x => (a e).bind fun r e1 => (match view e1 r with
        | some (.int y) => (match e1.sl[j]? with
          | some (some (.ol xs)) => (match ixN xs.length k with
            | some n => .ok .nx (e1.setS j (.ol (xs.set n (.fz (.int (f x y))))))
            | none => .st)
          | _ => .st)
        | _ => .st)
      | _ => .st) else .st
    | _ => .st
  | _ => .st
theorem kidI_ok {j : Nat} {k x : Int} {p : Addr} (c : Cf K mg pv F H σ e as held) (hv : σ[j]? = some (some (.ref p))) (q : kidI e j k = some x) : ∃ xs, SqL K H p xs ∧ atI xs k = some (.int x) := by
  unfold kidI at q
  cases z : e.sl[j]? with
  | none => rw [z] at q; cases q
  | some o =>
    cases o with
    | none => rw [z] at q; cases q
    | some s =>
      cases s with
      | ol xs =>
        rw [z] at q
        obtain ⟨p2, ys, h2, ey, hv2, hp2⟩ := c.ownL z
        have ep : p2 = p := by rw [hv] at hv2; simpa using hv2.symm
        subst ep
        simp only at q
        cases q1 : kid xs k with
        | none => rw [q1] at q; cases q
        | some d =>
          rw [q1] at q
          cases d with
          | int y =>
            have exy : y = x := Option.some.inj q
            subst exy
            unfold kid at q1
            rw [← ey, ers_eq, atI_map] at q1
            cases q2 : atI ys k with
            | none => rw [q2] at q1; cases q1
            | some u =>
              rw [q2] at q1
              cases u with
              | fz v d =>
                have ed : d = .int y := Option.some.inj q1
                subst ed
                have hu : AT.fz v (.int y) ∈ ys := by
                  unfold atI at q2
                  cases w : ixN ys.length k with
                  | none => rw [w] at q2; cases q2
                  | some j => rw [w] at q2; exact List.mem_of_getElem? q2
                have ok : Ok K mg F (.ol p2 ys) := Oks.mem.mp c.g.ok _ (List.mem_append_left _ (mem_opts h2))
                have ev : v = .int y := Oks.mem.mp (show Oks K mg F ys from ok) _ hu
                subst ev
                exact ⟨vals ys, SqL.of hp2, by unfold vals; rw [atI_map, q2]; rfl⟩
              | ol _ _ => cases q1
              | oo _ _ _ _ _ _ => cases q1
              | od _ _ _ => cases q1
          | _ => cases q
      | _ => rw [z] at q; cases q
theorem ss_augIx {j : Nat} {f : Int → Int → Int} {ta tb : TE} {ma mb : M RV} (hb : SE K mg E tb mb) (ha : SE K mg E ta ma) : SS K mg E (tAugS (tVar j) tb ta (rGetL K) (ipI f) rSetL) (dAugIx j mb f ma) := by
  intro pv F H σ e as held D c w
  unfold dAugIx at w
  cases z : e.sl[j]? with
  | none => simp only [z] at w; exact w.elim
  | some o =>
    cases o with
    | none => simp only [z] at w; exact w.elim
    | some s =>
      cases s with
      | ol xs0 =>
        simp only [z] at w
        obtain ⟨p, ys0, h0, _, hv, hp⟩ := c.ownL z
        refine ⟨_, hv, ?_⟩
        refine hb pv F H σ e as held _ c (WE.bindE (W := WS K mg pv F held E D) (fun z => z) w (fun _ _ z => z) fun r2 e2 v2 F2 H2 as2 tr2 s2 c2 rr2 w2 => ?_)
        cases q : view e2 r2 with
        | none => simp only [q] at w2; exact w2.elim
        | some x =>
          have p1 := c2.seen rr2 (fun t ht => List.mem_append_left _ ht) q
          cases x with
          | int k =>
            have ev : v2 = .int k := p1
            subst ev
            simp only [q] at w2
            by_cases hk : 0 ≤ k
            · rw [if_pos hk] at w2
              cases q3 : kidI e2 j k with
              | none => simp only [q3] at w2; exact w2.elim
              | some x =>
                simp only [q3] at w2
                have c2' := c2.drop
                obtain ⟨xs, hx1, hx2⟩ := kidI_ok c2' hv q3
                refine ⟨p, xs, k, .int x, rfl, rfl, hx1, hk, hx2, ?_⟩
                refine ha pv F2 H2 σ e2 as2 held _ c2' (WE.bindE (W := WS K mg pv F held E D) (fun z => z) w2 (fun _ _ z => WX.mono s2 z) fun r3 e3 v3 F3 H3 as3 tr3 s3 c3 rr3 w3 => ?_)
                cases q4 : view e3 r3 with
                | none => simp only [q4] at w3; exact w3.elim
                | some y =>
                  have p3 := c3.seen rr3 (fun t ht => List.mem_append_left _ ht) q4
                  cases y with
                  | int y =>
                    have ev : v3 = .int y := p3
                    subst ev
                    simp only [q4] at w3
                    have c3' := c3.drop
                    cases z2 : e3.sl[j]? with
                    | none => simp only [z2] at w3; exact w3.elim
                    | some o =>
                      cases o with
                      | none => simp only [z2] at w3; exact w3.elim
                      | some s =>
                        cases s with
                        | ol xs2 =>
                          simp only [z2] at w3
                          obtain ⟨p2, ys, h2, ey, hv2, hp2⟩ := c3'.ownL z2
                          have ep : p2 = p := by rw [hv] at hv2; simpa using hv2.symm
                          subst ep
                          have ly : (vals ys).length = xs2.length := by rw [← ey, ers_length]; exact List.length_map _
                          cases q5 : ixN xs2.length k with
                          | none => simp only [q5] at w3; exact w3.elim
                          | some n =>
                            simp only [q5] at w3
                            refine ⟨x, y, rfl, rfl, p2, vals ys, k, n, rfl, rfl, hp2, by rw [ly]; exact q5, ?_⟩
                            have hn := ixN_lt q5
                            have c4 := c3'.setL (v := .int (f x y)) (d := .int (f x y)) h2 rfl (show n < ys.length by rw [← ey, ers_length] at hn; exact hn)
                            rw [ey] at c4
                            exact w3 σ F3 _ _ (s2.trans s3) c4
                        | _ => simp only [z2] at w3; exact w3.elim
                  | _ => simp only [q4] at w3; exact w3.elim
            · rw [if_neg hk] at w2; exact w2.elim
          | _ => simp only [q] at w2; exact w2.elim
      | _ => simp only [z] at w; exact w.elim

/-! ### what a def does: its arguments' trees in, its value's tree and the arguments' trees out -/
inductive FR where
  | st | ok (r : SV) (as : List SV) | ex (x : Exc) (as : List SV)
abbrev Fn := List SV → FR
def spF (K : PySem.W.Frag) (mg : Str → Option Value) (n : Nat) (φ : Fn) : Sp := fun vs H Q E => ∃ (F : Hp) (ts held : List AT), vs = vals ts ∧ ts.length = n ∧ Same F H ∧ Good K mg F H (ts ++ held) ∧ match φ (ers ts) with
  | .st => False
  | .ok r as' => ∀ v F' H' t ts', Same F F' → Same F' H' → t.val = v → er t = r → vals ts' = vs → ers ts' = as' → Good K mg F' H' (t :: (ts' ++ held)) → Q v H'
  | .ex x as' => ∀ cls d F' H' ts', Same F F' → Same F' H' → RX mg H' x cls d → (∀ dd, d = some dd → F dd = none) → vals ts' = vs → ers ts' = as' → Good K mg F' H' (ts' ++ held) → E cls d H'
def Env.clr (e : Env) (i : Nat) : Env := ⟨e.sl.set i none, e.pn⟩
def loadOne (md : Bool) (r : RV) (e : Env) : Option (SV × Env) := match md with
  | false => (match frzR r e with
    | some (d, e1) => some (.fz d, e1)
    | none => none)
  | true => (match r with
    | .var i => (match e.sl[i]? with
      | some (some s) => some (s, e.clr i)
      | _ => none)
    | _ => none)
def load : List Bool → List RV → Env → Option (List SV × Env)
  | [], [], e => some ([], e)
  | md :: mds, r :: rs, e => (match loadOne md r e with
    | some (s, e1) => (match load mds rs e1 with
      | some (ss, e2) => some (s :: ss, e2)
      | none => none)
    | none => none)
  | _, _, _ => none
def isClr (e : Env) (i : Nat) : Bool := match e.sl[i]? with
  | some none => true
  | _ => false
theorem isClr_ok {i : Nat} (h : isClr e i = true) : e.sl[i]? = some none := by
  unfold isClr at h
  cases z : e.sl[i]? with
  | none => rw [z] at h; cases h
  | some o => cases o with
    | none => rfl
    | some s => rw [z] at h; cases h
def unload : List Bool → List RV → List SV → Env → Option Env
  | [], [], [], e => some e
  | false :: mds, _ :: rs, _ :: ss, e => unload mds rs ss e
  | true :: mds, .var i :: rs, s :: ss, e => if isClr e i = true then unload mds rs ss (e.setS i s) else none
  | _, _, _, _ => none
theorem Cf.clr {i : Nat} {t : AT} (c : Cf K mg pv F H σ e as held) (h : as[i]? = some (some t)) : Cf K mg pv F H σ (e.clr i) (as.set i none) ([t] ++ held) := by
  refine ⟨c.s, ⟨?_, by rw [List.length_set]; exact c.r.len, fun j u hj => ?_, c.r.pin⟩, ?_⟩
  · show e.sl.set i none = _
    rw [List.map_set, c.r.sl]; rfl
  · by_cases q : j = i
    · subst q
      have hlt : j < as.length := (List.getElem?_eq_some_iff.mp h).1
      rw [List.getElem?_set_self hlt] at hj
      cases hj
    · rw [List.getElem?_set_ne (Ne.symm q)] at hj
      exact c.r.at_ j u hj
  · exact (c.take h).perm (List.perm_middle (l₁ := opts (as.set i none)) (l₂ := held)).symm
theorem Cf.perm {us' : List AT} (c : Cf K mg pv F H σ e as us) (p : us.Perm us') : Cf K mg pv F H σ e as us' := ⟨c.s, c.r, c.g.perm (p.append_left _)⟩
theorem Cf.loadOne {md : Bool} {v : V} {r : RV} {s : SV} {e' : Env} (c : Cf K mg pv F H σ e as (tr ++ held)) (h : RR σ v r tr) (q : loadOne md r e = some (s, e')) :
    ∃ F' as' t, Same F F' ∧ Cf K mg pv F' H σ e' as' ([t] ++ held) ∧ t.val = v ∧ er t = s := by
  cases md with
  | false =>
    unfold VF.loadOne at q
    cases q1 : VF.frzR r e with
    | none => rw [q1] at q; cases q
    | some p =>
      obtain ⟨d, e1⟩ := p
      rw [q1] at q
      cases q
      obtain ⟨F', as', s1, c1, rp⟩ := c.frzR h q1
      exact ⟨F', as', .fz v d, s1, c1.fz rp, rfl, rfl⟩
  | true =>
    unfold VF.loadOne at q
    cases r with
    | var i =>
      obtain ⟨e1, hv⟩ := h
      subst e1
      cases z : e.sl[i]? with
      | none => simp only [z] at q; cases q
      | some o =>
        cases o with
        | none => simp only [z] at q; cases q
        | some s0 =>
          simp only [z] at q
          cases q
          obtain ⟨t, ht, et⟩ := c.r.slotOf z
          have hv2 := c.r.at_ i t ht
          rw [hv] at hv2
          have ev : v = t.val := by simpa using hv2
          exact ⟨F, _, t, Same.refl _, c.clr ht, ev.symm, et⟩
    | fz _ => cases q
    | own _ => cases q
theorem Cf.load : ∀ {md : List Bool} {rs : List RV} {vs : List V} {ss : List SV} {F : Hp} {e e' : Env} {as : List (Option AT)} {tr held : List AT}, Cf K mg pv F H σ e as (tr ++ held) → RRs σ vs rs tr → load md rs e = some (ss, e') →
    ∃ F' as' ts, Same F F' ∧ Cf K mg pv F' H σ e' as' (ts ++ held) ∧ vals ts = vs ∧ ers ts = ss
  | [], [], [], ss, F, e, e', as, tr, held, c, h, q => by
    have e1 : tr = [] := h
    subst e1
    have q' : some (([] : List SV), e) = some (ss, e') := q
    cases q'
    exact ⟨F, as, [], Same.refl _, c, rfl, rfl⟩
  | md :: mds, r :: rs, v :: vs, ss, F, e, e', as, tr, held, c, ⟨t1, t2, e1, h1, h2⟩, q => by
    subst e1
    have q' : (match VF.loadOne md r e with
      | some (s, e1) => (match VF.load mds rs e1 with
        | some (ss, e2) => some (s :: ss, e2)
        | none => none)
      | none => none) = some (ss, e') := q
    cases q1 : VF.loadOne md r e with
    | none => rw [q1] at q'; cases q'
    | some p =>
      obtain ⟨s, e1⟩ := p
      rw [q1] at q'
      cases q2 : VF.load mds rs e1 with
      | none => simp only [q2] at q'; cases q'
      | some p2 =>
        obtain ⟨ss2, e2⟩ := p2
        simp only [q2] at q'
        cases q'
        have c1 : Cf K mg pv F H σ e as (t1 ++ (t2 ++ held)) := c.perm (by rw [List.append_assoc]; exact pswap _ _ _)
        obtain ⟨F1, as1, t, s1, c2, ev, et⟩ := c1.loadOne h1 q1
        obtain ⟨F2, as2, ts, s2, c3, evs, ets⟩ := Cf.load (held := [t] ++ held) (c2.perm (pswap _ _ _)) h2 q2
        refine ⟨F2, as2, t :: ts, s1.trans s2, c3.perm (pswap ts [t] held), ?_, ?_⟩
        · show t.val :: vals ts = _
          rw [ev, evs]
        · show er t :: ers ts = _
          rw [et, ets]
  | [], _ :: _, _, _, _, _, _, _, _, _, _, _, q => by cases q
  | _ :: _, [], _, _, _, _, _, _, _, _, _, _, q => by cases q
  | _, [], _ :: _, _, _, _, _, _, _, _, _, h, _ => h.elim
  | _, _ :: _, [], _, _, _, _, _, _, _, _, h, _ => h.elim
theorem Cf.unload : ∀ {md : List Bool} {rs : List RV} {vs : List V} {ss : List SV} {e e' : Env} {as : List (Option AT)} {ts tr : List AT}, Cf K mg pv F H σ e as (ts ++ held) → RRs σ vs rs tr → vals ts = vs → ers ts = ss → unload md rs ss e = some e' →
    ∃ as', Cf K mg pv F H σ e' as' held
  | [], [], [], ss, e, e', as, ts, tr, c, h, ev, es, q => by
    cases ts with
    | nil =>
      have : ss = [] := es.symm
      subst this
      have q' : some e = some e' := q
      cases q'
      exact ⟨as, c⟩
    | cons t ts => cases ev
  | false :: mds, r :: rs, v :: vs, ss, e, e', as, ts, tr, c, ⟨t1, t2, e1, h1, h2⟩, ev, es, q => by
    cases ts with
    | nil => cases ev
    | cons t ts =>
      cases ss with
      | nil => cases es
      | cons s ss =>
        injection ev with ev1 ev2
        injection es with es1 es2
        exact Cf.unload (md := mds) (ts := ts) (Cf.drop (tr := [t]) c) h2 ev2 es2 q
  | true :: mds, r :: rs, v :: vs, ss, e, e', as, ts, tr, c, ⟨t1, t2, e1, h1, h2⟩, ev, es, q => by
    cases ts with
    | nil => cases ev
    | cons t ts =>
      cases ss with
      | nil => cases es
      | cons s ss =>
        injection ev with ev1 ev2
        injection es with es1 es2
        cases r with
        | fz _ => cases q
        | own _ => cases q
        | var i =>
          have q' : (if isClr e i = true then VF.unload mds rs ss (e.setS i s) else none) = some e' := q
          by_cases hi' : isClr e i = true
          · rw [if_pos hi'] at q'
            have hi := isClr_ok hi'
            have hv : σ[i]? = some (some v) := h1.2
            have hai : as[i]? = some none := by
              rw [c.r.sl, List.getElem?_map] at hi
              cases z : as[i]? with
              | none => rw [z] at hi; cases hi
              | some o => cases o with
                | none => rfl
                | some u => rw [z] at hi; cases hi
            have hlt : i < as.length := (List.getElem?_eq_some_iff.mp hai).1
            have c1 : Cf K mg pv F H σ (e.setS i s) (as.set i (some t)) (ts ++ held) := by
              refine ⟨c.s, ⟨?_, by rw [List.length_set]; exact c.r.len, fun j u hj => ?_, c.r.pin⟩, ?_⟩
              · show e.sl.set i (some s) = _
                rw [List.map_set, c.r.sl, ← es1]; rfl
              · by_cases z : j = i
                · subst z
                  rw [List.getElem?_set_self hlt] at hj
                  cases hj
                  rw [hv, ev1]
                · rw [List.getElem?_set_ne (Ne.symm z)] at hj
                  exact c.r.at_ j u hj
              · have g : Good K mg F H (t :: (opts as ++ (ts ++ held))) := c.g.perm (List.perm_middle (l₁ := opts as) (l₂ := ts ++ held) (a := t))
                exact g.perm ((opts_put t hai).append_right (ts ++ held))
            exact Cf.unload (md := mds) (ts := ts) c1 h2 ev2 es2 q'
          · rw [if_neg hi'] at q'; cases q'
  | [], _ :: _, _, _, _, _, _, _, _, _, _, _, _, q => by cases q
  | true :: _, [], _, _, _, _, _, _, _, _, _, _, _, q => by cases q
  | false :: _, [], _, _, _, _, _, _, _, _, _, _, _, q => by cases q
  | _, [], _ :: _, _, _, _, _, _, _, _, h, _, _, _ => h.elim
  | _, _ :: _, [], _, _, _, _, _, _, _, h, _, _, _ => h.elim
def dCall (md : List Bool) (φ : Fn) (a : M (List RV)) : M RV := a.bind fun rs e => match load md rs e with
  | some (ss, e1) => (match φ ss with
    | .st => .st
    | .ok r ss' => (match unload md rs ss' e1 with
      | some e2 => .ok (svR r) e2
      | none => .st)
    | .ex x ss' => (match unload md rs ss' e1 with
      | some e2 => .ex x e2
      | none => .st))
  | none => .st
theorem load_len : ∀ {md : List Bool} {rs : List RV} {e : Env} {p : List SV × Env}, load md rs e = some p → rs.length = md.length
  | [], [], _, _, _ => rfl
  | md :: mds, r :: rs, e, p, q => by
    have q' : (match VF.loadOne md r e with
      | some (s, e1) => (match VF.load mds rs e1 with
        | some (ss, e2) => some (s :: ss, e2)
        | none => none)
      | none => none) = some p := q
    cases q1 : VF.loadOne md r e with
    | none => rw [q1] at q'; cases q'
    | some p1 =>
      rw [q1] at q'
      cases q2 : VF.load mds rs p1.2 with
      | none => simp only [q2] at q'; cases q'
      | some p2 => exact congrArg Nat.succ (load_len q2)
  | [], _ :: _, _, _, q => by cases q
  | _ :: _, [], _, _, q => by cases q
theorem RRs.length : ∀ {vs : List V} {rs : List RV} {tr : List AT}, RRs σ vs rs tr → vs.length = rs.length
  | [], [], _, _ => rfl
  | _ :: _, _ :: _, _, ⟨_, _, _, _, h⟩ => congrArg Nat.succ (RRs.length h)
  | [], _ :: _, _, h => h.elim
  | _ :: _, [], _, h => h.elim
theorem se_call {md : List Bool} {φ : Fn} {ta : TA} {ma : M (List RV)} (ha : SA K mg E ta ma) : SE K mg E (tCallS (spF K mg md.length φ) (fun σ cls d H => E cls d σ H) ta) (dCall md φ ma) := by
  intro pv F H σ e as held Q c w
  refine ha pv F H σ e as held _ c (WA.bindA (W := WE K mg pv F held σ Q E) (fun z => z) w (fun _ _ z => z) fun rs e1 vs F1 H1 as1 tr1 s1 c1 rr1 w1 => ?_)
  cases q : load md rs e1 with
  | none => simp only [q] at w1; exact w1.elim
  | some p =>
    obtain ⟨ss, e2⟩ := p
    simp only [q] at w1
    obtain ⟨F2, as2, ts, s2, c2, ev, es⟩ := c1.load rr1 q
    have lt : ts.length = md.length := by
      rw [← load_len q, ← rr1.length, ← ev]; exact (List.length_map _).symm
    refine ⟨F2, ts, opts as2 ++ held, ev.symm, lt, c2.s, c2.g.perm (pswap _ _ _), ?_⟩
    rw [es]
    cases q2 : φ ss with
    | st => simp only [q2] at w1; exact w1.elim
    | ok r ss' =>
      simp only [q2] at w1
      intro v F3 H3 t ts' s3 s4 et er' evs ess g
      cases q3 : unload md rs ss' e2 with
      | none => simp only [q3] at w1; exact w1.elim
      | some e3 =>
        simp only [q3] at w1
        have c3 : Cf K mg pv F3 H3 σ e2 as2 (ts' ++ ([t] ++ held)) := ⟨s4, c2.r, g.perm (by
          have h1 : (t :: (ts' ++ (opts as2 ++ held))).Perm (ts' ++ (opts as2 ++ ([t] ++ held))) := by
            refine (List.perm_middle (l₁ := ts') (l₂ := opts as2 ++ held) (a := t)).symm.trans ?_
            exact List.Perm.append_left _ (List.perm_middle (l₁ := opts as2) (l₂ := held) (a := t)).symm
          exact h1.trans (pswap _ _ _))⟩
        obtain ⟨as3, c4⟩ := c3.unload rr1 evs ess q3
        subst et er'
        exact w1 t.val F3 H3 as3 [t] ((s1.trans s2).trans s3) c4 (rr_svR t)
    | ex x ss' =>
      simp only [q2] at w1
      intro cls d F3 H3 ts' s3 s4 rx hn evs ess g
      cases q3 : unload md rs ss' e2 with
      | none => simp only [q3] at w1; exact w1.elim
      | some e3 =>
        simp only [q3] at w1
        have c3 : Cf K mg pv F3 H3 σ e2 as2 (ts' ++ held) := ⟨s4, c2.r, g.perm (pswap _ _ _)⟩
        obtain ⟨as3, c4⟩ := c3.unload rr1 evs ess q3
        exact w1 cls d F3 H3 σ as3 ((s1.trans s2).trans s3) c4 rx fun dd q => none_le (s1.trans s2) (hn dd q)
end
end VF

set_option maxRecDepth 100000
set_option maxHeartbeats 4000000
/-! Calls that only look; bodies; what is walked; loops. -/
namespace VF
set_option autoImplicit false
open PySem PySem.Spec PyProof.Rows L2
open AT (cells cellsL er ers)
section
variable {K : PySem.W.Frag} {mg : Str → Option Value} {pv : List (Nat × V)} {F F' H H' : Hp} {σ : L2.St} {e e' : Env} {as as' : List (Option AT)} {held tr ts us : List AT} {E : XS}
/-! ### a call that looks at its arguments and hands back an immediate value -/
def immS : SV → Option D
  | .fz d => (match imm d with
    | some _ => some d
    | none => none)
  | _ => none
def dCallB (n : Nat) (φ : Fn) (a : M (List RV)) : M RV := a.bind fun rs e => match rs.mapM (view e) with
  | some ds => if ds.length = n then (match φ (ds.map .fz) with
    | .ok r _ => (match immS r with
      | some d => .ok (.fz d) e
      | none => .st)
    | .ex x _ => .ex x e
    | .st => .st) else .st
  | none => .st
theorem reps_imm : ∀ {ds : List D} {vs ws : List V}, ds.mapM imm = some ws → Reps K mg F vs ds → Reps K mg F' vs ds
  | [], [], _, _, _ => trivial
  | d :: ds, v :: vs, ws, q, ⟨h1, h2⟩ => by
    cases q1 : imm d with
    | none => simp [q1] at q
    | some u =>
      cases q2 : ds.mapM imm with
      | none => simp [q1, q2] at q
      | some us =>
        have ev : v = u := by
          cases d <;> first | (cases q1; exact h1) | cases q1
        subst ev
        exact ⟨rep_imm q1, reps_imm q2 h2⟩
  | [], _ :: _, _, _, h => h.elim
  | _ :: _, [], _, _, h => h.elim
theorem cell_kind : ∀ (t : AT) (c : Addr × HO), c ∈ cells t → ∀ fs, c.2 ≠ .xd fs := by
  intro t
  refine AT.rec (motive_1 := fun t => ∀ c, c ∈ cells t → ∀ fs, c.2 ≠ HO.xd fs) (motive_2 := fun ts => ∀ c, c ∈ cellsL ts → ∀ fs, c.2 ≠ HO.xd fs) ?_ ?_ ?_ ?_ ?_ ?_ t
  · intro v d c h; exact absurd (show c ∈ ([] : List (Addr × HO)) from h) List.not_mem_nil
  · intro p xs ih c h fs
    rcases List.mem_cons.mp (show c ∈ (p, HO.lst (vals xs)) :: cellsL xs from h) with q | q
    · subst q; exact fun z => by cases z
    · exact ih c q fs
  · intro p C dx cn ns xs ih c h fs
    rcases List.mem_cons.mp (show c ∈ (p, HO.ins C dx (ns.zip (vals xs))) :: cellsL xs from h) with q | q
    · subst q; exact fun z => by cases z
    · exact ih c q fs
  · intro p ks xs ih c h fs
    rcases List.mem_cons.mp (show c ∈ (p, HO.dK (ks.zip (vals xs))) :: cellsL xs from h) with q | q
    · subst q; exact fun z => by cases z
    · exact ih c q fs
  · intro c h; exact absurd (show c ∈ ([] : List (Addr × HO)) from h) List.not_mem_nil
  · intro t ts ih1 ih2 c h fs
    rcases List.mem_append.mp (show c ∈ cells t ++ cellsL ts from h) with q | q
    · exact ih1 c q fs
    · exact ih2 c q fs
theorem Good.same {ts : List AT} (g : Good K mg F H ts) (s : Same H H') : Good K mg F H' ts := ⟨fun c hc => ⟨s _ _ (g.at_ c hc).1, (g.at_ c hc).2⟩, g.ok, g.nd⟩
theorem Cf.same (c : Cf K mg pv F H σ e as held) (s : Same H H') : Cf K mg pv F H' σ e as held := ⟨c.s.trans s, c.r, c.g.same s⟩
theorem se_callB {n : Nat} {φ : Fn} {ta : TA} {ma : M (List RV)} (ha : SA K mg E ta ma) : SE K mg E (tCallS (spF K mg n φ) (fun σ cls d H => E cls d σ H) ta) (dCallB n φ ma) := by
  intro pv F H σ e as held Q c w
  refine ha pv F H σ e as held _ c (WA.bindA (W := WE K mg pv F held σ Q E) (fun z => z) w (fun _ _ z => z) fun rs e1 vs F1 H1 as1 tr1 s1 c1 rr1 w1 => ?_)
  cases q : rs.mapM (view e1) with
  | none => simp only [q] at w1; exact w1.elim
  | some ds =>
    simp only [q] at w1
    have rp := RRs.seen (rs := rs) c1 rr1 (fun t ht => List.mem_append_left _ ht) q
    by_cases hn : ds.length = n
    · rw [if_pos hn] at w1
      have g0 : Good K mg H1 H1 ([] : List AT) := ⟨fun c hc => absurd (show c ∈ ([] : List (Addr × HO)) from hc) List.not_mem_nil, trivial, List.nodup_nil⟩
      have lz : (atoms vs ds).length = n := by
        unfold atoms
        rw [List.length_map, List.length_zip, rp.length, Nat.min_self]; exact hn
      refine ⟨H1, atoms vs ds, [], by rw [vals_atoms rp], lz, Same.refl _, g0.atoms rp, ?_⟩
      rw [ers_atoms rp]
      have c1' := c1.drop
      cases q2 : φ (ds.map .fz) with
      | st => simp only [q2] at w1; exact w1.elim
      | ok r ss' =>
        simp only [q2] at w1
        intro v F3 H3 t ts' s3 s4 et er' _ _ g
        cases q3 : immS r with
        | none => simp only [q3] at w1; exact w1.elim
        | some d =>
          simp only [q3] at w1
          subst et
          have sh : Same H1 H3 := s3.trans s4
          cases r with
          | fz d' =>
            have q3' : (match imm d' with | some _ => some d' | none => none) = some d := q3
            cases q4 : imm d' with
            | none => rw [q4] at q3'; cases q3'
            | some u =>
              rw [q4] at q3'
              have ed : d' = d := Option.some.inj q3'
              subst ed
              cases t with
              | fz v0 d0 =>
                have e0 : d0 = d' := by simpa [er] using er'
                subst e0
                have rv : Rep K mg F3 v0 d0 := g.unfz.2
                have ev : v0 = u := by
                  cases d0 <;> first | (cases q4; exact rv) | cases q4
                subst ev
                exact w1 v0 F1 H3 as1 _ s1 ((c1'.same sh).fz (rep_imm q4)) rfl
              | ol _ _ => simp [er] at er'
              | oo _ _ _ _ _ _ => simp [er] at er'
              | od _ _ _ => simp [er] at er'
          | ol _ => cases q3
          | oo _ _ _ => cases q3
          | od _ _ => cases q3
      | ex x ss' =>
        simp only [q2] at w1
        intro cls d F3 H3 ts' s3 s4 rx hn _ _ g
        have sh : Same H1 H3 := s3.trans s4
        have n0 : ∀ dd, d = some dd → F dd = none := fun dd q => none_le (s1.trans c1.s) (hn dd q)
        exact w1 cls d F1 H3 σ as1 s1 (c1'.same sh) rx n0
    · rw [if_neg hn] at w1; exact w1.elim
/-! ### a def's body -/
def pinIx (i : Nat) : List Bool → List Nat
  | [] => []
  | true :: l => i :: pinIx (i + 1) l
  | false :: l => pinIx (i + 1) l
def okArgs : List Bool → List SV → Bool
  | [], [] => true
  | true :: l, _ :: ss => okArgs l ss
  | false :: l, .fz _ :: ss => okArgs l ss
  | _, _ => false
def outs (i : Nat) : List Bool → List SV → Env → Option (List SV)
  | [], [], _ => some []
  | false :: l, s :: ss, e => (match outs (i + 1) l ss e with
    | some r => some (s :: r)
    | none => none)
  | true :: l, _ :: ss, e => (match e.sl[i]? with
    | some (some s) => (match outs (i + 1) l ss (e.clr i) with
      | some r => some (s :: r)
      | none => none)
    | _ => none)
  | _, _, _ => none
def resOf (f : Fl) (e : Env) : Option (SV × Env) := match f with
  | .nx => some (.fz .non, e)
  | .rt (.fz d) => some (.fz d, e)
  | .rt (.own s) => some (s, e)
  | .rt (.var i) => (match e.sl[i]? with
    | some (some s) => if i ∈ e.pn then some (.fz s.toD, e.setS i (.fz s.toD)) else some (s, e.clr i)
    | _ => none)
  | _ => none
def env0 (md : List Bool) (n : Nat) (ss : List SV) : Env := ⟨ss.map some ++ List.replicate (n - ss.length) none, pinIx 0 md⟩
def mkFn (md : List Bool) (n : Nat) (m : M Fl) : Fn := fun ss => if okArgs md ss = true then (match m (env0 md n ss) with
  | .st => .st
  | .ok f e => (match resOf f e with
    | some (r, e1) => (match outs 0 md ss e1 with
      | some ss' => .ok r ss'
      | none => .st)
    | none => .st)
  | .ex x e => (match outs 0 md ss e with
    | some ss' => .ex x ss'
    | none => .st)) else .st
theorem outs_ok {md : List Bool} : ∀ {i : Nat} {ss ss' : List SV} {vs : List V} {ts0 us : List AT} {e : Env} {as : List (Option AT)}, Cf K mg pv F' H' σ e as us → Oks K mg F' (ts0.filter fun t => match t with | .fz _ _ => true | _ => false) → okArgs md ss = true → vals ts0 = vs → ers ts0 = ss →
    (∀ (j : Nat) (v : V), vs[j]? = some v → md[j]? = some true → σ[i + j]? = some (some v)) → outs i md ss e = some ss' → ∃ ts', Good K mg F' H' (ts' ++ us) ∧ vals ts' = vs ∧ ers ts' = ss' := by
  induction md with
  | nil =>
    intro i ss ss' vs ts0 us e as c hok ho hv he hs q
    cases ss with
    | nil =>
      cases ts0 with
      | nil =>
        have : ss' = [] := by simpa [outs] using q.symm
        subst this
        exact ⟨[], c.g.sub, by rw [← hv], rfl⟩
      | cons _ _ => cases he
    | cons _ _ => cases ho
  | cons b md ih =>
    intro i ss ss' vs ts0 us e as c hok ho hv he hs q
    cases ss with
    | nil => cases b <;> cases ho
    | cons s ss =>
      cases ts0 with
      | nil => cases he
      | cons t ts0 =>
        cases vs with
        | nil => cases hv
        | cons v vs =>
          injection hv with hv1 hv2
          injection he with he1 he2
          have hs' : ∀ (j : Nat) (w : V), vs[j]? = some w → md[j]? = some true → σ[i + 1 + j]? = some (some w) := fun j w h1 h2 => by
            have := hs (j + 1) w (by simpa using h1) (by simpa using h2)
            rw [show i + 1 + j = i + (j + 1) by omega]
            exact this
          cases b with
          | false =>
            cases s with
            | fz d =>
              have q' : (match outs (i + 1) md ss e with | some r => some (SV.fz d :: r) | none => none) = some ss' := q
              cases q1 : outs (i + 1) md ss e with
              | none => rw [q1] at q'; cases q'
              | some r =>
                rw [q1] at q'
                cases q'
                cases t with
                | fz v0 d0 =>
                  have hok' : Ok K mg F' (.fz v0 d0) ∧ Oks K mg F' (ts0.filter fun t => match t with | .fz _ _ => true | _ => false) := by
                    simpa [List.filter_cons, Oks] using hok
                  obtain ⟨ts', g, e1, e2⟩ := ih c hok'.2 (by simpa [okArgs] using ho) hv2 he2 hs' q1
                  refine ⟨.fz v0 d0 :: ts', g.fz hok'.1, ?_, ?_⟩
                  · show v0 :: vals ts' = _
                    rw [e1]
                    rw [show v0 = v from hv1]
                  · show SV.fz d0 :: ers ts' = _
                    rw [e2]
                    rw [show SV.fz d0 = .fz d from he1]
                | ol _ _ => cases he1
                | oo _ _ _ _ _ _ => cases he1
                | od _ _ _ => cases he1
            | ol _ => cases ho
            | oo _ _ _ => cases ho
            | od _ _ => cases ho
          | true =>
            have q' : (match e.sl[i]? with
              | some (some s) => (match outs (i + 1) md ss (e.clr i) with
                | some r => some (s :: r)
                | none => none)
              | _ => none) = some ss' := q
            cases z : e.sl[i]? with
            | none => rw [z] at q'; cases q'
            | some o =>
              cases o with
              | none => rw [z] at q'; cases q'
              | some s' =>
                rw [z] at q'
                simp only at q'
                cases q1 : outs (i + 1) md ss (e.clr i) with
                | none => rw [q1] at q'; cases q'
                | some r =>
                  rw [q1] at q'
                  cases q'
                  obtain ⟨u, hu, eu⟩ := c.r.slotOf z
                  have hv3 := c.r.at_ i u hu
                  have hv4 := hs 0 v rfl rfl
                  rw [Nat.add_zero, hv3] at hv4
                  have euv : u.val = v := by simpa using hv4
                  have hok' : Oks K mg F' (ts0.filter fun t => match t with | .fz _ _ => true | _ => false) := by
                    cases t with
                    | fz v0 d0 => exact (by simpa [List.filter_cons, Oks] using hok : Ok K mg F' (.fz v0 d0) ∧ _).2
                    | ol _ _ => simpa [List.filter_cons] using hok
                    | oo _ _ _ _ _ _ => simpa [List.filter_cons] using hok
                    | od _ _ _ => simpa [List.filter_cons] using hok
                  obtain ⟨ts', g, e1, e2⟩ := ih (c.clr hu) hok' (by simpa [okArgs] using ho) hv2 he2 hs' q1
                  refine ⟨u :: ts', g.perm ?_, ?_, ?_⟩
                  · exact List.perm_middle (l₁ := ts') (l₂ := us) (a := u)
                  · show u.val :: vals ts' = _
                    rw [e1, euv]
                  · show er u :: ers ts' = _
                    rw [e2, eu]
end
end VF

set_option maxRecDepth 100000
set_option maxHeartbeats 4000000
/-! Bodies keep their promise; judgements by functions; what is walked; loops. -/
namespace VF
set_option autoImplicit false
open PySem PySem.Spec PyProof.Rows L2
open AT (cells cellsL er ers)
section
variable {K : PySem.W.Frag} {mg : Str → Option Value} {pv : List (Nat × V)} {F F' H H' : Hp} {σ : L2.St} {e e' : Env} {as as' : List (Option AT)} {held tr ts us : List AT} {E : XS}
def pins (i : Nat) : List Bool → List V → List (Nat × V)
  | true :: l, v :: vs => (i, v) :: pins (i + 1) l vs
  | false :: l, _ :: vs => pins (i + 1) l vs
  | _, _ => []
theorem pins_at : ∀ {md : List Bool} {vs : List V} {i j : Nat} {v : V}, md[j]? = some true → vs[j]? = some v → (i + j, v) ∈ pins i md vs
  | true :: _, v :: _, i, 0, _, _, h => by cases h; exact List.mem_cons_self
  | false :: _, _ :: _, _, 0, _, h, _ => by cases h
  | true :: md, v :: vs, i, j + 1, _, h, h' => by
    have := pins_at (md := md) (vs := vs) (i := i + 1) (j := j) (by simpa using h) (by simpa using h')
    rw [show i + (j + 1) = i + 1 + j by omega]
    exact List.mem_cons_of_mem _ this
  | false :: md, v :: vs, i, j + 1, _, h, h' => by
    have := pins_at (md := md) (vs := vs) (i := i + 1) (j := j) (by simpa using h) (by simpa using h')
    rw [show i + (j + 1) = i + 1 + j by omega]
    exact this
  | [], _, _, _, _, h, _ => by cases h
  | _ :: _, [], _, _, _, _, h => by cases h
theorem pins_mem : ∀ {md : List Bool} {vs : List V} {i : Nat} {p : Nat × V}, p ∈ pins i md vs → ∃ j, p.1 = i + j ∧ vs[j]? = some p.2 ∧ p.1 ∈ pinIx i md
  | true :: md, v :: vs, i, p, h => by
    rcases List.mem_cons.mp (show p ∈ (i, v) :: pins (i + 1) md vs from h) with q | q
    · subst q; exact ⟨0, rfl, rfl, List.mem_cons_self⟩
    · obtain ⟨j, h1, h2, h3⟩ := pins_mem q
      exact ⟨j + 1, by omega, by simpa using h2, List.mem_cons_of_mem _ h3⟩
  | false :: md, v :: vs, i, p, h => by
    obtain ⟨j, h1, h2, h3⟩ := pins_mem (show p ∈ pins (i + 1) md vs from h)
    exact ⟨j + 1, by omega, by simpa using h2, h3⟩
  | [], _, _, _, h => absurd (show _ ∈ ([] : List (Nat × V)) from h) List.not_mem_nil
  | true :: _, [], _, _, h => absurd (show _ ∈ ([] : List (Nat × V)) from h) List.not_mem_nil
  | false :: _, [], _, _, h => absurd (show _ ∈ ([] : List (Nat × V)) from h) List.not_mem_nil
theorem opts_start (ts : List AT) (k : Nat) : opts (ts.map some ++ List.replicate k none) = ts := by
  unfold opts
  rw [List.filterMap_append]
  have h1 : ∀ l : List AT, (l.map some).filterMap id = l := fun l => by
    induction l with
    | nil => rfl
    | cons a l ih => rw [List.map_cons, List.filterMap_cons]; simp [ih]
  have h2 : (List.replicate k (none : Option AT)).filterMap id = [] := by
    induction k with
    | zero => rfl
    | succ k ih => rw [List.replicate_succ, List.filterMap_cons]; simpa using ih
  rw [h1, h2, List.append_nil]
theorem start_ok {md : List Bool} {N : List Str} (s : Same F H) (g : Good K mg F H (ts ++ held)) :
    Cf K mg (pins 0 md (vals ts)) F H (L2.start N (vals ts)) (env0 md N.length (ers ts)) (ts.map some ++ List.replicate (N.length - ts.length) none) held := by
  have lv : (vals ts).length = ts.length := List.length_map _
  refine ⟨s, ⟨?_, ?_, fun j u hj => ?_, fun p hp => ?_⟩, by rw [opts_start]; exact g⟩
  · show (ers ts).map some ++ List.replicate (N.length - (ers ts).length) none = _
    rw [List.map_append, List.map_replicate, ers_length, ers_eq, List.map_map, List.map_map]
    rfl
  · unfold L2.start
    rw [List.length_append, List.length_append, List.length_map, List.length_map, List.length_replicate, List.length_replicate, lv]
  · have hlt : j < ts.length := by
      by_cases q : j < ts.length
      · exact q
      · rw [List.getElem?_append_right (by simpa using q), List.getElem?_replicate] at hj
        split at hj <;> cases hj
    rw [List.getElem?_append_left (by simpa using hlt), List.getElem?_map] at hj
    unfold L2.start
    rw [List.getElem?_append_left (by rw [List.length_map, lv]; exact hlt), List.getElem?_map]
    unfold vals
    rw [List.getElem?_map]
    cases z : ts[j]? with
    | none => rw [z] at hj; cases hj
    | some t => rw [z] at hj; cases hj; rfl
  · obtain ⟨j, h1, h2, h3⟩ := pins_mem hp
    refine ⟨h3, ?_⟩
    rw [Nat.zero_add] at h1
    rw [h1]
    have hlt : j < (vals ts).length := (List.getElem?_eq_some_iff.mp h2).1
    unfold L2.start
    rw [List.getElem?_append_left (by rw [List.length_map]; exact hlt), List.getElem?_map, h2]
    rfl
theorem body_ok {Ef : XK} {md : List Bool} {N : List Str} {m : M Fl} {t : TS} {vs : List V} {Q : VK} (ht : SS K mg (fun cls d _ H => Ef cls d H) t m) (w : spF K mg md.length (mkFn md N.length m) vs H Q Ef) :
    t { nx := fun _ H' => Q .non H', rt := Q } (L2.start N vs) H := by
  obtain ⟨F, ts, held, rfl, lt, s, g, w⟩ := w
  have okf : ∀ {F'}, Same F F' → Oks K mg F' (ts.filter fun t => match t with | .fz _ _ => true | _ => false) := fun s' => by
    refine Oks.mem.mpr fun t ht => ?_
    exact Ok.same s' (Oks.mem.mp g.ok t (List.mem_append_left _ (List.mem_filter.mp ht).1))
  unfold mkFn at w
  by_cases ha : okArgs md (ers ts) = true
  · rw [if_pos ha] at w
    have fin : ∀ {F' H' σ' e2 as2 us ss'}, Same F F' → Cf K mg (pins 0 md (vals ts)) F' H' σ' e2 as2 us → outs 0 md (ers ts) e2 = some ss' → ∃ ts', Good K mg F' H' (ts' ++ us) ∧ vals ts' = vals ts ∧ ers ts' = ss' := fun s' c' q =>
      outs_ok c' (okf s') ha rfl rfl (fun j v h1 h2 => (c'.r.pin (0 + j, v) (pins_at h2 h1)).2) q
    refine ht _ F H _ _ _ held _ (start_ok (md := md) (N := N) s g) ?_
    cases q : m (env0 md N.length (ers ts)) with
    | st => simp only [q] at w
    | ex x e1 =>
      simp only [q] at w
      intro cls d F' H' σ' as' s' c' rx hn
      cases q2 : outs 0 md (ers ts) e1 with
      | none => simp only [q2] at w
      | some ss' =>
        simp only [q2] at w
        obtain ⟨ts', g', h1, h2⟩ := fin s' c' q2
        exact w cls d F' H' ts' s' c'.s rx hn h1 h2 g'
    | ok f e1 =>
      simp only [q] at w
      cases f with
      | bk => simp only [resOf] at w
      | ct => simp only [resOf] at w
      | nx =>
        simp only [resOf] at w
        intro σ' F' H' as' s' c'
        cases q2 : outs 0 md (ers ts) e1 with
        | none => simp only [q2] at w
        | some ss' =>
          simp only [q2] at w
          obtain ⟨ts', g', h1, h2⟩ := fin s' (c'.fz (show Rep K mg F' .non .non from rfl)) q2
          exact w .non F' H' (.fz .non .non) ts' s' c'.s rfl rfl h1 h2 (g'.perm (pswap ts' [.fz .non .non] held))
      | rt r =>
        intro v σ' F' H' as' tr s' c' rr
        cases r with
        | fz d =>
          simp only [resOf] at w
          have e1 : tr = [.fz v d] := rr
          subst e1
          cases q2 : outs 0 md (ers ts) e1 with
          | none => simp only [q2] at w
          | some ss' =>
            simp only [q2] at w
            obtain ⟨ts', g', h1, h2⟩ := fin s' c' q2
            exact w v F' H' (.fz v d) ts' s' c'.s rfl rfl h1 h2 (g'.perm (pswap ts' [.fz v d] held))
        | own s =>
          simp only [resOf] at w
          obtain ⟨t0, e1, e2, e3⟩ := rr
          subst e1
          cases q2 : outs 0 md (ers ts) e1 with
          | none => simp only [q2] at w
          | some ss' =>
            simp only [q2] at w
            obtain ⟨ts', g', h1, h2⟩ := fin s' c' q2
            exact w v F' H' t0 ts' s' c'.s e2 e3 h1 h2 (g'.perm (pswap ts' [t0] held))
        | var i =>
          obtain ⟨e2, hv⟩ := rr
          subst e2
          simp only [resOf] at w
          cases z : e1.sl[i]? with
          | none => simp only [z] at w
          | some o =>
            cases o with
            | none => simp only [z] at w
            | some s0 =>
              simp only [z] at w
              obtain ⟨t0, h0, e0⟩ := c'.r.slotOf z
              have hv2 := c'.r.at_ i t0 h0
              rw [hv] at hv2
              have ev : v = t0.val := by simpa using hv2
              subst e0
              by_cases hp : i ∈ e1.pn
              · simp only [if_pos hp] at w
                obtain ⟨F2, s2, c2, rp⟩ := Cf.frzS (held := held) c' h0
                cases q2 : outs 0 md (ers ts) (e1.setS i (.fz (er t0).toD)) with
                | none => simp only [q2] at w
                | some ss' =>
                  simp only [q2] at w
                  obtain ⟨ts', g', h1, h2⟩ := fin (s'.trans s2) (c2.fz rp) q2
                  exact w v F2 H' (.fz t0.val (er t0).toD) ts' (s'.trans s2) c2.s ev.symm rfl h1 h2 (g'.perm (pswap ts' [.fz t0.val (er t0).toD] held))
              · simp only [if_neg hp] at w
                cases q2 : outs 0 md (ers ts) (e1.clr i) with
                | none => simp only [q2] at w
                | some ss' =>
                  simp only [q2] at w
                  obtain ⟨ts', g', h1, h2⟩ := fin s' (Cf.clr (held := held) c' h0) q2
                  exact w v F' H' t0 ts' s' c'.s ev.symm rfl h1 h2 (g'.perm (pswap ts' [t0] held))
  · rw [if_neg ha] at w; exact w.elim
end
/-! ### judgements: an expression, a statement .. does what a function on states does -/
def wE (K : PySem.W.Frag) (mg : Str → Option Value) (E : XS) (m : M RV) : TE := fun σ H Q => ∃ pv F e as held, Cf K mg pv F H σ e as held ∧ WE K mg pv F held σ Q E (m e)
def wT (K : PySem.W.Frag) (mg : Str → Option Value) (E : XS) (m : M Bool) : TT := fun σ H Q => ∃ pv F e as held, Cf K mg pv F H σ e as held ∧ WT K mg pv F held σ Q E (m e)
def wA (K : PySem.W.Frag) (mg : Str → Option Value) (E : XS) (m : M (List RV)) : TA := fun σ H Q => ∃ pv F e as held, Cf K mg pv F H σ e as held ∧ WA K mg pv F held σ Q E (m e)
def wS (K : PySem.W.Frag) (mg : Str → Option Value) (E : XS) (m : M Fl) : TS := fun D σ H => ∃ pv F e as held, Cf K mg pv F H σ e as held ∧ WS K mg pv F held E D (m e)
section
variable {K : PySem.W.Frag} {mg : Str → Option Value} {E : XS}
theorem se_w {m : M RV} : SE K mg E (wE K mg E m) m := fun pv F H σ e as held Q c w => ⟨pv, F, e, as, held, c, w⟩
theorem st_w {m : M Bool} : ST K mg E (wT K mg E m) m := fun pv F H σ e as held Q c w => ⟨pv, F, e, as, held, c, w⟩
theorem sa_w {m : M (List RV)} : SA K mg E (wA K mg E m) m := fun pv F H σ e as held Q c w => ⟨pv, F, e, as, held, c, w⟩
theorem ss_w {m : M Fl} : SS K mg E (wS K mg E m) m := fun pv F H σ e as held D c w => ⟨pv, F, e, as, held, c, w⟩
end
def VE (X : Cx) (E : XS) (e : Expr) (m : M RV) : Prop := PE X e (wE X.K X.mg E m)
def VT (X : Cx) (E : XS) (e : Expr) (m : M Bool) : Prop := PT X e (wT X.K X.mg E m)
def VA (X : Cx) (E : XS) (es : List Expr) (m : M (List RV)) : Prop := PA X es (wA X.K X.mg E m)
def VS (X : Cx) (E : XS) (s : Stmt) (m : M Fl) : Prop := PS X s (wS X.K X.mg E m)
def VB (X : Cx) (E : XS) (ss : List Stmt) (m : M Fl) : Prop := PSs X ss (wS X.K X.mg E m)
section
variable {X : Cx} {E : XS}
theorem VE.mk {e : Expr} {t : TE} {m : M RV} (h : PE X e t) (s : SE X.K X.mg E t m) : VE X E e m := ⟨fun pins s0 σ H Q I ⟨pv, F, e0, as, held, c, w⟩ => h.run pins s0 σ H Q I (s pv F H σ e0 as held Q c w)⟩
theorem VT.mk {e : Expr} {t : TT} {m : M Bool} (h : PT X e t) (s : ST X.K X.mg E t m) : VT X E e m := ⟨fun pins s0 σ H Q I ⟨pv, F, e0, as, held, c, w⟩ => h.run pins s0 σ H Q I (s pv F H σ e0 as held Q c w)⟩
theorem VA.mk {e : List Expr} {t : TA} {m : M (List RV)} (h : PA X e t) (s : SA X.K X.mg E t m) : VA X E e m := ⟨fun pos pins s0 σ H Q I ⟨pv, F, e0, as, held, c, w⟩ => h.run pos pins s0 σ H Q I (s pv F H σ e0 as held Q c w)⟩
theorem VS.mk {e : Stmt} {t : TS} {m : M Fl} (h : PS X e t) (s : SS X.K X.mg E t m) : VS X E e m := ⟨fun pins s0 σ H D I ⟨pv, F, e0, as, held, c, w⟩ => h.run pins s0 σ H D I (s pv F H σ e0 as held D c w)⟩
theorem VB.mk {e : List Stmt} {t : TS} {m : M Fl} (h : PSs X e t) (s : SS X.K X.mg E t m) : VB X E e m := ⟨fun pins s0 σ H D I ⟨pv, F, e0, as, held, c, w⟩ => h.run pins s0 σ H D I (s pv F H σ e0 as held D c w)⟩
end
/-- a def that raises nothing -/
def mkFn0 (md : List Bool) (n : Nat) (m : M Fl) : Fn := fun ss => match mkFn md n m ss with
  | .ok r as => .ok r as
  | _ => .st
/-- a def's promise, by its body -/
theorem fn_ok {P : Program} {w : World} {K : PySem.W.Frag} {mg : Str → Option Value} {base : Heap} {x qual : Str} {params : Arguments} {body : List Stmt} {scope : Scope} {dvs : List V} {kws : List (Str × V)} {f : Addr} {fd : FuncData} {N ps : List Str} {k : Nat}
    (F : FunD K x qual params body scope dvs kws f fd) (S : FnScope N ps scope) (md : List Bool) (hl : md.length = ps.length) {m : M Fl} {n : Nat} (hN : N.length = n)
    (hb : ∀ (cdv : Value) (A : Around) (outer : List PySem.Env) (s : Shared) (H : Hp) (E : XK), Room k (A.deeper (envOfC qual scope s.heap.objs.size f cdv)) → VB (cxOf CX0 P w K mg base N qual scope f cdv A outer s H E).nox E0 body m) :
    FnOk P w K mg base CX0 (k + 1) f fd ps (spF K mg md.length (mkFn0 md n m)) := by
  subst hN
  refine F.ok S (fun vs H Q E h => ?_) (fun cdv A outer s H vs Q E hr h => ⟨_, (hb cdv A outer s H E hr).nox, ?_⟩)
  · obtain ⟨F, ts, held, rfl, lt, _⟩ := h
    rw [← hl, ← lt]; exact List.length_map _
  · have h' : spF K mg md.length (mkFn md N.length m) vs H Q L2.E0 := by
      obtain ⟨F, ts, held, e1, lt, s, g, w⟩ := h
      refine ⟨F, ts, held, e1, lt, s, g, ?_⟩
      unfold mkFn0 at w
      cases q : mkFn md N.length m (ers ts) with
      | st => rw [q] at w; exact w
      | ok r as => rw [q] at w; exact w
      | ex x as => rw [q] at w; exact w.elim
    exact body_ok (Ef := L2.E0) ss_w h'
theorem fn_okX {P : Program} {w : World} {K : PySem.W.Frag} {mg : Str → Option Value} {base : Heap} {CX : CXT} {x qual : Str} {params : Arguments} {body : List Stmt} {scope : Scope} {dvs : List V} {kws : List (Str × V)} {f : Addr} {fd : FuncData} {N ps : List Str} {k : Nat}
    (F : FunD K x qual params body scope dvs kws f fd) (S : FnScope N ps scope) (md : List Bool) (hl : md.length = ps.length) {m : M Fl} {n : Nat} (hN : N.length = n)
    (hb : ∀ (cdv : Value) (A : Around) (outer : List PySem.Env) (s : Shared) (H : Hp) (E : XK), Room k (A.deeper (envOfC qual scope s.heap.objs.size f cdv)) → VB (cxOf CX P w K mg base N qual scope f cdv A outer s H E) (fun cls d _ H => E cls d H) body m) :
    FnOk P w K mg base CX (k + 1) f fd ps (spF K mg md.length (mkFn md n m)) := by
  subst hN
  refine F.ok S (fun vs H Q E h => ?_) (fun cdv A outer s H vs Q E hr h => ⟨_, hb cdv A outer s H E hr, body_ok ss_w h⟩)
  obtain ⟨F, ts, held, rfl, lt, _⟩ := h
  rw [← hl, ← lt]; exact List.length_map _
end VF

set_option maxRecDepth 100000
set_option maxHeartbeats 4000000
/-! What is walked; for, while, comprehensions. -/
namespace VF
set_option autoImplicit false
open PySem PySem.Spec PyProof.Rows L2
open AT (cells cellsL er ers)
/-- a walk yields these data -/
structure ItOk (K : PySem.W.Frag) (mg : Str → Option Value) (F0 : Hp) (J : It) (ds : List D) : Prop where
  go : ∀ (i : Nat) F H, Same F0 F → Same F H → i < ds.length → J.go i H
  yld : ∀ (i : Nat) F H x H', Same F0 F → Same F H → i < ds.length → J.yld i H x H' → ∃ F' d, Same F F' ∧ Same F' H' ∧ (∀ us, Good K mg F H us → Good K mg F' H' us) ∧ ds[i]? = some d ∧ Rep K mg F' x d
  stop : ∀ (i : Nat) F H, Same F0 F → Same F H → ds.length ≤ i → J.stop i H
section
variable {K : PySem.W.Frag} {mg : Str → Option Value} {pv : List (Nat × V)} {F F' H H' : Hp} {σ : L2.St} {e e' : Env} {as as' : List (Option AT)} {held tr ts us : List AT} {E : XS}
def WI (K : PySem.W.Frag) (mg : Str → Option Value) (pv : List (Nat × V)) (F : Hp) (held : List AT) (σ : L2.St) (Q : It → Hp → Prop) (E : XS) : R (List D) → Prop
  | .st => False
  | .ok ds e' => ∀ J F' H' as', Same F F' → Cf K mg pv F' H' σ e' as' held → ItOk K mg F' J ds → Q J H'
  | .ex x e' => WX K mg pv F held E x e'
def SI (K : PySem.W.Frag) (mg : Str → Option Value) (E : XS) (t : TI) (m : M (List D)) : Prop := ∀ pv F H σ e as held Q, Cf K mg pv F H σ e as held → WI K mg pv F held σ Q E (m e) → t σ H Q
theorem inj_lst {a : Addr} {vs xs : List V} (h : H a = some (.lst vs)) (q : SqL K H a xs) (hn : K.lookup a = none) : xs = vs := by
  rcases q with q | ⟨o, its, n, hk, _⟩
  · rcases q with q | ⟨o, q⟩
    · rw [h] at q; cases q; rfl
    · rw [h] at q; cases q
  · rw [hn] at hk; cases hk
/-- for x in xs, a list: its items -/
theorem it_list {a : Addr} {vs : List V} {ds : List D} (h : F a = some (.lst vs)) (r : Reps K mg F vs ds) : ItOk K mg F (Itl K a) ds where
  go := fun i F1 H1 s s' hi => by
    have hv : i < vs.length := by rw [r.length]; exact hi
    exact ⟨vs, vs[i], SqL.of (s' _ _ (s _ _ h)), List.getElem?_eq_getElem hv⟩
  yld := fun i F1 H1 x H' s s' hi y => by
    obtain ⟨e1, y⟩ := y
    subst e1
    obtain ⟨d, hd, rd⟩ := r.getV (y vs (SqL.of (s' _ _ (s _ _ h))))
    exact ⟨F1, d, Same.refl _, s', fun us g => g, hd, Rep.same s rd⟩
  stop := fun i F1 H1 s s' hi => ⟨vs, SqL.of (s' _ _ (s _ _ h)), by rw [r.length]; exact hi⟩
theorem it_tup {a : Addr} {vs : List V} {ds : List D} (h : SqT K F a vs) (r : Reps K mg F vs ds) : ItOk K mg F (Itt K a) ds where
  go := fun i F1 H1 s s' hi => by
    have hv : i < vs.length := by rw [r.length]; exact hi
    exact ⟨vs, vs[i], SqT_same s' (SqT_same s h), List.getElem?_eq_getElem hv⟩
  yld := fun i F1 H1 x H' s s' hi y => by
    obtain ⟨e1, y⟩ := y
    subst e1
    obtain ⟨d, hd, rd⟩ := r.getV (y vs (SqT_same s' (SqT_same s h)))
    exact ⟨F1, d, Same.refl _, s', fun us g => g, hd, Rep.same s rd⟩
  stop := fun i F1 H1 s s' hi => ⟨vs, SqT_same s' (SqT_same s h), by rw [r.length]; exact hi⟩
def signs (z : Str) : List D := z.cps.toList.map fun c => .str ⟨#[c]⟩
theorem it_str {z : Str} : ItOk K mg F (Its z) (signs z) where
  go := fun i F1 H1 s s' hi => by
    have : i < z.cps.size := by simpa [signs] using hi
    exact this
  yld := fun i F1 H1 x H' s s' hi y => by
    obtain ⟨e1, c, hc, ex⟩ := y
    subst e1 ex
    refine ⟨F1, .str ⟨#[c]⟩, Same.refl _, s', fun us g => g, ?_, rfl⟩
    unfold signs
    rw [List.getElem?_map, Array.getElem?_toList, hc]
    rfl
  stop := fun i F1 H1 s s' hi => by
    have : z.cps.size ≤ i := by simpa [signs] using hi
    exact this
def rngD (lo : Int) (n : Nat) : List D := (List.range n).map fun i => .int (lo + (i : Nat))
theorem it_rng {lo : Int} {n : Nat} : ItOk K mg F (Itr lo n) (rngD lo n) where
  go := fun i F1 H1 s s' hi => by
    have : i < n := by simpa [rngD] using hi
    exact this
  yld := fun i F1 H1 x H' s s' hi y => by
    obtain ⟨e1, ex⟩ := y
    subst e1 ex
    have hi' : i < n := by simpa [rngD] using hi
    refine ⟨F1, .int (lo + (i : Nat)), Same.refl _, s', fun us g => g, ?_, rfl⟩
    unfold rngD
    rw [List.getElem?_map, List.getElem?_range hi']
    rfl
  stop := fun i F1 H1 s s' hi => by
    have : n ≤ i := by simpa [rngD] using hi
    exact this
def enumD (ds : List D) : List D := ds.mapIdx fun i d => .tup [.int (i : Nat), d]
theorem it_enum {a : Addr} {vs : List V} {ds : List D} (h : F a = some (.lst vs)) (r : Reps K mg F vs ds) : ItOk K mg F (Ite K a) (enumD ds) where
  go := fun i F1 H1 s s' hi => by
    have hi' : i < ds.length := by simpa [enumD] using hi
    have hv : i < vs.length := by rw [r.length]; exact hi'
    exact ⟨vs, vs[i], SqL.of (s' _ _ (s _ _ h)), List.getElem?_eq_getElem hv⟩
  yld := fun i F1 H1 x H' s s' hi y => by
    obtain ⟨T, u, e1, hT, e2, y⟩ := y
    subst e1 e2
    obtain ⟨d, hd, rd⟩ := r.getV (y vs (SqL.of (s' _ _ (s _ _ h))))
    have sb := same_both (o := .tup [.int (i : Nat), u]) s' hT
    refine ⟨upd F1 T (.tup [.int (i : Nat), u]), .tup [.int (i : Nat), d], sb.1, sb.2, fun us g => g.newF s' hT, ?_, ⟨T, _, rfl, SqT.of upd_same, rfl, Rep.same (s.trans sb.1) rd, trivial⟩⟩
    unfold enumD
    rw [List.getElem?_mapIdx, hd]
    rfl
  stop := fun i F1 H1 s s' hi => ⟨vs, SqL.of (s' _ _ (s _ _ h)), by rw [r.length]; simpa [enumD] using hi⟩
def zipD (ds es : List D) : List D := (ds.zip es).map fun p => .tup [p.1, p.2]
theorem it_zip {a b : Addr} {vs ws : List V} {ds es : List D} (h : F a = some (.lst vs)) (r : Reps K mg F vs ds) (h' : F b = some (.lst ws)) (r' : Reps K mg F ws es) : ItOk K mg F (Itz K a b) (zipD ds es) where
  go := fun i F1 H1 s s' hi => by
    have hi' : i < ds.length ∧ i < es.length := by simpa [zipD, Nat.lt_min] using hi
    have hv : i < vs.length := by rw [r.length]; exact hi'.1
    have hw : i < ws.length := by rw [r'.length]; exact hi'.2
    exact ⟨vs, ws, vs[i], ws[i], SqL.of (s' _ _ (s _ _ h)), SqL.of (s' _ _ (s _ _ h')), List.getElem?_eq_getElem hv, List.getElem?_eq_getElem hw⟩
  yld := fun i F1 H1 x H' s s' hi y => by
    obtain ⟨T, u, u', e1, hT, e2, y, y'⟩ := y
    subst e1 e2
    obtain ⟨d, hd, rd⟩ := r.getV (y vs (SqL.of (s' _ _ (s _ _ h))))
    obtain ⟨d', hd', rd'⟩ := r'.getV (y' ws (SqL.of (s' _ _ (s _ _ h'))))
    have sb := same_both (o := .tup [u, u']) s' hT
    refine ⟨upd F1 T (.tup [u, u']), .tup [d, d'], sb.1, sb.2, fun us g => g.newF s' hT, ?_, ⟨T, _, rfl, SqT.of upd_same, Rep.same (s.trans sb.1) rd, Rep.same (s.trans sb.1) rd', trivial⟩⟩
    unfold zipD
    rw [List.getElem?_map, (List.getElem?_zip_eq_some (z := (d, d'))).mpr ⟨hd, hd'⟩]
    rfl
  stop := fun i F1 H1 s s' hi => by
    have hi' : ds.length ≤ i ∨ es.length ≤ i := by
      have : min ds.length es.length ≤ i := by simpa [zipD] using hi
      omega
    exact ⟨vs, ws, SqL.of (s' _ _ (s _ _ h)), SqL.of (s' _ _ (s _ _ h')), by rw [r.length, r'.length]; exact hi'⟩
theorem WE.bindI {f : RV → M (List D)} {m : M RV} {R0 : It → Hp → Prop} (h : WI K mg pv F held σ R0 E ((m e).bind f)) {P : V → Hp → Prop}
    (k : ∀ r e' v F' H' as' tr, Same F F' → Cf K mg pv F' H' σ e' as' (tr ++ held) → RR σ v r tr → WI K mg pv F held σ R0 E (f r e') → P v H') : WE K mg pv F held σ P E (m e) :=
  WE.bindE (W := WI K mg pv F held σ R0 E) (fun z => z) h (fun _ _ z => z) k
/-- what a value is walked as -/
def walk (d : D) : Option (List D) := match d with
  | .lst ds => some ds
  | .tup ds => some ds
  | .str z => some (signs z)
  | _ => none
def dIt (a : M RV) : M (List D) := a.bind fun r e => match frzR r e with
  | some (d, e1) => (match walk d with
    | some ds => .ok ds e1
    | none => .st)
  | none => .st
/-- a list, a tuple or a text -/
def iAny (K : PySem.W.Frag) (tl : TE) : TI := fun σ H R => iList K tl σ H R ∨ iTup K tl σ H R ∨ iStr tl σ H R
theorem pi_any {X : Cx} {tg l : Expr} {tl : TE} (hl : PE X l tl) : PI X tg l (iAny X.K tl) := ⟨fun pins s σ H R I h => by
  rcases h with h | h | h
  · exact (pi_list hl).run pins s σ H R I h
  · exact (pi_tup hl).run pins s σ H R I h
  · exact (pi_str hl).run pins s σ H R I h⟩
theorem si_any {ta : TE} {ma : M RV} (ha : SE K mg E ta ma) : SI K mg E (iAny K ta) (dIt ma) := by
  intro pv F H σ e as held R0 c w
  have key : ∀ (P : V → Hp → Prop), (∀ r e' v F' H' as' tr, ma e = .ok r e' → Same F F' → Cf K mg pv F' H' σ e' as' (tr ++ held) → RR σ v r tr → P v H') → ta σ H P := fun P k => by
    refine ha pv F H σ e as held P c ?_
    have w' : WI K mg pv F held σ R0 E ((ma e).bind fun r e => match frzR r e with
      | some (d, e1) => (match walk d with
        | some ds => .ok ds e1
        | none => .st)
      | none => .st) := w
    cases q : ma e with
    | st => rw [q] at w'; exact w'.elim
    | ok r e' => exact fun v F' H' as' tr s c' rr => k r e' v F' H' as' tr q s c' rr
    | ex x e' => rw [q] at w'; exact w'
  have w' : WI K mg pv F held σ R0 E ((ma e).bind fun r e => match frzR r e with
    | some (d, e1) => (match walk d with
      | some ds => .ok ds e1
      | none => .st)
    | none => .st) := w
  cases q : ma e with
  | st => rw [q] at w'; exact w'.elim
  | ex x e1 =>
    refine .inl (ha pv F H σ e as held _ c ?_)
    rw [q] at w' ⊢
    exact w'
  | ok r e1 =>
    rw [q] at w'
    have w2 : WI K mg pv F held σ R0 E (match frzR r e1 with
      | some (d, e1) => (match walk d with
        | some ds => .ok ds e1
        | none => .st)
      | none => .st) := w'
    cases q1 : frzR r e1 with
    | none => rw [q1] at w2; exact w2.elim
    | some p =>
      obtain ⟨d, e2⟩ := p
      rw [q1] at w2
      cases d with
      | lst ds =>
        refine .inl (key _ fun r' e' v F' H' as' tr q' s c' rr => ?_)
        rw [q] at q'
        cases q'
        obtain ⟨F2, as2, s2, c2, rp⟩ := c'.frzR rr q1
        obtain ⟨p, vs, ev, h1, h2⟩ := rp
        exact ⟨p, ev, ⟨vs, SqL.of (c2.s _ _ h1)⟩, w2 _ F2 H' as2 (s.trans s2) c2 (it_list h1 h2)⟩
      | tup ds =>
        refine .inr (.inl (key _ fun r' e' v F' H' as' tr q' s c' rr => ?_))
        rw [q] at q'
        cases q'
        obtain ⟨F2, as2, s2, c2, rp⟩ := c'.frzR rr q1
        obtain ⟨p, vs, ev, h1, h2⟩ := rp
        exact ⟨p, ev, ⟨vs, SqT_same c2.s h1⟩, w2 _ F2 H' as2 (s.trans s2) c2 (it_tup h1 h2)⟩
      | str z =>
        refine .inr (.inr (key _ fun r' e' v F' H' as' tr q' s c' rr => ?_))
        rw [q] at q'
        cases q'
        obtain ⟨F2, as2, s2, c2, rp⟩ := c'.frzR rr q1
        have ev : v = .str z := rp
        exact ⟨z, ev, w2 _ F2 H' as2 (s.trans s2) c2 it_str⟩
      | _ => exact w2.elim
theorem WA.bindI {f : List RV → M (List D)} {m : M (List RV)} {R0 : It → Hp → Prop} (h : WI K mg pv F held σ R0 E ((m e).bind f)) {P : List V → Hp → Prop}
    (k : ∀ r e' v F' H' as' tr, Same F F' → Cf K mg pv F' H' σ e' as' (tr ++ held) → RRs σ v r tr → WI K mg pv F held σ R0 E (f r e') → P v H') : WA K mg pv F held σ P E (m e) :=
  WA.bindA (W := WI K mg pv F held σ R0 E) (fun z => z) h (fun _ _ z => z) k
def small62 (i : Int) : Bool := decide (-(2 ^ 62) ≤ i ∧ i < 2 ^ 62)
/-- ints among data -/
def oneI : List D → Option Int
  | [.int i] => some i
  | _ => none
def twoI : List D → Option (Int × Int)
  | [.int i, .int j] => some (i, j)
  | _ => none
theorem oneI_some {ds : List D} {p : Int} (h : oneI ds = some p) : ds = [.int p] := by
  unfold oneI at h
  split at h
  · cases h; rfl
  · cases h
theorem twoI_some {ds : List D} {p : Int × Int} (h : twoI ds = some p) : ds = [.int p.1, .int p.2] := by
  unfold twoI at h
  split at h
  · cases h; rfl
  · cases h
def dRng1 (a : M (List RV)) : M (List D) := a.bind fun rs e => match rs.mapM (view e) with
  | some ds => (match oneI ds with
    | some j => if small62 j = true then .ok (rngD 0 j.toNat) e else .st
    | none => .st)
  | none => .st
def dRng2 (a : M (List RV)) : M (List D) := a.bind fun rs e => match rs.mapM (view e) with
  | some ds => (match twoI ds with
    | some (i, j) => if (small62 i && small62 j) = true then .ok (rngD i (j - i).toNat) e else .st
    | none => .st)
  | none => .st
theorem reps1 {vs : List V} {d : D} (h : Reps K mg F vs [d]) : ∃ v, vs = [v] ∧ Rep K mg F v d := by
  match vs, h with
  | [v], ⟨h1, _⟩ => exact ⟨v, rfl, h1⟩
theorem reps2 {vs : List V} {d d' : D} (h : Reps K mg F vs [d, d']) : ∃ v v', vs = [v, v'] ∧ Rep K mg F v d ∧ Rep K mg F v' d' := by
  match vs, h with
  | [v, v'], ⟨h1, h2, _⟩ => exact ⟨v, v', rfl, h1, h2⟩
theorem si_rng1 {ta : TA} {ma : M (List RV)} (ha : SA K mg E ta ma) : SI K mg E (iRng1 ta) (dRng1 ma) := by
  intro pv F H σ e as held R0 c w
  refine ha pv F H σ e as held _ c (WA.bindI w fun r1 e1 v1 F1 H1 as1 tr1 s1 c1 rr1 w1 => ?_)
  cases q : r1.mapM (view e1) with
  | none => simp only [q] at w1; exact w1.elim
  | some ds =>
    have rp := RRs.seen (rs := r1) c1 rr1 (fun t ht => List.mem_append_left _ ht) q
    simp only [q] at w1
    cases q2 : oneI ds with
    | none => simp only [q2] at w1; exact w1.elim
    | some j =>
      simp only [q2] at w1
      rw [oneI_some q2] at rp
      obtain ⟨v, e2, rv⟩ := reps1 rp
      by_cases hj : small62 j = true
      · rw [if_pos hj] at w1
        have hj2 := of_decide_eq_true hj
        have ev : v = .int j := rv
        subst ev
        exact ⟨j, e2, hj2.1, hj2.2, w1 _ F1 H1 as1 s1 c1.drop it_rng⟩
      · rw [if_neg hj] at w1; exact w1.elim
theorem si_rng2 {ta : TA} {ma : M (List RV)} (ha : SA K mg E ta ma) : SI K mg E (iRng2 ta) (dRng2 ma) := by
  intro pv F H σ e as held R0 c w
  refine ha pv F H σ e as held _ c (WA.bindI w fun r1 e1 v1 F1 H1 as1 tr1 s1 c1 rr1 w1 => ?_)
  cases q : r1.mapM (view e1) with
  | none => simp only [q] at w1; exact w1.elim
  | some ds =>
    have rp := RRs.seen (rs := r1) c1 rr1 (fun t ht => List.mem_append_left _ ht) q
    simp only [q] at w1
    cases q2 : twoI ds with
    | none => simp only [q2] at w1; exact w1.elim
    | some p =>
      obtain ⟨i, j⟩ := p
      simp only [q2] at w1
      rw [twoI_some q2] at rp
      obtain ⟨v, v', e2, rv, rv'⟩ := reps2 rp
      by_cases hj : (small62 i && small62 j) = true
      · rw [if_pos hj] at w1
        have hj2 := Bool.and_eq_true_iff.mp hj
        have h1 := of_decide_eq_true hj2.1
        have h2 := of_decide_eq_true hj2.2
        have ev : v = .int i := rv
        have ev' : v' = .int j := rv'
        subst ev ev'
        exact ⟨i, j, e2, ⟨h1.1, h1.2, h2.1, h2.2⟩, w1 _ F1 H1 as1 s1 c1.drop it_rng⟩
      · rw [if_neg hj] at w1; exact w1.elim
/-- enumerate(xs), zip(xs, ys) of lists -/
def oneL : List D → Option (List D)
  | [.lst ds] => some ds
  | _ => none
def twoL : List D → Option (List D × List D)
  | [.lst ds, .lst es] => some (ds, es)
  | _ => none
theorem oneL_some {ds xs : List D} (h : oneL ds = some xs) : ds = [.lst xs] := by
  unfold oneL at h
  split at h
  · cases h; rfl
  · cases h
theorem twoL_some {ds : List D} {p : List D × List D} (h : twoL ds = some p) : ds = [.lst p.1, .lst p.2] := by
  unfold twoL at h
  split at h
  · cases h; rfl
  · cases h
def dEnum (a : M (List RV)) : M (List D) := a.bind fun rs e => match frzRs rs e with
  | some (ds, e1) => (match oneL ds with
    | some xs => .ok (enumD xs) e1
    | none => .st)
  | none => .st
def dZip (a : M (List RV)) : M (List D) := a.bind fun rs e => match frzRs rs e with
  | some (ds, e1) => (match twoL ds with
    | some (xs, ys) => .ok (zipD xs ys) e1
    | none => .st)
  | none => .st
theorem si_enum {ta : TA} {ma : M (List RV)} (ha : SA K mg E ta ma) : SI K mg E (iEnum K ta) (dEnum ma) := by
  intro pv F H σ e as held R0 c w
  refine ha pv F H σ e as held _ c (WA.bindI w fun r1 e1 v1 F1 H1 as1 tr1 s1 c1 rr1 w1 => ?_)
  cases q : frzRs r1 e1 with
  | none => simp only [q] at w1; exact w1.elim
  | some p =>
    obtain ⟨ds, e2⟩ := p
    simp only [q] at w1
    obtain ⟨F2, as2, s2, c2, rp⟩ := c1.frzRs rr1 q
    cases q2 : oneL ds with
    | none => simp only [q2] at w1; exact w1.elim
    | some xs =>
      simp only [q2] at w1
      rw [oneL_some q2] at rp
      obtain ⟨v, e3, p, vs, ev, h1, h2⟩ := reps1 rp
      subst ev
      exact ⟨p, vs, e3, SqL.of (c2.s _ _ h1), w1 _ F2 H1 as2 (s1.trans s2) c2 (it_enum h1 h2)⟩
theorem si_zip {ta : TA} {ma : M (List RV)} (ha : SA K mg E ta ma) : SI K mg E (iZip K ta) (dZip ma) := by
  intro pv F H σ e as held R0 c w
  refine ha pv F H σ e as held _ c (WA.bindI w fun r1 e1 v1 F1 H1 as1 tr1 s1 c1 rr1 w1 => ?_)
  cases q : frzRs r1 e1 with
  | none => simp only [q] at w1; exact w1.elim
  | some p =>
    obtain ⟨ds, e2⟩ := p
    simp only [q] at w1
    obtain ⟨F2, as2, s2, c2, rp⟩ := c1.frzRs rr1 q
    cases q2 : twoL ds with
    | none => simp only [q2] at w1; exact w1.elim
    | some xs =>
      obtain ⟨xs, ys⟩ := xs
      simp only [q2] at w1
      rw [twoL_some q2] at rp
      obtain ⟨v, v', e3, ⟨p, vs, ev, h1, h2⟩, ⟨p', vs', ev', h1', h2'⟩⟩ := reps2 rp
      subst ev ev'
      exact ⟨p, p', vs, vs', e3, SqL.of (c2.s _ _ h1), SqL.of (c2.s _ _ h1'), w1 _ F2 H1 as2 (s1.trans s2) c2 (it_zip h1 h2 h1' h2')⟩

/-! ### targets -/
abbrev Tg := D → Env → Option Env
abbrev Tgs := List D → Env → Option Env
def SG (K : PySem.W.Frag) (mg : Str → Option Value) (L : List Nat) (tg : TG) (g : Tg) : Prop := ∀ pv F H σ e as held v d e' Q, Cf K mg pv F H σ e as held → Rep K mg F v d → g d e = some e' → (∀ σ' as', (∀ vs, (∀ i ∈ L, i ∈ vs) → wipe σ' vs = wipe σ vs) → Cf K mg pv F H σ' e' as' held → Q σ' H) → tg v σ H Q
def SGs (K : PySem.W.Frag) (mg : Str → Option Value) (L : List Nat) (tg : TGs) (g : Tgs) : Prop := ∀ pv F H σ e as held v d e' Q, Cf K mg pv F H σ e as held → Reps K mg F v d → g d e = some e' → (∀ σ' as', (∀ vs, (∀ i ∈ L, i ∈ vs) → wipe σ' vs = wipe σ vs) → Cf K mg pv F H σ' e' as' held → Q σ' H) → tg v σ H Q
def gN (i : Nat) : Tg := fun d e => putR i (.fz d) e
theorem wipe_set {σ : L2.St} {i : Nat} {x : Option V} : ∀ {vs : List Nat}, i ∈ vs → wipe (σ.set i x) vs = wipe σ vs
  | v :: vs, h => by
    by_cases hv : i ∈ vs
    · show (wipe (σ.set i x) vs).set v none = (wipe σ vs).set v none
      rw [wipe_set hv]
    · have e : i = v := by
        rcases List.mem_cons.mp h with q | q
        · exact q
        · exact absurd q hv
      subst e
      have key : ∀ (us : List Nat), i ∉ us → wipe (σ.set i x) us = (wipe σ us).set i x := fun us => by
        induction us with
        | nil => intro _; rfl
        | cons u us ih =>
          intro hu
          have h1 : i ≠ u := fun z => hu (by rw [z]; exact List.mem_cons_self)
          show (wipe (σ.set i x) us).set u none = ((wipe σ us).set u none).set i x
          rw [ih fun z => hu (List.mem_cons_of_mem _ z), List.set_comm _ _ h1]
      show (wipe (σ.set i x) vs).set i none = (wipe σ vs).set i none
      rw [key vs hv, List.set_set]
theorem sg_name {i : Nat} : SG K mg [i] (gName i) (gN i) := by
  intro pv F H σ e as held v d e' Q c r q k
  unfold gN VF.putR at q
  by_cases hi : i ∈ e.pn
  · rw [if_pos hi] at q; cases q
  · rw [if_neg hi] at q
    cases q
    exact k _ _ (fun vs h => wipe_set (h i List.mem_cons_self)) ((c.fz r).store (t := .fz v d) hi)
def gNo : Tgs := fun ds e => match ds with
  | [] => some e
  | _ => none
def gCo (g : Tg) (h : Tgs) : Tgs := fun ds e => match ds with
  | d :: r => (match g d e with
    | some e1 => h r e1
    | none => none)
  | [] => none
theorem sgs_nil : SGs K mg [] gNil gNo := by
  intro pv F H σ e as held v d e' Q c r q k
  cases d with
  | nil =>
    cases v with
    | nil => cases q; exact ⟨rfl, k σ as (fun _ _ => rfl) c⟩
    | cons _ _ => exact r.elim
  | cons _ _ => cases q
theorem sgs_cons {L L' : List Nat} {t : TG} {u : TGs} {g : Tg} {h : Tgs} (hg : SG K mg L t g) (hh : SGs K mg L' u h) : SGs K mg (L ++ L') (gCons t u) (gCo g h) := by
  intro pv F H σ e as held v d e' Q c r q k
  cases d with
  | nil => cases q
  | cons d ds =>
    cases v with
    | nil => exact r.elim
    | cons v vs =>
      have q' : (match g d e with | some e1 => h ds e1 | none => none) = some e' := q
      cases q1 : g d e with
      | none => rw [q1] at q'; cases q'
      | some e1 =>
        rw [q1] at q'
        exact ⟨v, vs, rfl, hg pv F H σ e as held v d e1 _ c r.1 q1 fun σ' as' hw c' => hh pv F H σ' e1 as' held vs ds e' Q c' r.2 q' fun σ2 as2 hw2 c2 => k σ2 as2 (fun ws h => (hw2 ws fun i hi => h i (List.mem_append_right _ hi)).trans (hw ws fun i hi => h i (List.mem_append_left _ hi))) c2⟩
def gTp (n : Nat) (h : Tgs) : Tg := fun d e => match d with
  | .tup ds => if ds.length = n then h ds e else none
  | _ => none
theorem sg_tup {L : List Nat} {n : Nat} {u : TGs} {h : Tgs} (hh : SGs K mg L u h) : SG K mg L (gTup K n u) (gTp n h) := by
  intro pv F H σ e as held v d e' Q c r q k
  cases d with
  | tup ds =>
    obtain ⟨p, vs, ev, h1, h2⟩ := r
    have q' : (if ds.length = n then h ds e else none) = some e' := q
    by_cases hn : ds.length = n
    · rw [if_pos hn] at q'
      exact ⟨p, vs, ev, SqT_same c.s h1, by rw [h2.length]; exact hn, hh pv F H σ e as held vs ds e' Q c h2 q' k⟩
    · rw [if_neg hn] at q'; cases q'
  | _ => cases q
/-! ### for -/
def loopF (g : Tg) (body : M Fl) : List D → M Fl
  | [] => fun e => .ok .nx e
  | d :: ds => fun e => match g d e with
    | none => .st
    | some e1 => (match body e1 with
      | .ok .nx e2 => loopF g body ds e2
      | .ok .ct e2 => loopF g body ds e2
      | .ok .bk e2 => .ok .nx e2
      | .ok (.rt r) e2 => .ok (.rt r) e2
      | .ex x e2 => .ex x e2
      | .st => .st)
def dFor (it : M (List D)) (g : Tg) (body : M Fl) : M Fl := it.bind fun ds => loopF g body ds
theorem WI.bindS {f : List D → M Fl} {m : M (List D)} {D' : Ends} (h : WS K mg pv F held E D' ((m e).bind f)) {P : It → Hp → Prop}
    (k : ∀ ds e' J F' H' as', Same F F' → Cf K mg pv F' H' σ e' as' held → ItOk K mg F' J ds → WS K mg pv F held E D' (f ds e') → P J H') : WI K mg pv F held σ P E (m e) := by
  cases q : m e with
  | st => rw [q] at h; exact h.elim
  | ok r e' => rw [q] at h; exact fun J F' H' as' s c it => k r e' J F' H' as' s c it h
  | ex x e' => rw [q] at h; exact h
theorem ss_for {L : List Nat} {wi : TI} {tg : TG} {tb : TS} {mi : M (List D)} {g : Tg} {mb : M Fl} (hi : SI K mg E wi mi) (hg : SG K mg L tg g) (hb : SS K mg E tb mb) : SS K mg E (tFor wi tg tb) (dFor mi g mb) := by
  intro pv F H σ e as held D' c w
  refine hi pv F H σ e as held _ c (WI.bindS w fun ds e1 J F1 H1 as1 s1 c1 it w1 => ?_)
  refine ⟨fun i m σ H => m = ds.length - i ∧ ∃ F e as, Same F1 F ∧ Cf K mg pv F H σ e as held ∧ WS K mg pv F held E D' (loopF g mb (ds.drop i) e), ⟨_, rfl, F1, e1, as1, Same.refl _, c1, WS.mono s1 w1⟩, ?_⟩
  rintro i m σ2 H2 ⟨rfl, F2, e2, as2, s2, c2, w2⟩
  by_cases hlt : i < ds.length
  · refine .inr ⟨it.go i F2 H2 s2 c2.s hlt, fun σ' H' => ∃ F e as, Same F1 F ∧ Cf K mg pv F H' σ' e as held ∧ WS K mg pv F held E D' (loopF g mb (ds.drop (i + 1)) e), fun σ' H' ⟨F3, e3, as3, s3, c3, w3⟩ => ⟨ds.length - (i + 1), by omega, rfl, F3, e3, as3, s3, c3, w3⟩, fun x H' y => ?_⟩
    obtain ⟨F3, d, s3, s3', gg, hd, rd⟩ := it.yld i F2 H2 x H' s2 c2.s hlt y
    have c3 : Cf K mg pv F3 H' σ2 e2 as2 held := ⟨s3', c2.r, gg _ c2.g⟩
    have e4 : ds.drop i = d :: ds.drop (i + 1) := by
      have hdd : ds[i] = d := by rw [List.getElem?_eq_getElem hlt] at hd; exact Option.some.inj hd
      rw [List.drop_eq_getElem_cons hlt, hdd]
    rw [e4] at w2
    have w2' : WS K mg pv F2 held E D' (match g d e2 with
      | none => .st
      | some e1 => (match mb e1 with
        | .ok .nx e2 => loopF g mb (ds.drop (i + 1)) e2
        | .ok .ct e2 => loopF g mb (ds.drop (i + 1)) e2
        | .ok .bk e2 => .ok .nx e2
        | .ok (.rt r) e2 => .ok (.rt r) e2
        | .ex x e2 => .ex x e2
        | .st => .st)) := w2
    cases q1 : g d e2 with
    | none => rw [q1] at w2'; exact w2'.elim
    | some e3 =>
      rw [q1] at w2'
      refine hg pv F3 H' σ2 e2 as2 held x d e3 _ c3 rd q1 fun σ4 as4 _ c4 => ?_
      refine hb pv F3 H' σ4 e3 as4 held _ c4 ?_
      simp only at w2'
      cases q2 : mb e3 with
      | st => rw [q2] at w2'; exact w2'.elim
      | ex x e5 => rw [q2] at w2'; exact WX.mono s3 w2'
      | ok f e5 =>
        rw [q2] at w2'
        cases f with
        | nx => exact fun σ5 F5 H5 as5 s5 c5 => ⟨F5, e5, as5, (s2.trans s3).trans s5, c5, WS.mono (s3.trans s5) w2'⟩
        | ct => exact fun σ5 F5 H5 as5 s5 c5 => ⟨F5, e5, as5, (s2.trans s3).trans s5, c5, WS.mono (s3.trans s5) w2'⟩
        | bk => exact fun σ5 F5 H5 as5 s5 c5 => w2' σ5 F5 H5 as5 (s3.trans s5) c5
        | rt r => exact fun v σ5 F5 H5 as5 tr5 s5 c5 rr => w2' v σ5 F5 H5 as5 tr5 (s3.trans s5) c5 rr
  · refine .inl ⟨it.stop i F2 H2 s2 c2.s (by omega), ?_⟩
    rw [List.drop_eq_nil_of_le (by omega)] at w2
    exact w2 σ2 F2 H2 as2 (Same.refl _) c2
/-! ### while -/
def loopW (c : M Bool) (body : M Fl) : Nat → M Fl
  | 0 => fun _ => .st
  | n + 1 => c.bind fun b => match b with
    | false => fun e => .ok .nx e
    | true => fun e => (match body e with
      | .ok .nx e2 => loopW c body n e2
      | .ok .ct e2 => loopW c body n e2
      | .ok .bk e2 => .ok .nx e2
      | .ok (.rt r) e2 => .ok (.rt r) e2
      | .ex x e2 => .ex x e2
      | .st => .st)
theorem ss_while {n : Nat} {tc : TT} {tb : TS} {mc : M Bool} {mb : M Fl} (hc : ST K mg E tc mc) (hb : SS K mg E tb mb) : SS K mg E (tWhile tc tb) (loopW mc mb n) := by
  intro pv F H σ e as held D' c w
  refine ⟨fun m σ H => ∃ F1 e as, Same F F1 ∧ Cf K mg pv F1 H σ e as held ∧ WS K mg pv F1 held E D' (loopW mc mb m e), ⟨n, F, e, as, Same.refl _, c, w⟩, ?_⟩
  rintro m σ2 H2 ⟨F2, e2, as2, s2, c2, w2⟩
  cases m with
  | zero => exact w2.elim
  | succ m =>
    refine hc pv F2 H2 σ2 e2 as2 held _ c2 (WT.bindT (W := WS K mg pv F2 held E D') (fun z => z) w2 (fun _ _ z => z) fun b e3 F3 H3 as3 s3 c3 w3 => ?_)
    cases b with
    | false => exact w3 σ2 F3 H3 as3 s3 c3
    | true =>
      refine ⟨fun σ' H' => ∃ F1 e as, Same F F1 ∧ Cf K mg pv F1 H' σ' e as held ∧ WS K mg pv F1 held E D' (loopW mc mb m e), fun σ' H' z => ⟨m, Nat.lt_succ_self _, z⟩, ?_⟩
      refine hb pv F3 H3 σ2 e3 as3 held _ c3 ?_
      simp only at w3
      cases q2 : mb e3 with
      | st => rw [q2] at w3; exact w3.elim
      | ex x e5 => rw [q2] at w3; exact WX.mono s3 w3
      | ok f e5 =>
        rw [q2] at w3
        cases f with
        | nx => exact fun σ5 F5 H5 as5 s5 c5 => ⟨F5, e5, as5, (s2.trans s3).trans s5, c5, WS.mono (s3.trans s5) w3⟩
        | ct => exact fun σ5 F5 H5 as5 s5 c5 => ⟨F5, e5, as5, (s2.trans s3).trans s5, c5, WS.mono (s3.trans s5) w3⟩
        | bk => exact fun σ5 F5 H5 as5 s5 c5 => w3 σ5 F5 H5 as5 (s3.trans s5) c5
        | rt r => exact fun v σ5 F5 H5 as5 tr5 s5 c5 rr => w3 v σ5 F5 H5 as5 tr5 (s3.trans s5) c5 rr
end
end VF

set_option maxRecDepth 100000
set_option maxHeartbeats 4000000
/-! Comprehensions. -/
namespace VF
set_option autoImplicit false
open PySem PySem.Spec PyProof.Rows L2
open AT (cells cellsL er ers)
section
variable {K : PySem.W.Frag} {mg : Str → Option Value} {pv : List (Nat × V)} {F F' H H' : Hp} {σ : L2.St} {e e' : Env} {as as' : List (Option AT)} {held tr ts us : List AT} {E : XS}
def wipeE : List Nat → Env → Env
  | [], e => e
  | v :: vs, e => (wipeE vs e).clr v
theorem wipeE_pn : ∀ (vs : List Nat) (e : Env), (wipeE vs e).pn = e.pn
  | [], _ => rfl
  | _ :: vs, e => wipeE_pn vs e
theorem Cf.wipe1 {v : Nat} (c : Cf K mg pv F H σ e as us) (hv : v ∉ e.pn) : Cf K mg pv F H (σ.set v none) (e.clr v) (as.set v none) us := by
  refine ⟨c.s, ⟨?_, by rw [List.length_set, List.length_set]; exact c.r.len, fun j u hj => ?_, fun p hp => ?_⟩, ?_⟩
  · show e.sl.set v none = _
    rw [List.map_set, c.r.sl]; rfl
  · by_cases q : j = v
    · subst q
      have hlt : j < as.length := by simpa using (List.getElem?_eq_some_iff.mp hj).1
      rw [List.getElem?_set_self hlt] at hj
      cases hj
    · rw [List.getElem?_set_ne (Ne.symm q)] at hj ⊢
      exact c.r.at_ j u hj
  · obtain ⟨h1, h2⟩ := c.r.pin p hp
    refine ⟨h1, ?_⟩
    have ne : v ≠ p.1 := fun q => hv (by rw [q]; exact h1)
    rw [List.getElem?_set_ne ne]
    exact h2
  · cases z : as[v]? with
    | none =>
      rw [List.set_eq_of_length_le (List.getElem?_eq_none_iff.mp z)]
      exact c.g
    | some o =>
      cases o with
      | none =>
        have hlt : v < as.length := (List.getElem?_eq_some_iff.mp z).1
        have e0 : as[v] = none := by rw [List.getElem?_eq_getElem hlt] at z; exact Option.some.inj z
        rw [← e0, List.set_getElem_self]
        exact c.g
      | some t => exact (c.take z).tail
def wipeA : List Nat → List (Option AT) → List (Option AT)
  | [], as => as
  | v :: vs, as => (wipeA vs as).set v none
theorem Cf.wipe : ∀ {vs : List Nat} {e : Env} {as : List (Option AT)}, Cf K mg pv F H σ e as us → (∀ v ∈ vs, v ∉ e.pn) → Cf K mg pv F H (wipe σ vs) (wipeE vs e) (wipeA vs as) us
  | [], _, _, c, _ => c
  | v :: vs, e, as, c, h => (Cf.wipe (vs := vs) c fun u hu => h u (List.mem_cons_of_mem _ hu)).wipe1 (by rw [wipeE_pn]; exact h v List.mem_cons_self)
theorem wipe_wipe : ∀ (vs : List Nat) (σ : L2.St), wipe (wipe σ vs) vs = wipe σ vs := by
  intro vs σ
  have key : ∀ (us ws : List Nat), (∀ v ∈ ws, v ∈ us) → wipe (wipe σ ws) us = wipe σ us := fun us ws => by
    induction ws with
    | nil => intro _; rfl
    | cons w ws ih =>
      intro h
      show wipe ((wipe σ ws).set w none) us = _
      rw [wipe_set (h w List.mem_cons_self), ih fun v hv => h v (List.mem_cons_of_mem _ hv)]
  exact key vs vs fun _ h => h
def noPn (own : List Nat) (e : Env) : Bool := own.all fun v => !e.pn.contains v
theorem noPn_ok {own : List Nat} (h : noPn own e = true) : ∀ v ∈ own, v ∉ e.pn := fun v hv q => by
  have := List.all_eq_true.mp h v hv
  rw [List.contains_iff_mem.mpr q] at this
  cases this
def restE : List Nat → Env → Env → Option Env
  | [], _, e1 => some e1
  | v :: vs, e0, e1 => if vs.contains v = true then none else if isClr e1 v = true then (match e0.sl[v]? with
    | some none => restE vs e0 e1
    | some (some (.fz d)) => restE vs e0 (e1.setS v (.fz d))
    | _ => none) else none
theorem Cf.rest {e0 : Env} : ∀ {own : List Nat} {σ : L2.St} {e1 e2 : Env} {as1 : List (Option AT)}, Cf K mg pv F H (L2.wipe σ own) e1 as1 us → (∀ (v : Nat) (d : D), v ∈ own → e0.sl[v]? = some (some (.fz d)) → ∃ u, σ[v]? = some (some u) ∧ Rep K mg F u d) → restE own e0 e1 = some e2 →
    ∃ as2, Cf K mg pv F H σ e2 as2 us
  | [], σ, e1, e2, as1, c, _, q => by
    have q' : some e1 = some e2 := q
    cases q'
    exact ⟨as1, c⟩
  | v :: vs, σ, e1, e2, as1, c, h, q => by
    unfold restE at q
    by_cases h1 : vs.contains v = true
    · rw [if_pos h1] at q; cases q
    rw [if_neg h1] at q
    have hv : v ∉ vs := fun z => h1 (List.contains_iff_mem.mpr z)
    by_cases h2 : isClr e1 v = true
    · rw [if_pos h2] at q
      have hc := isClr_ok h2
      have ha : as1[v]? = some none := by
        rw [c.r.sl, List.getElem?_map] at hc
        cases z : as1[v]? with
        | none => rw [z] at hc; cases hc
        | some o => cases o with
          | none => rfl
          | some u => rw [z] at hc; cases hc
      have weak : ∀ (j : Nat) (u : V), (L2.wipe σ (v :: vs))[j]? = some (some u) → (L2.wipe σ vs)[j]? = some (some u) := fun j u hj => by
        have hj' : ((L2.wipe σ vs).set v none)[j]? = some (some u) := hj
        by_cases z : j = v
        · subst z
          have hlt : j < ((L2.wipe σ vs).set j none).length := (List.getElem?_eq_some_iff.mp hj').1
          rw [List.getElem?_set_self (by simpa using hlt)] at hj'
          cases hj'
        · rwa [List.getElem?_set_ne (Ne.symm z)] at hj'
      have ln : (L2.wipe σ vs).length = as1.length := by
        have := c.r.len
        rw [show L2.wipe σ (v :: vs) = (L2.wipe σ vs).set v none from rfl, List.length_set] at this
        exact this
      have c1 : Cf K mg pv F H (L2.wipe σ vs) e1 as1 us := ⟨c.s, ⟨c.r.sl, ln, fun j u hj => weak j _ (c.r.at_ j u hj), fun p hp => ⟨(c.r.pin p hp).1, weak _ _ (c.r.pin p hp).2⟩⟩, c.g⟩
      cases z : e0.sl[v]? with
      | none => rw [z] at q; cases q
      | some o =>
        cases o with
        | none =>
          rw [z] at q
          exact Cf.rest c1 (fun u d hu => h u d (List.mem_cons_of_mem _ hu)) q
        | some s =>
          cases s with
          | fz d =>
            rw [z] at q
            obtain ⟨u, hu, ru⟩ := h v d List.mem_cons_self z
            have hlt : v < as1.length := (List.getElem?_eq_some_iff.mp ha).1
            have hsv : (L2.wipe σ vs)[v]? = some (some u) := by rw [wipe_out hv]; exact hu
            have c2 : Cf K mg pv F H (L2.wipe σ vs) (e1.setS v (.fz d)) (as1.set v (some (.fz u d))) us := by
              refine ⟨c1.s, ⟨?_, by rw [List.length_set]; exact ln, fun j w hj => ?_, c1.r.pin⟩, ?_⟩
              · show e1.sl.set v (some (.fz d)) = _
                rw [List.map_set, c1.r.sl]; rfl
              · by_cases zz : j = v
                · subst zz
                  rw [List.getElem?_set_self hlt] at hj
                  cases hj
                  exact hsv
                · rw [List.getElem?_set_ne (Ne.symm zz)] at hj
                  exact c1.r.at_ j w hj
              · exact (c1.g.fz ru).perm ((opts_put (.fz u d) ha).append_right us)
            exact Cf.rest c2 (fun u d hu => h u d (List.mem_cons_of_mem _ hu)) q
          | _ => rw [z] at q; cases q
    · rw [if_neg h2] at q; cases q
theorem Cf.relistH {p : Addr} {xs ys zs junk : List AT} (c : Cf K mg pv F H σ e as (.ol p xs :: us)) (pm : (xs ++ us).Perm (junk ++ (ys ++ zs))) : Cf K mg pv F (upd H p (.lst (vals ys))) σ e as (.ol p ys :: zs) := by
  have g : Good K mg F H (.ol p xs :: (opts as ++ us)) := c.g.perm (List.perm_middle (l₁ := opts as) (l₂ := us) (a := AT.ol p xs))
  have g2 : Good K mg F (upd H p (.lst (vals ys))) (.ol p ys :: (opts as ++ zs)) := g.relist (junk := junk) ((pswap _ _ _).trans ((pm.append_left _).trans ((pswap _ _ _).trans (List.Perm.append_left _ (pswap _ _ _)))))
  exact ⟨same_own c.s g.cell.2, c.r, g2.perm (List.perm_middle (l₁ := opts as) (l₂ := zs) (a := AT.ol p ys)).symm⟩
theorem atoms_snoc : ∀ {vs : List V} {ds : List D} {v : V} {d : D}, vs.length = ds.length → atoms (vs ++ [v]) (ds ++ [d]) = atoms vs ds ++ [.fz v d]
  | [], [], _, _, _ => rfl
  | v :: vs, d :: ds, _, _, h => by
    show AT.fz v d :: atoms (vs ++ _) (ds ++ _) = AT.fz v d :: (atoms vs ds ++ _)
    rw [atoms_snoc (by simpa using h)]
  | [], _ :: _, _, _, h => by cases h
  | _ :: _, [], _, _, h => by cases h
/-- the loop of a comprehension: acc, the list so far -/
def loopC (own : List Nat) (g : Tg) (tt : M Bool) (te : M RV) : List D → List D → M (List D)
  | [], acc => fun e => .ok acc e
  | d :: ds, acc => fun e => match g d e with
    | none => .st
    | some e1 => (match tt e1 with
      | .ok true e2 => (match te e2 with
        | .ok r e3 => (match frzR r e3 with
          | some (y, e4) => if (decide (acc.length < sizeLine) && noPn own e4) = true then loopC own g tt te ds (acc ++ [y]) (wipeE own e4) else .st
          | none => .st)
        | _ => .st)
      | .ok false e2 => if noPn own e2 = true then loopC own g tt te ds acc (wipeE own e2) else .st
      | _ => .st)
def dComp (own : List Nat) (it : M (List D)) (g : Tg) (tt : M Bool) (te : M RV) : M RV := it.bind fun ds e0 => if noPn own e0 = true then (match loopC own g tt te ds [] (wipeE own e0) with
  | .ok acc e1 => (match restE own e0 e1 with
    | some e2 => .ok (.own (.ol (acc.map .fz))) e2
    | none => .st)
  | _ => .st) else .st
theorem WI.bindE {f : List D → M RV} {m : M (List D)} {Q : VK} (h : WE K mg pv F held σ Q E ((m e).bind f)) {P : It → Hp → Prop}
    (k : ∀ ds e' J F' H' as', Same F F' → Cf K mg pv F' H' σ e' as' held → ItOk K mg F' J ds → WE K mg pv F held σ Q E (f ds e') → P J H') : WI K mg pv F held σ P E (m e) := by
  cases q : m e with
  | st => rw [q] at h; exact h.elim
  | ok r e' => rw [q] at h; exact fun J F' H' as' s c it => k r e' J F' H' as' s c it h
  | ex x e' => rw [q] at h; exact h
def dYes : M Bool := fun e => .ok true e
theorem st_yes : ST K mg E tYes dYes := fun pv F H σ e as held Q c w => w F H as (Same.refl _) c
theorem se_comp {L own : List Nat} {wi : TI} {tg : TG} {tt : TT} {te : TE} {mi : M (List D)} {g : Tg} {mt : M Bool} {me : M RV} (hi : SI K mg E wi mi) (hg : SG K mg L tg g) (hL : ∀ i ∈ L, i ∈ own) (ht : ST K mg E0 tt mt) (he : SE K mg E0 te me) :
    SE K mg E (tLc wi tg tt te own) (dComp own mi g mt me) := by
  intro pv F H σ e as held Q c w
  refine hi pv F H σ e as held _ c (WI.bindE w fun ds e1 J F1 H1 as1 s1 c1 it w1 => ?_)
  intro D hD
  by_cases hp : noPn own e1 = true
  · rw [if_pos hp] at w1
    cases q : loopC own g mt me ds [] (wipeE own e1) with
    | st => rw [q] at w1; exact w1.elim
    | ex _ _ => rw [q] at w1; exact w1.elim
    | ok accF eF =>
      rw [q] at w1
      cases q2 : restE own e1 eF with
      | none => simp only [q2] at w1; exact w1.elim
      | some e2 =>
        simp only [q2] at w1
        have c0 : Cf K mg pv F1 (upd H1 D (.lst [])) σ e1 as1 (.ol D (atoms [] []) :: held) := by
          refine ⟨same_own c1.s (c1.s.free hD), c1.r, ?_⟩
          exact (Good.new (xs := []) c1.g c1.s hD).perm (List.perm_middle (l₁ := opts as1) (l₂ := held)).symm
        have cw := c0.wipe (vs := own) (noPn_ok hp)
        refine ⟨fun i m H => m = ds.length - i ∧ ∃ F e as va acc, Same F1 F ∧ Cf K mg pv F H (wipe σ own) e as (.ol D (atoms va acc) :: held) ∧ Reps K mg F va acc ∧ loopC own g mt me (ds.drop i) acc e = .ok accF eF,
          ⟨_, rfl, F1, _, _, [], [], Same.refl _, cw, trivial, q⟩, ?_⟩
        rintro i m H2 ⟨rfl, F2, e3, as3, va, acc, s2, c2, ra, q3⟩
        by_cases hlt : i < ds.length
        · refine .inr ⟨it.go i F2 H2 s2 c2.s hlt, fun H' => ∃ F e as va acc, Same F1 F ∧ Cf K mg pv F H' (wipe σ own) e as (.ol D (atoms va acc) :: held) ∧ Reps K mg F va acc ∧ loopC own g mt me (ds.drop (i + 1)) acc e = .ok accF eF,
            fun H' ⟨F, e, as, va, acc, z1, z2, z3, z4⟩ => ⟨ds.length - (i + 1), by omega, rfl, F, e, as, va, acc, z1, z2, z3, z4⟩, fun x H' y => ?_⟩
          obtain ⟨F3, d, s3, s3', gg, hd, rd⟩ := it.yld i F2 H2 x H' s2 c2.s hlt y
          have c3 : Cf K mg pv F3 H' (wipe σ own) e3 as3 (.ol D (atoms va acc) :: held) := ⟨s3', c2.r, gg _ c2.g⟩
          have e4 : ds.drop i = d :: ds.drop (i + 1) := by
            have hdd : ds[i] = d := by rw [List.getElem?_eq_getElem hlt] at hd; exact Option.some.inj hd
            rw [List.drop_eq_getElem_cons hlt, hdd]
          rw [e4] at q3
          unfold loopC at q3
          cases q4 : g d e3 with
          | none => simp only [q4] at q3; cases q3
          | some e5 =>
            simp only [q4] at q3
            refine hg pv F3 H' _ e3 as3 _ x d e5 _ c3 rd q4 fun σ4 as4 hw c4 => ?_
            refine ⟨(hw own hL).trans (wipe_wipe own σ), ?_⟩
            refine ht pv F3 H' σ4 e5 as4 _ _ c4 ?_
            cases q5 : mt e5 with
            | st => simp only [q5] at q3; cases q3
            | ex _ _ => simp only [q5] at q3; cases q3
            | ok b e6 =>
              simp only [q5] at q3
              intro F5 H5 as5 s5 c5
              have hwσ : wipe σ4 own = wipe σ own := (hw own hL).trans (wipe_wipe own σ)
              cases b with
              | false =>
                simp only at q3
                rw [if_neg (by decide)]
                by_cases hp2 : noPn own e6 = true
                · rw [if_pos hp2] at q3
                  have c6 := c5.wipe (vs := own) (noPn_ok hp2)
                  rw [hwσ] at c6
                  exact ⟨F5, _, _, va, acc, (s2.trans s3).trans s5, c6, Reps.same (s3.trans s5) ra, q3⟩
                · rw [if_neg hp2] at q3; cases q3
              | true =>
                simp only at q3
                rw [if_pos rfl]
                refine he pv F5 H5 σ4 e6 as5 _ _ c5 ?_
                cases q6 : me e6 with
                | st => simp only [q6] at q3; cases q3
                | ex _ _ => simp only [q6] at q3; cases q3
                | ok r e7 =>
                  simp only [q6] at q3
                  intro y6 F6 H6 as6 tr6 s6 c6 rr6
                  cases q7 : frzR r e7 with
                  | none => simp only [q7] at q3; cases q3
                  | some pr =>
                    obtain ⟨dy, e8⟩ := pr
                    simp only [q7] at q3
                    obtain ⟨F7, as7, s7, c7, ry⟩ := c6.frzR rr6 q7
                    have rva : Reps K mg F7 va acc := Reps.same (((s3.trans s5).trans s6).trans s7) ra
                    by_cases hp2 : (decide (acc.length < sizeLine) && noPn own e8) = true
                    · rw [if_pos hp2] at q3
                      obtain ⟨hp3, hp4⟩ := Bool.and_eq_true_iff.mp hp2
                      have hcell : H6 D = some (.lst va) := by
                        have gg : Good K mg F7 H6 (.ol D (atoms va acc) :: (opts as7 ++ held)) := c7.g.perm (List.perm_middle (l₁ := opts as7) (l₂ := held) (a := AT.ol D (atoms va acc)))
                        have := gg.cell.1
                        rwa [vals_atoms rva] at this
                      refine ⟨va, hcell, by rw [rva.length]; exact of_decide_eq_true hp3, ?_⟩
                      have rsn : Reps K mg F7 (va ++ [y6]) (acc ++ [dy]) := rva.append ⟨ry, trivial⟩
                      have c8 : Cf K mg pv F7 (upd H6 D (.lst (va ++ [y6]))) σ4 e8 as7 (.ol D (atoms (va ++ [y6]) (acc ++ [dy])) :: held) := by
                        have c8 := (c7.fzs ry).perm (List.Perm.swap (AT.ol D (atoms va acc)) (AT.fz y6 dy) held)
                        have c9 := c8.relistH (ys := atoms va acc ++ [.fz y6 dy]) (zs := held) (junk := []) (by simp)
                        rw [← atoms_snoc rva.length, vals_atoms rsn] at c9
                        exact c9
                      have c10 := c8.wipe (vs := own) (noPn_ok hp4)
                      rw [hwσ] at c10
                      exact ⟨F7, _, _, va ++ [y6], acc ++ [dy], ((((s2.trans s3).trans s5).trans s6).trans s7), c10, rsn, q3⟩
                    · rw [if_neg hp2] at q3; cases q3
        · refine .inl ⟨it.stop i F2 H2 s2 c2.s (by omega), ?_⟩
          rw [List.drop_eq_nil_of_le (by omega)] at q3
          unfold loopC at q3
          have q3' : R.ok acc e3 = R.ok accF eF := q3
          cases q3'
          obtain ⟨as4, c4⟩ := c2.rest (e0 := e1) (fun v d hv hz => by
            obtain ⟨t, ht, et⟩ := c1.r.slotOf hz
            have hσ := c1.r.at_ v t ht
            cases t with
            | fz u d' =>
              have ed : d' = d := by simpa [er] using et
              subst ed
              have ok : Rep K mg F1 u d' := Oks.mem.mp c1.g.ok _ (List.mem_append_left _ (mem_opts ht))
              exact ⟨u, hσ, Rep.same s2 ok⟩
            | ol _ _ => simp [er] at et
            | oo _ _ _ _ _ _ => simp [er] at et
            | od _ _ _ => simp [er] at et) q2
          refine w1 (.ref D) F2 H2 as4 [.ol D (atoms va accF)] (s1.trans s2) c4 ⟨_, rfl, rfl, ?_⟩
          show SV.ol (ers (atoms va accF)) = _
          rw [ers_atoms ra]
  · rw [if_neg hp] at w1; exact w1.elim
end
end VF

set_option maxRecDepth 100000
set_option maxHeartbeats 4000000
/-! The rules by constructs: expressions, tests, statements. -/
namespace VF
set_option autoImplicit false
open PySem PySem.Spec PyProof.Rows L2
open AT (cells cellsL er ers)

/-! ### operators on data -/
def fI (g : Int → Int → Int) : D → D → Option D := fun a b => match a, b with
  | .int i, .int j => some (.int (g i j))
  | _, _ => none
def fB (g : Int → Int → Bool) : D → D → Option D := fun a b => match a, b with
  | .int i, .int j => some (.bl (g i j))
  | _, _ => none
def inB (i : Int) (k : Nat) : Bool := decide (-(2 ^ k) < i ∧ i < 2 ^ k)
def fMul : D → D → Option D := fun a b => match a, b with
  | .int i, .int j => if (inB i 64 || inB j 64) = true then some (.int (i * j)) else none
  | _, _ => none
def fMod : D → D → Option D := fun a b => match a, b with
  | .int i, .int j => if 0 < j then some (.int (i % j)) else none
  | _, _ => none
def fDiv : D → D → Option D := fun a b => match a, b with
  | .int i, .int j => if 0 < j ∧ j < 1073741824 then some (.int (i / j)) else none
  | _, _ => none
def fPow : D → D → Option D := fun a b => match a, b with
  | .int i, .int j => if 0 ≤ j ∧ j ≤ 1000000 ∧ i.natAbs < 2 ^ 64 then some (.int (i ^ j.toNat)) else none
  | _, _ => none
section
variable {K : PySem.W.Frag} {mg : Str → Option Value}
theorem opd_I {g : Int → Int → Int} : OpD (rI0 fun i j => .int (g i j)) K mg (fI g) := by
  intro H x y a b d ra rb q
  cases a <;> first | (cases q; done) | (cases b <;> first | (cases q; done) | skip)
  rename_i i j
  cases q
  have e1 : x = .int i := ra
  have e2 : y = .int j := rb
  exact ⟨_, rfl, fun Q k => ⟨i, j, e1, e2, k⟩⟩
theorem opd_B {g : Int → Int → Bool} : OpD (rI0 fun i j => .bl (g i j)) K mg (fB g) := by
  intro H x y a b d ra rb q
  cases a <;> first | (cases q; done) | (cases b <;> first | (cases q; done) | skip)
  rename_i i j
  cases q
  have e1 : x = .int i := ra
  have e2 : y = .int j := rb
  exact ⟨_, rfl, fun Q k => ⟨i, j, e1, e2, k⟩⟩
theorem opd_C {C : Int → Int → Prop} {g : Int → Int → Int} {f : D → D → Option D} (h : ∀ a b d, f a b = some d → ∃ i j, a = .int i ∧ b = .int j ∧ C i j ∧ d = .int (g i j)) : OpD (rI C fun i j => .int (g i j)) K mg f := by
  intro H x y a b d ra rb q
  obtain ⟨i, j, rfl, rfl, c, rfl⟩ := h a b d q
  have e1 : x = .int i := ra
  have e2 : y = .int j := rb
  exact ⟨_, rfl, fun Q k => ⟨i, j, e1, e2, c, k⟩⟩
theorem opd_mul : OpD (rI CMul fun i j => .int (i * j)) K mg fMul := opd_C fun a b d q => by
  unfold fMul at q
  split at q
  · rename_i i j
    split at q
    · rename_i h
      cases q
      refine ⟨i, j, rfl, rfl, ?_, rfl⟩
      rcases Bool.or_eq_true_iff.mp h with h | h
      · exact .inl (of_decide_eq_true h)
      · exact .inr (of_decide_eq_true h)
    · cases q
  · cases q
theorem opd_mod : OpD (rI (fun _ j => 0 < j) fun i j => .int (i % j)) K mg fMod := opd_C fun a b d q => by
  unfold fMod at q
  split at q
  · rename_i i j
    split at q
    · rename_i h
      cases q
      exact ⟨i, j, rfl, rfl, h, rfl⟩
    · cases q
  · cases q
theorem opd_div : OpD (rI CDiv fun i j => .int (i / j)) K mg fDiv := opd_C fun a b d q => by
  unfold fDiv at q
  split at q
  · rename_i i j
    split at q
    · rename_i h
      cases q
      exact ⟨i, j, rfl, rfl, h, rfl⟩
    · cases q
  · cases q
theorem opd_pow : OpD (rI CPow fun i j => .int (i ^ j.toNat)) K mg fPow := opd_C fun a b d q => by
  unfold fPow at q
  split at q
  · rename_i i j
    split at q
    · rename_i h
      cases q
      exact ⟨i, j, rfl, rfl, h, rfl⟩
    · cases q
  · cases q
/-! ### data compared -/
mutual
def toP : D → Option PyData
  | .non => some .none
  | .bl b => some (.bool b)
  | .int i => some (.int i)
  | .str s => some (.str s)
  | .lst ds => (toPs ds).map .list
  | .tup ds => (toPs ds).map .tuple
  | _ => none
def toPs : List D → Option (List PyData)
  | [] => some []
  | d :: ds => match toP d, toPs ds with
    | some p, some ps => some (p :: ps)
    | _, _ => none
end
mutual
theorem dp_of {H : Hp} : ∀ (d : D) {v : V} {p : PyData}, Rep K mg H v d → toP d = some p → Dp K H v p
  | .non, v, p, r, q => by
    have e : v = .non := r
    cases (show some PyData.none = some p from q); subst e; exact .non
  | .bl b, v, p, r, q => by
    have e : v = .bl b := r
    cases (show some (PyData.bool b) = some p from q); subst e; exact .bl b
  | .int i, v, p, r, q => by
    have e : v = .int i := r
    cases (show some (PyData.int i) = some p from q); subst e; exact .int i
  | .str s, v, p, r, q => by
    have e : v = .str s := r
    cases (show some (PyData.str s) = some p from q); subst e; exact .str s
  | .lst ds, v, p, ⟨a, vs, e, h1, h2⟩, q => by
    have q' : (toPs ds).map PyData.list = some p := q
    cases z : toPs ds with
    | none => rw [z] at q'; cases q'
    | some ps => rw [z] at q'; cases q'; subst e; exact .lst (SqL.of h1) (dps_of ds h2 z)
  | .tup ds, v, p, ⟨a, vs, e, h1, h2⟩, q => by
    have q' : (toPs ds).map PyData.tuple = some p := q
    cases z : toPs ds with
    | none => rw [z] at q'; cases q'
    | some ps => rw [z] at q'; cases q'; subst e; exact .tup h1 (dps_of ds h2 z)
  | .ty _, _, _, _, q => nomatch (show (none : Option PyData) = some _ from q)
  | .dct _ _, _, _, _, q => nomatch (show (none : Option PyData) = some _ from q)
  | .obj _ _ _, _, _, _, q => nomatch (show (none : Option PyData) = some _ from q)
  | .scr _, _, _, _, q => nomatch (show (none : Option PyData) = some _ from q)
theorem dps_of {H : Hp} : ∀ (ds : List D) {vs : List V} {ps : List PyData}, Reps K mg H vs ds → toPs ds = some ps → DpAll K H vs ps
  | [], [], ps, _, q => by cases (show some ([] : List PyData) = some ps from q); exact .nil
  | d :: ds, v :: vs, ps, ⟨h1, h2⟩, q => by
    have q' : (match toP d, toPs ds with | some p, some ps => some (p :: ps) | _, _ => none) = some ps := q
    cases z1 : toP d with
    | none => rw [z1] at q'; cases q'
    | some p => cases z2 : toPs ds with
      | none => rw [z1, z2] at q'; cases q'
      | some ps2 => rw [z1, z2] at q'; cases q'; exact .cons (dp_of d h1 z1) (dps_of ds h2 z2)
  | [], _ :: _, _, h, _ => h.elim
  | _ :: _, [], _, h, _ => h.elim
end
/-- a == b of data -/
def eqD (a b : D) : Option Bool := match toP a, toP b with
  | some p, some q => if (SeqAt.shaped p && SeqAt.shaped q) = true then some (PyData.eqv p q) else none
  | _, _ => none
def fEq : D → D → Option D := fun a b => (eqD a b).map .bl
def fNe : D → D → Option D := fun a b => (eqD a b).map fun k => .bl (!k)
theorem eqD_some {a b : D} {k : Bool} (h : eqD a b = some k) : ∃ p q, toP a = some p ∧ toP b = some q ∧ SeqAt.shaped p = true ∧ SeqAt.shaped q = true ∧ PyData.eqv p q = k := by
  unfold eqD at h
  cases z1 : toP a with
  | none => rw [z1] at h; cases h
  | some p => cases z2 : toP b with
    | none => rw [z1, z2] at h; cases h
    | some q =>
      rw [z1, z2] at h
      simp only at h
      split at h
      · rename_i hh
        obtain ⟨h1, h2⟩ := Bool.and_eq_true_iff.mp hh
        exact ⟨p, q, rfl, rfl, h1, h2, Option.some.inj h⟩
      · cases h
theorem opd_eq : OpD (rEqD K) K mg fEq := by
  intro H x y a b d ra rb q
  unfold fEq at q
  cases z : eqD a b with
  | none => rw [z] at q; cases q
  | some k =>
    rw [z] at q; cases q
    obtain ⟨p, q, h1, h2, h3, h4, h5⟩ := eqD_some z
    exact ⟨.bl k, rfl, fun Q hk => ⟨p, q, dp_of a ra h1, dp_of b rb h2, h3, h4, by rw [h5]; exact hk⟩⟩
theorem opd_ne : OpD (rNeD K) K mg fNe := by
  intro H x y a b d ra rb q
  unfold fNe at q
  cases z : eqD a b with
  | none => rw [z] at q; cases q
  | some k =>
    rw [z] at q; cases q
    obtain ⟨p, q, h1, h2, h3, h4, h5⟩ := eqD_some z
    exact ⟨.bl (!k), rfl, fun Q hk => ⟨p, q, dp_of a ra h1, dp_of b rb h2, h3, h4, by rw [h5]; exact hk⟩⟩
/-! ### is None; in -/
def fIsN : D → D → Option D := fun a b => match b with
  | .non => (match a with
    | .non => some (.bl true)
    | _ => some (.bl false))
  | _ => none
def fNotN : D → D → Option D := fun a b => match b with
  | .non => (match a with
    | .non => some (.bl false)
    | _ => some (.bl true))
  | _ => none
theorem rep_ne_non {H : Hp} {v : V} {a : D} (h : Rep K mg H v a) (n : a ≠ .non) : v ≠ .non := by
  intro e
  subst e
  cases a with
  | non => exact n rfl
  | bl b => cases (show V.non = .bl b from h)
  | int b => cases (show V.non = .int b from h)
  | str b => cases (show V.non = .str b from h)
  | ty b => cases (show V.non = .ty b from h)
  | lst ds => obtain ⟨_, _, e, _⟩ := h; cases e
  | tup ds => obtain ⟨_, _, e, _⟩ := h; cases e
  | dct ks ds => obtain ⟨_, _, e, _⟩ := h; cases e
  | obj c ns ds => obtain ⟨_, _, _, _, e, _⟩ := h; cases e
  | scr ns => obtain ⟨_, e, _⟩ := h; cases e
theorem opd_isN : OpD (fun x y H Q => y = .non ∧ Q (.bl (decide (x = .non))) H) K mg fIsN := by
  intro H x y a b d ra rb q
  cases b <;> first | (cases q; done) | skip
  have e2 : y = .non := rb
  by_cases n : a = .non
  · subst n
    have e1 : x = .non := ra
    cases q
    exact ⟨.bl true, rfl, fun Q k => ⟨e2, by rw [e1]; exact k⟩⟩
  · have hx := rep_ne_non ra n
    have q' : d = .bl false := by
      cases a <;> first | exact absurd rfl n | (cases q; rfl)
    subst q'
    exact ⟨.bl false, rfl, fun Q k => ⟨e2, by rw [decide_eq_false hx]; exact k⟩⟩
theorem opd_notN : OpD (fun x y H Q => y = .non ∧ Q (.bl (!decide (x = .non))) H) K mg fNotN := by
  intro H x y a b d ra rb q
  cases b <;> first | (cases q; done) | skip
  have e2 : y = .non := rb
  by_cases n : a = .non
  · subst n
    have e1 : x = .non := ra
    cases q
    exact ⟨.bl false, rfl, fun Q k => ⟨e2, by rw [e1]; exact k⟩⟩
  · have hx := rep_ne_non ra n
    have q' : d = .bl true := by
      cases a <;> first | exact absurd rfl n | (cases q; rfl)
    subst q'
    exact ⟨.bl true, rfl, fun Q k => ⟨e2, by rw [decide_eq_false hx]; exact k⟩⟩
def flatD : D → Bool
  | .non => true
  | .bl _ => true
  | .int _ => true
  | .str _ => true
  | _ => false
def eqF : D → D → Bool
  | .non, .non => true
  | .bl a, .bl b => a == b
  | .bl a, .int b => (if a then 1 else 0) == b
  | .int a, .bl b => a == (if b then 1 else 0)
  | .int a, .int b => a == b
  | .str a, .str b => a == b
  | _, _ => false
/-- x in y: a list, a tuple of flat items, or of data; a text in a text -/
def inD (a b : D) : Option Bool := match b with
  | .lst ds => if (flatD a && ds.all flatD) = true then some (ds.any fun y => eqF y a) else (match toP a, toPs ds with
    | some p, some ps => if (SeqAt.shaped p && SeqAt.shaped (.list ps)) = true then some (ps.any fun z => PyData.eqv z p) else none
    | _, _ => none)
  | .tup ds => if (flatD a && ds.all flatD) = true then some (ds.any fun y => eqF y a) else none
  | .str z => (match a with
    | .str y => some (!(Builtin.Str.occurrences z y 0 z.length 1).isEmpty)
    | _ => none)
  | _ => none
def fIn : D → D → Option D := fun a b => (inD a b).map .bl
def fNotIn : D → D → Option D := fun a b => (inD a b).map fun k => .bl (!k)
theorem flat_rep {H : Hp} {v : V} {a : D} (h : Rep K mg H v a) (f : flatD a = true) : flatV v = true := by
  cases a <;> first | (cases f; done) | (cases (show v = _ from h); rfl)
theorem eqF_rep {H : Hp} {v w : V} {a b : D} (h : Rep K mg H v a) (h' : Rep K mg H w b) (f : flatD a = true) (f' : flatD b = true) : eqV v w = eqF a b := by
  cases a <;> first | (cases f; done) | skip
  all_goals (cases b <;> first | (cases f'; done) | skip)
  all_goals (cases (show v = _ from h); cases (show w = _ from h'); rfl)
theorem flats_rep {H : Hp} : ∀ {vs : List V} {ds : List D}, Reps K mg H vs ds → ds.all flatD = true → vs.all flatV = true
  | [], [], _, _ => rfl
  | v :: vs, d :: ds, ⟨h1, h2⟩, f => by
    obtain ⟨f1, f2⟩ := Bool.and_eq_true_iff.mp (show (flatD d && ds.all flatD) = true from f)
    show (flatV v && vs.all flatV) = true
    rw [flat_rep h1 f1, flats_rep h2 f2]; rfl
  | [], _ :: _, h, _ => h.elim
  | _ :: _, [], h, _ => h.elim
theorem inV_rep {H : Hp} {x : V} {a : D} (hx : Rep K mg H x a) (fx : flatD a = true) : ∀ {vs : List V} {ds : List D}, Reps K mg H vs ds → ds.all flatD = true → inV x vs = ds.any fun y => eqF y a
  | [], [], _, _ => rfl
  | v :: vs, d :: ds, ⟨h1, h2⟩, f => by
    obtain ⟨f1, f2⟩ := Bool.and_eq_true_iff.mp (show (flatD d && ds.all flatD) = true from f)
    show (eqV v x || inV x vs) = (eqF d a || _)
    rw [eqF_rep h1 hx f1 fx, inV_rep hx fx h2 f2]
  | [], _ :: _, h, _ => h.elim
  | _ :: _, [], h, _ => h.elim
def rInS (neg : Bool) : R2 := fun x y H Q => ∃ i j, x = .str i ∧ y = .str j ∧ Q (.bl (if neg then !(!(Builtin.Str.occurrences j i 0 j.length 1).isEmpty) else !(Builtin.Str.occurrences j i 0 j.length 1).isEmpty)) H
def rInA (K : PySem.W.Frag) : R2 := fun x y H Q => rIn K false x y H Q ∨ rInD K x y H Q ∨ (∃ i j, x = .str i ∧ y = .str j ∧ Q (.bl (!(Builtin.Str.occurrences j i 0 j.length 1).isEmpty)) H)
def rNotInA (K : PySem.W.Frag) : R2 := fun x y H Q => rIn K true x y H Q ∨ rNotInD K x y H Q ∨ (∃ i j, x = .str i ∧ y = .str j ∧ Q (.bl (!(!(Builtin.Str.occurrences j i 0 j.length 1).isEmpty))) H)
theorem op_inA {X : Cx} (hu : X.A.units + 65 < cLine) : OpR X (compareOp .In) (rInA X.K) := op_in_seq.or ((op_inD hu).or op_in_str)
theorem op_notInA {X : Cx} (hu : X.A.units + 65 < cLine) : OpR X (compareOp .NotIn) (rNotInA X.K) := op_notIn_seq.or ((op_notInD hu).or op_notin_str)
theorem inD_ok {H : Hp} {x y : V} {a b : D} {k : Bool} (ra : Rep K mg H x a) (rb : Rep K mg H y b) (q : inD a b = some k) : ∀ Q : VK, (Q (.bl k) H → rInA K x y H Q) ∧ (Q (.bl (!k)) H → rNotInA K x y H Q) := by
  intro Q
  cases b with
  | lst ds =>
    obtain ⟨p, vs, e, h1, h2⟩ := rb
    unfold inD at q
    simp only at q
    split at q
    · rename_i h
      obtain ⟨f1, f2⟩ := Bool.and_eq_true_iff.mp h
      have ek : (ds.any fun y => eqF y a) = k := Option.some.inj q
      have ei := inV_rep ra f1 h2 f2
      rw [ek] at ei
      exact ⟨fun hk => .inl ⟨p, vs, e, .inl (SqL.of h1), flat_rep ra f1, flats_rep h2 f2, by rw [ei]; exact hk⟩, fun hk => .inl ⟨p, vs, e, .inl (SqL.of h1), flat_rep ra f1, flats_rep h2 f2, by rw [ei]; exact hk⟩⟩
    · cases z1 : toP a with
      | none => rw [z1] at q; cases q
      | some pa =>
        cases z2 : toPs ds with
        | none => rw [z1, z2] at q; cases q
        | some ps =>
          rw [z1, z2] at q
          simp only at q
          split at q
          · rename_i h
            obtain ⟨f1, f2⟩ := Bool.and_eq_true_iff.mp h
            have ek : (ps.any fun z => PyData.eqv z pa) = k := Option.some.inj q
            subst e
            have d1 := dp_of a ra z1
            have d2 : Dp K H (.ref p) (.list ps) := .lst (SqL.of h1) (dps_of ds h2 z2)
            exact ⟨fun hk => .inr (.inl ⟨pa, ps, d1, d2, f1, f2, by rw [ek]; exact hk⟩), fun hk => .inr (.inl ⟨pa, ps, d1, d2, f1, f2, by rw [ek]; exact hk⟩)⟩
          · cases q
  | tup ds =>
    obtain ⟨p, vs, e, h1, h2⟩ := rb
    unfold inD at q
    simp only at q
    split at q
    · rename_i h
      obtain ⟨f1, f2⟩ := Bool.and_eq_true_iff.mp h
      have ek : (ds.any fun y => eqF y a) = k := Option.some.inj q
      have ei := inV_rep ra f1 h2 f2
      rw [ek] at ei
      exact ⟨fun hk => .inl ⟨p, vs, e, .inr h1, flat_rep ra f1, flats_rep h2 f2, by rw [ei]; exact hk⟩, fun hk => .inl ⟨p, vs, e, .inr h1, flat_rep ra f1, flats_rep h2 f2, by rw [ei]; exact hk⟩⟩
    · cases q
  | str z =>
    cases a with
    | str w =>
      have e1 : x = .str w := ra
      have e2 : y = .str z := rb
      have ek : (!(Builtin.Str.occurrences z w 0 z.length 1).isEmpty) = k := Option.some.inj q
      exact ⟨fun hk => .inr (.inr ⟨w, z, e1, e2, by rw [ek]; exact hk⟩), fun hk => .inr (.inr ⟨w, z, e1, e2, by rw [ek]; exact hk⟩)⟩
    | _ => cases q
  | _ => cases q
theorem opd_in : OpD (rInA K) K mg fIn := by
  intro H x y a b d ra rb q
  unfold fIn at q
  cases z : inD a b with
  | none => rw [z] at q; cases q
  | some k => rw [z] at q; cases q; exact ⟨.bl k, rfl, fun Q hk => (inD_ok ra rb z Q).1 hk⟩
theorem opd_notIn : OpD (rNotInA K) K mg fNotIn := by
  intro H x y a b d ra rb q
  unfold fNotIn at q
  cases z : inD a b with
  | none => rw [z] at q; cases q
  | some k => rw [z] at q; cases q; exact ⟨.bl (!k), rfl, fun Q hk => (inD_ok ra rb z Q).2 hk⟩
/-! ### built-ins -/
def lenD : List D → Option D
  | [.lst ds] => some (.int (ds.length : Nat))
  | [.tup ds] => some (.int (ds.length : Nat))
  | [.scr ns] => some (.int (ns.length : Nat))
  | [.str z] => if z.length ≤ sizeLine then some (.int (z.length : Nat)) else none
  | _ => none
theorem cbd_len : CbD (fun xs H Q => ∃ x n, xs = [x] ∧ LenV K x H n ∧ Q (.int n) H) K mg lenD := by
  intro H xs as d r q
  match as, r with
  | [a], r =>
    obtain ⟨v, e, rv⟩ := reps1 r
    subst e
    cases a with
    | lst ds =>
      obtain ⟨p, vs, e, h1, h2⟩ := rv
      subst e
      cases q
      exact ⟨_, rfl, fun Q k => ⟨_, ds.length, rfl, .inl ⟨vs, SqL.of h1, h2.length.symm⟩, k⟩⟩
    | tup ds =>
      obtain ⟨p, vs, e, h1, h2⟩ := rv
      subst e
      cases q
      exact ⟨_, rfl, fun Q k => ⟨_, ds.length, rfl, .inr ⟨vs, h1, h2.length.symm⟩, k⟩⟩
    | scr ns =>
      obtain ⟨p, e, h1⟩ := rv
      subst e
      cases q
      exact ⟨_, rfl, fun Q k => ⟨_, ns.length, rfl, .inl ⟨_, h1, (List.length_map _).symm⟩, k⟩⟩
    | str z =>
      have e : v = .str z := rv
      subst e
      have q' : (if z.length ≤ sizeLine then some (D.int (z.length : Nat)) else none) = some d := q
      split at q'
      · rename_i h
        cases q'
        exact ⟨_, rfl, fun Q k => ⟨_, z.length, rfl, ⟨h, rfl⟩, k⟩⟩
      · cases q'
    | _ => cases q
  | [], _ => simp [lenD] at q
  | _ :: _ :: _, _ => simp [lenD] at q
def intD : List D → Option D
  | [.int i] => some (.int i)
  | [.bl b] => some (.int (if b then 1 else 0))
  | _ => none
theorem cbd_int : CbD (fun xs H Q => (∃ i, xs = [.int i] ∧ Q (.int i) H) ∨ ∃ k, xs = [.bl k] ∧ Q (.int (if k then 1 else 0)) H) K mg intD := by
  intro H xs as d r q
  match as, r with
  | [a], r =>
    obtain ⟨v, e, rv⟩ := reps1 r
    subst e
    cases a with
    | int i => cases q; exact ⟨_, rfl, fun Q k => .inl ⟨i, by rw [show v = .int i from rv], k⟩⟩
    | bl b => cases q; exact ⟨_, rfl, fun Q k => .inr ⟨b, by rw [show v = .bl b from rv], k⟩⟩
    | _ => cases q
  | [], _ => simp [intD] at q
  | _ :: _ :: _, _ => simp [intD] at q
def intsOf : List D → Option (List Int)
  | [] => some []
  | .int i :: ds => (intsOf ds).map (i :: ·)
  | _ => none
theorem intsOf_eq : ∀ {ds : List D} {ns : List Int}, intsOf ds = some ns → ds = ns.map .int
  | [], ns, h => by cases h; rfl
  | d :: ds, ns, h => by
    cases d with
    | int i =>
      have h' : (intsOf ds).map (i :: ·) = some ns := h
      cases z : intsOf ds with
      | none => rw [z] at h'; cases h'
      | some ms => rw [z] at h'; cases h'; rw [intsOf_eq z]; rfl
    | _ => cases h
theorem intsOf_map (ns : List Int) : intsOf (ns.map .int) = some ns := by
  induction ns with
  | nil => rfl
  | cons n ns ih => show (intsOf (ns.map .int)).map (n :: ·) = _; rw [ih]; rfl
/-- a list (not a tuple) of ints -/
def intsL : List D → Option (List Int)
  | [.lst ds] => intsOf ds
  | _ => none
theorem intsL_ok {H : Hp} {xs : List V} {as : List D} {ns : List Int} (r : Reps K mg H xs as) (q : intsL as = some ns) : ∃ a, xs = [.ref a] ∧ H a = some (.lst (ns.map V.int)) := by
  match as, r with
  | [a], r =>
    obtain ⟨v, e, rv⟩ := reps1 r
    subst e
    cases a with
    | lst ds =>
      obtain ⟨p, vs, e, h1, h2⟩ := rv
      have q' : intsOf ds = some ns := q
      rw [intsOf_eq q'] at h2
      rw [h2.ints] at h1
      exact ⟨p, by rw [e], h1⟩
    | _ => cases q
  | [], _ => simp [intsL] at q
  | _ :: _ :: _, _ => simp [intsL] at q
def sumD (as : List D) : Option D := (intsL as).map fun ns => .int ns.sum
theorem cbd_sum : CbD (rSum K) K mg sumD := by
  intro H xs as d r q
  unfold sumD at q
  cases z : intsL as with
  | none => rw [z] at q; cases q
  | some ns =>
    rw [z] at q; cases q
    obtain ⟨a, e, h⟩ := intsL_ok r z
    exact ⟨_, rfl, fun Q k => ⟨a, ns, e, SqL.of h, k⟩⟩
def maxI : Int → List Int → Int
  | m, [] => m
  | m, n :: ns => maxI (if n > m then n else m) ns
def minI : Int → List Int → Int
  | m, [] => m
  | m, n :: ns => minI (if n < m then n else m) ns
theorem maxI_spec : ∀ (m : Int) (ns : List Int), (maxI m ns = m ∨ maxI m ns ∈ ns) ∧ m ≤ maxI m ns ∧ ∀ y ∈ ns, y ≤ maxI m ns
  | m, [] => ⟨.inl rfl, Int.le_refl _, fun _ h => absurd h List.not_mem_nil⟩
  | m, n :: ns => by
    obtain ⟨h1, h2, h3⟩ := maxI_spec (if n > m then n else m) ns
    have e : maxI m (n :: ns) = maxI (if n > m then n else m) ns := rfl
    rw [e]
    refine ⟨?_, ?_, fun y hy => ?_⟩
    · rcases h1 with h1 | h1
      · by_cases c : n > m
        · rw [if_pos c] at h1 ⊢; exact .inr (by rw [h1]; exact List.mem_cons_self)
        · rw [if_neg c] at h1 ⊢; exact .inl h1
      · exact .inr (List.mem_cons_of_mem _ h1)
    · by_cases c : n > m
      · rw [if_pos c] at h2 ⊢; omega
      · rw [if_neg c] at h2 ⊢; omega
    · rcases List.mem_cons.mp hy with q | q
      · subst q
        by_cases c : y > m
        · rw [if_pos c] at h2 ⊢; omega
        · rw [if_neg c] at h2 ⊢; omega
      · exact h3 y q
theorem minI_spec : ∀ (m : Int) (ns : List Int), (minI m ns = m ∨ minI m ns ∈ ns) ∧ minI m ns ≤ m ∧ ∀ y ∈ ns, minI m ns ≤ y
  | m, [] => ⟨.inl rfl, Int.le_refl _, fun _ h => absurd h List.not_mem_nil⟩
  | m, n :: ns => by
    obtain ⟨h1, h2, h3⟩ := minI_spec (if n < m then n else m) ns
    have e : minI m (n :: ns) = minI (if n < m then n else m) ns := rfl
    rw [e]
    refine ⟨?_, ?_, fun y hy => ?_⟩
    · rcases h1 with h1 | h1
      · by_cases c : n < m
        · rw [if_pos c] at h1 ⊢; exact .inr (by rw [h1]; exact List.mem_cons_self)
        · rw [if_neg c] at h1 ⊢; exact .inl h1
      · exact .inr (List.mem_cons_of_mem _ h1)
    · by_cases c : n < m
      · rw [if_pos c] at h2 ⊢; omega
      · rw [if_neg c] at h2 ⊢; omega
    · rcases List.mem_cons.mp hy with q | q
      · subst q
        by_cases c : y < m
        · rw [if_pos c] at h2 ⊢; omega
        · rw [if_neg c] at h2 ⊢; omega
      · exact h3 y q
/-- max(xs), max(a, b) -/
def maxD (as : List D) : Option D := match twoI as with
  | some (i, j) => some (.int (if j > i then j else i))
  | none => (match intsL as with
    | some (n :: ns) => some (.int (maxI n ns))
    | _ => none)
def minD (as : List D) : Option D := match twoI as with
  | some (i, j) => some (.int (if j < i then j else i))
  | none => (match intsL as with
    | some (n :: ns) => some (.int (minI n ns))
    | _ => none)
theorem twoI_ok {H : Hp} {xs : List V} {as : List D} {p : Int × Int} (r : Reps K mg H xs as) (q : twoI as = some p) : xs = [.int p.1, .int p.2] := by
  rw [twoI_some q] at r
  obtain ⟨v, v', e, r1, r2⟩ := reps2 r
  rw [e, show v = .int p.1 from r1, show v' = .int p.2 from r2]
theorem uniq_max {ns : List Int} {m m' : Int} (h1 : m ∈ ns) (h2 : ∀ y, y ∈ ns → y ≤ m) (h3 : m' ∈ ns) (h4 : ∀ y, y ∈ ns → y ≤ m') : m = m' := by
  have := h2 m' h3
  have := h4 m h1
  omega
theorem uniq_min {ns : List Int} {m m' : Int} (h1 : m ∈ ns) (h2 : ∀ y, y ∈ ns → m ≤ y) (h3 : m' ∈ ns) (h4 : ∀ y, y ∈ ns → m' ≤ y) : m = m' := by
  have := h2 m' h3
  have := h4 m h1
  omega
theorem cbd_max : CbD (fun xs H Q => (∃ i j, xs = [.int i, .int j] ∧ Q (.int (if j > i then j else i)) H) ∨ rMax K xs H Q) K mg maxD := by
  intro H xs as d r q
  unfold maxD at q
  cases z : twoI as with
  | some p =>
    obtain ⟨i, j⟩ := p
    rw [z] at q; cases q
    exact ⟨_, rfl, fun Q k => .inl ⟨i, j, twoI_ok r z, k⟩⟩
  | none =>
    rw [z] at q
    cases z2 : intsL as with
    | none => simp only [z2] at q; cases q
    | some l =>
      cases l with
      | nil => simp only [z2] at q; cases q
      | cons n ns =>
        simp only [z2] at q; cases q
        obtain ⟨a, e, h⟩ := intsL_ok r z2
        refine ⟨_, rfl, fun Q k => .inr ⟨a, n :: ns, e, SqL.of h, Nat.succ_pos _, fun m hm hy => ?_⟩⟩
        obtain ⟨h1, h2, h3⟩ := maxI_spec n ns
        have : m = maxI n ns := uniq_max hm hy (by
          rcases h1 with q | q
          · rw [q]; exact List.mem_cons_self
          · exact List.mem_cons_of_mem _ q) fun y hy => by
            rcases List.mem_cons.mp hy with q | q
            · rw [q]; exact h2
            · exact h3 y q
        rw [this]; exact k
theorem cbd_min : CbD (fun xs H Q => (∃ i j, xs = [.int i, .int j] ∧ Q (.int (if j < i then j else i)) H) ∨ rMin K xs H Q) K mg minD := by
  intro H xs as d r q
  unfold minD at q
  cases z : twoI as with
  | some p =>
    obtain ⟨i, j⟩ := p
    rw [z] at q; cases q
    exact ⟨_, rfl, fun Q k => .inl ⟨i, j, twoI_ok r z, k⟩⟩
  | none =>
    rw [z] at q
    cases z2 : intsL as with
    | none => simp only [z2] at q; cases q
    | some l =>
      cases l with
      | nil => simp only [z2] at q; cases q
      | cons n ns =>
        simp only [z2] at q; cases q
        obtain ⟨a, e, h⟩ := intsL_ok r z2
        refine ⟨_, rfl, fun Q k => .inr ⟨a, n :: ns, e, SqL.of h, Nat.succ_pos _, fun m hm hy => ?_⟩⟩
        obtain ⟨h1, h2, h3⟩ := minI_spec n ns
        have : m = minI n ns := uniq_min hm hy (by
          rcases h1 with q | q
          · rw [q]; exact List.mem_cons_self
          · exact List.mem_cons_of_mem _ q) fun y hy => by
            rcases List.mem_cons.mp hy with q | q
            · rw [q]; exact h2
            · exact h3 y q
        rw [this]; exact k
/-- isinstance(x, T), T a built-in class -/
def tyName : D → Option String
  | .non => some "NoneType"
  | .bl _ => some "bool"
  | .int _ => some "int"
  | .str _ => some "str"
  | .lst _ => some "list"
  | .tup _ => some "tuple"
  | .dct _ _ => some "dict"
  | _ => none
def isiD : List D → Option D
  | [x, .ty n] => (match tyName x with
    | some t => (kitB t n).map .bl
    | none => none)
  | _ => none
theorem tyName_ok {H : Hp} {v : V} {d : D} {t : String} (r : Rep K mg H v d) (q : tyName d = some t) : TyX K H v (.type t) := by
  cases d with
  | non => cases q; rw [show v = .non from r]; exact .base .non
  | bl b => cases q; rw [show v = .bl b from r]; exact .base (.bl b)
  | int b => cases q; rw [show v = .int b from r]; exact .base (.int b)
  | str b => cases q; rw [show v = .str b from r]; exact .base (.str b)
  | lst ds => obtain ⟨p, vs, e, h1, h2⟩ := r; cases q; subst e; exact .base (.lst h1)
  | tup ds =>
    obtain ⟨p, vs, e, h1, h2⟩ := r; cases q; subst e
    rcases h1 with (h1 | ⟨o, h1⟩) | ⟨o, its, n, hk, hc, _⟩
    · exact .base (.tup h1)
    · exact .fTuple h1
    · exact .kTuple hk hc
  | dct ks ds => obtain ⟨p, vs, e, h1, h2⟩ := r; cases q; subst e; exact .base (.dK h1)
  | _ => cases q
theorem cbd_isi : CbD (rIsi K) K mg isiD := by
  intro H xs as d r q
  match as, r with
  | [x, .ty n], r =>
    obtain ⟨v, v', e, r1, r2⟩ := reps2 r
    subst e
    rw [show v' = .ty n from r2]
    have q' : (match tyName x with
      | some t => (kitB t n).map D.bl
      | none => none) = some d := q
    cases z : tyName x with
    | none => rw [z] at q'; cases q'
    | some t =>
      rw [z] at q'
      simp only at q'
      cases z2 : kitB t n with
      | none => rw [z2] at q'; cases q'
      | some b =>
        rw [z2] at q'; cases q'
        exact ⟨_, rfl, fun Q k => ⟨v, .ty n, .type t, .type n, b, rfl, .ty n, tyName_ok r1 z, kit_ty z2, k⟩⟩
  | [], _ => cases q
  | [_], _ => cases q
  | _ :: _ :: _ :: _, _ => simp only [isiD] at q; cases q
  | [x, .non], _ => cases q
  | [x, .bl _], _ => cases q
  | [x, .int _], _ => cases q
  | [x, .str _], _ => cases q
  | [x, .lst _], _ => cases q
  | [x, .tup _], _ => cases q
  | [x, .dct _ _], _ => cases q
  | [x, .obj _ _ _], _ => cases q
  | [x, .scr _], _ => cases q
/-- truth -/
def truD : D → Option Bool
  | .non => some false
  | .bl b => some b
  | .int i => some (i != 0)
  | .str y => if y.length ≤ sizeLine then some ((y.length : Int) != 0) else none
  | .lst ds => some !ds.isEmpty
  | .tup ds => some !ds.isEmpty
  | .dct ks _ => some !ks.isEmpty
  | _ => none
theorem isEmpty_len {α β : Type} {xs : List α} {ys : List β} (h : xs.length = ys.length) : xs.isEmpty = ys.isEmpty := by
  cases xs <;> cases ys <;> first | rfl | cases h
theorem truD_ok {H : Hp} {v : V} {d : D} {k : Bool} (r : Rep K mg H v d) (q : truD d = some k) : TruV K v H k := by
  cases d with
  | non => cases q; rw [show v = .non from r]; exact rfl
  | bl b => cases q; rw [show v = .bl _ from r]; exact rfl
  | int b => cases q; rw [show v = .int b from r]; exact rfl
  | str b =>
    rw [show v = .str b from r]
    have q' : (if b.length ≤ sizeLine then some ((b.length : Int) != 0) else none) = some k := q
    split at q'
    · rename_i h; cases q'; exact ⟨h, rfl⟩
    · cases q'
  | lst ds => obtain ⟨p, vs, e, h1, h2⟩ := r; cases q; subst e; exact .inl ⟨vs, SqL.of h1, by rw [isEmpty_len h2.length]⟩
  | tup ds => obtain ⟨p, vs, e, h1, h2⟩ := r; cases q; subst e; exact .inr (.inl ⟨vs, h1, by rw [isEmpty_len h2.length]⟩)
  | dct ks ds =>
    obtain ⟨p, vs, e, h1, h3, h2⟩ := r; cases q; subst e
    refine .inr (.inr ⟨_, h1, ?_⟩)
    rw [isEmpty_len (xs := ks.zip vs) (ys := ks) (by rw [List.length_zip]; omega)]
  | _ => cases q
end
end VF

set_option maxRecDepth 100000
set_option maxHeartbeats 4000000
/-! The rules by constructs. -/
namespace VF
set_option autoImplicit false
open PySem PySem.Spec PyProof.Rows L2
open AT (cells cellsL er ers)
section
variable {K : PySem.W.Frag} {mg : Str → Option Value} {E : XS}
theorem SE.imp {t t' : TE} {m : M RV} (h : SE K mg E t m) (k : ∀ σ H Q, t σ H Q → t' σ H Q) : SE K mg E t' m := fun pv F H σ e as held Q c w => k _ _ _ (h pv F H σ e as held Q c w)
/-! ### a < b < c -/
def blOf : D → Option Bool
  | .bl b => some b
  | _ => none
def dChain (f g : D → D → Option D) (a b c : M RV) : M RV := a.bind fun r => b.bind fun q => fun e => match view e r, view e q with
  | some x, some y => (match (f x y).bind blOf with
    | some true => (c e).bind fun p e => (match view e q, view e p with
      | some y, some z => (match g y z with
        | some d => .ok (.fz d) e
        | none => .st)
      | _, _ => .st)
    | some false => .ok (.fz (.bl false)) e
    | none => .st)
  | _, _ => .st
theorem blOf_some {d : Option D} {k : Bool} (h : d.bind blOf = some k) : d = some (.bl k) := by
  cases d with
  | none => cases h
  | some d => cases d with
    | bl b => cases h; rfl
    | _ => cases h
theorem se_chain {r r' : R2} {f g : D → D → Option D} {ta tb tc : TE} {ma mb mc : M RV} (hr : OpD r K mg f) (hr' : OpD r' K mg g) (ha : SE K mg E ta ma) (hb : SE K mg E tb mb) (hc : SE K mg E tc mc) : SE K mg E (tChain r r' ta tb tc) (dChain f g ma mb mc) := by
  intro pv F H σ e as held Q c w
  refine ha pv F H σ e as held _ c (WE.bindE (W := WE K mg pv F held σ Q E) (fun z => z) w (fun _ _ z => z) fun r1 e1 v1 F1 H1 as1 tr1 s1 c1 rr1 w1 => ?_)
  refine hb pv F1 H1 σ e1 as1 (tr1 ++ held) _ c1 (WE.bindE (W := WE K mg pv F held σ Q E) (fun z => z) w1 (fun _ _ z => (WX.mono s1 z).drop) fun r2 e2 v2 F2 H2 as2 tr2 s2 c2 rr2 w2 => ?_)
  cases q1 : view e2 r1 with
  | none => simp only [q1] at w2; exact w2.elim
  | some x =>
    cases q2 : view e2 r2 with
    | none => simp only [q1, q2] at w2; exact w2.elim
    | some y =>
      simp only [q1, q2] at w2
      have p1 := c2.seen rr1 (fun t ht => List.mem_append_right _ (List.mem_append_left _ ht)) q1
      have p2 := c2.seen rr2 (fun t ht => List.mem_append_left _ ht) q2
      cases q3 : (f x y).bind blOf with
      | none => simp only [q3] at w2; exact w2.elim
      | some k =>
        simp only [q3] at w2
        obtain ⟨v, hv, kk⟩ := hr H2 v1 v2 x y _ p1 p2 (blOf_some q3)
        cases hv
        refine kk _ ⟨k, rfl, ?_⟩
        cases k with
        | false =>
          rw [if_neg (by decide)]
          exact w2 (.bl false) F2 H2 as2 _ (s1.trans s2) (c2.drop.drop.fz (show Rep K mg F2 (.bl false) (.bl false) from rfl)) rfl
        | true =>
          rw [if_pos rfl]
          have c2' : Cf K mg pv F2 H2 σ e2 as2 (tr2 ++ held) := (c2.perm (pswap tr2 tr1 held)).drop
          refine hc pv F2 H2 σ e2 as2 _ _ c2' (WE.bindE (W := WE K mg pv F held σ Q E) (fun z => z) w2 (fun _ _ z => (WX.mono (s1.trans s2) z).drop) fun r3 e3 v3 F3 H3 as3 tr3 s3 c3 rr3 w3 => ?_)
          cases q4 : view e3 r2 with
          | none => simp only [q4] at w3; exact w3.elim
          | some y' =>
            cases q5 : view e3 r3 with
            | none => simp only [q4, q5] at w3; exact w3.elim
            | some z =>
              simp only [q4, q5] at w3
              have p3 := c3.seen rr2 (fun t ht => List.mem_append_right _ (List.mem_append_left _ ht)) q4
              have p4 := c3.seen rr3 (fun t ht => List.mem_append_left _ ht) q5
              cases q6 : g y' z with
              | none => simp only [q6] at w3; exact w3.elim
              | some d =>
                simp only [q6] at w3
                obtain ⟨u, hu, kk2⟩ := hr' H3 v2 v3 y' z d p3 p4 q6
                exact kk2 Q (w3 u F3 H3 as3 _ ((s1.trans s2).trans s3) (c3.drop.drop.fz (rep_imm hu)) rfl)
/-! ### a if t else b; and, or, not as values of truth -/
def dIfE (t : M Bool) (a b : M RV) : M RV := t.bind fun k => match k with
  | true => a
  | false => b
theorem se_if {tc : TT} {ta tb : TE} {mc : M Bool} {ma mb : M RV} (hc : ST K mg E tc mc) (ha : SE K mg E ta ma) (hb : SE K mg E tb mb) : SE K mg E (tIf tc ta tb) (dIfE mc ma mb) := by
  intro pv F H σ e as held Q c w
  refine hc pv F H σ e as held _ c (WT.bindT (W := WE K mg pv F held σ Q E) (fun z => z) w (fun _ _ z => z) fun b e1 F1 H1 as1 s1 c1 w1 => ?_)
  cases b with
  | true => exact ha pv F1 H1 σ e1 as1 held Q c1 (WE.mono s1 w1)
  | false => exact hb pv F1 H1 σ e1 as1 held Q c1 (WE.mono s1 w1)
/-- the value of truth of an expression -/
def dBl (a : M RV) (k : Bool → M RV) : M RV := a.bind fun r => fun e => match (view e r).bind blOf with
  | some b => k b e
  | none => .st
theorem se_bl {ta : TE} {ma : M RV} {k : Bool → M RV} {tk : Bool → TE} (ha : SE K mg E ta ma) (hk : ∀ b, SE K mg E (tk b) (k b)) : SE K mg E (fun σ H Q => ta σ H fun x H1 => ∃ c, x = .bl c ∧ tk c σ H1 Q) (dBl ma k) := by
  intro pv F H σ e as held Q c w
  refine ha pv F H σ e as held _ c (WE.bindE (W := WE K mg pv F held σ Q E) (fun z => z) w (fun _ _ z => z) fun r1 e1 v1 F1 H1 as1 tr1 s1 c1 rr1 w1 => ?_)
  cases q : (view e1 r1).bind blOf with
  | none => simp only [q] at w1; exact w1.elim
  | some b =>
    simp only [q] at w1
    have p1 := c1.seen rr1 (fun t ht => List.mem_append_left _ ht) (blOf_some q)
    exact ⟨b, p1, hk b pv F1 H1 σ e1 as1 held Q c1.drop (WE.mono s1 w1)⟩
def dAndV (a b : M RV) : M RV := dBl a fun c => match c with
  | true => b
  | false => dC (.bl false)
def dOrV (a b : M RV) : M RV := dBl a fun c => match c with
  | true => dC (.bl true)
  | false => b
def dNotV (a : M RV) : M RV := dBl a fun c => dC (.bl (!c))
theorem se_andV {ta tb : TE} {ma mb : M RV} (ha : SE K mg E ta ma) (hb : SE K mg E tb mb) : SE K mg E (tAndV ta tb) (dAndV ma mb) := by
  refine (se_bl (tk := fun c => if c = true then tb else tC (.bl false)) ha fun b => ?_).imp fun σ H Q h => ?_
  · cases b with
    | true => rw [if_pos rfl]; exact hb
    | false => rw [if_neg (by decide)]; exact se_c
  · revert h
    have key : (fun (x : V) H1 => ∃ c, x = .bl c ∧ (if c = true then tb else tC (.bl false)) σ H1 Q) = (fun x H1 => ∃ c, x = .bl c ∧ if c = true then tb σ H1 Q else Q (.bl false) H1) := by
      funext x H1
      refine propext ⟨fun ⟨c, h1, h2⟩ => ⟨c, h1, ?_⟩, fun ⟨c, h1, h2⟩ => ⟨c, h1, ?_⟩⟩
      · cases c with
        | true => rw [if_pos rfl] at h2 ⊢; exact h2
        | false => rw [if_neg (by decide)] at h2 ⊢; exact h2
      · cases c with
        | true => rw [if_pos rfl] at h2 ⊢; exact h2
        | false => rw [if_neg (by decide)] at h2 ⊢; exact h2
    intro h
    show ta σ H (fun x H1 => ∃ c, x = .bl c ∧ if c = true then tb σ H1 Q else Q (.bl false) H1)
    rw [← key]; exact h
theorem se_orV {ta tb : TE} {ma mb : M RV} (ha : SE K mg E ta ma) (hb : SE K mg E tb mb) : SE K mg E (tOrV ta tb) (dOrV ma mb) := by
  refine (se_bl (tk := fun c => if c = true then tC (.bl true) else tb) ha fun b => ?_).imp fun σ H Q h => ?_
  · cases b with
    | true => rw [if_pos rfl]; exact se_c
    | false => rw [if_neg (by decide)]; exact hb
  · have key : (fun (x : V) H1 => ∃ c, x = .bl c ∧ (if c = true then tC (.bl true) else tb) σ H1 Q) = (fun x H1 => ∃ c, x = .bl c ∧ if c = true then Q (.bl true) H1 else tb σ H1 Q) := by
      funext x H1
      refine propext ⟨fun ⟨c, h1, h2⟩ => ⟨c, h1, ?_⟩, fun ⟨c, h1, h2⟩ => ⟨c, h1, ?_⟩⟩
      · cases c with
        | true => rw [if_pos rfl] at h2 ⊢; exact h2
        | false => rw [if_neg (by decide)] at h2 ⊢; exact h2
      · cases c with
        | true => rw [if_pos rfl] at h2 ⊢; exact h2
        | false => rw [if_neg (by decide)] at h2 ⊢; exact h2
    show ta σ H (fun x H1 => ∃ c, x = .bl c ∧ if c = true then Q (.bl true) H1 else tb σ H1 Q)
    rw [← key]; exact h
theorem se_notV {ta : TE} {ma : M RV} (ha : SE K mg E ta ma) : SE K mg E (tNotV ta) (dNotV ma) :=
  se_bl (tk := fun c => tC (.bl (!c))) ha fun b => se_c
/-- truth of any value -/
def dTru (a : M RV) : M Bool := a.bind fun r => fun e => match (view e r).bind truD with
  | some b => .ok b e
  | none => .st
theorem st_tru {ta : TE} {ma : M RV} (ha : SE K mg E ta ma) : ST K mg E (fun σ H Q => ta σ H fun x H' => ∃ k, TruV K x H' k ∧ Q k H') (dTru ma) := by
  intro pv F H σ e as held Q c w
  refine ha pv F H σ e as held _ c (WE.bindE (W := WT K mg pv F held σ Q E) (fun z => z) w (fun _ _ z => z) fun r1 e1 v1 F1 H1 as1 tr1 s1 c1 rr1 w1 => ?_)
  cases q1 : view e1 r1 with
  | none => simp only [q1] at w1; exact w1.elim
  | some x =>
    simp only [q1] at w1
    have p1 := c1.seen rr1 (fun t ht => List.mem_append_left _ ht) q1
    cases q2 : truD x with
    | none => simp only [Option.bind, q2] at w1; exact w1.elim
    | some b =>
      simp only [Option.bind, q2] at w1
      exact ⟨b, truD_ok p1 q2, w1 F1 H1 as1 s1 c1.drop⟩
/-! ### a new list out of data -/
def NewD (r : List V → Hp → VK → Prop) (K : PySem.W.Frag) (mg : Str → Option Value) (f : List D → Option (List D)) : Prop := ∀ (F H : Hp) (xs : List V) (as ds : List D), Same F H → Reps K mg F xs as → f as = some ds →
  ∃ ys, Reps K mg F ys ds ∧ ∀ Q : VK, (∀ p, H p = none → Q (.ref p) (upd H p (.lst ys))) → r xs H Q
def dNew (f : List D → Option (List D)) (a : M (List RV)) : M RV := a.bind fun rs e => match frzRs rs e with
  | some (as, e1) => (match f as with
    | some ds => .ok (.own (.ol (ds.map .fz))) e1
    | none => .st)
  | none => .st
theorem sa_new {r : List V → Hp → VK → Prop} {f : List D → Option (List D)} {ta : TA} {ma : M (List RV)} (hr : NewD r K mg f) (ha : SA K mg E ta ma) : SE K mg E (tCB r ta) (dNew f ma) := by
  intro pv F H σ e as held Q c w
  refine ha pv F H σ e as held _ c (WA.bindA (W := WE K mg pv F held σ Q E) (fun z => z) w (fun _ _ z => z) fun rs e1 vs F1 H1 as1 tr1 s1 c1 rr1 w1 => ?_)
  cases q : frzRs rs e1 with
  | none => simp only [q] at w1; exact w1.elim
  | some pr =>
    obtain ⟨ds, e2⟩ := pr
    simp only [q] at w1
    obtain ⟨F2, as2, s2, c2, rps⟩ := c1.frzRs rr1 q
    cases q2 : f ds with
    | none => simp only [q2] at w1; exact w1.elim
    | some es =>
      simp only [q2] at w1
      obtain ⟨ys, ry, k⟩ := hr F2 H1 vs ds es c2.s rps q2
      refine k Q fun p hp => ?_
      obtain ⟨t, e1, e2', c3⟩ := c2.newL ry hp
      exact w1 (.ref p) F2 _ as2 [t] (s1.trans s2) c3 ⟨t, rfl, e1, e2'⟩
/-- list(x) -/
def listD : List D → Option (List D)
  | [.lst ds] => some ds
  | [.tup ds] => some ds
  | _ => none
theorem newd_list : NewD (fun xs H Q => ∃ p ys, xs = [.ref p] ∧ (SqL K H p ys ∨ SqT K H p ys) ∧ ∀ l, H l = none → Q (.ref l) (upd H l (.lst ys))) K mg listD := by
  intro F H xs as ds s r q
  match as, r with
  | [a], r =>
    obtain ⟨v, e, rv⟩ := reps1 r
    subst e
    cases a with
    | lst es =>
      obtain ⟨p, vs, e, h1, h2⟩ := rv
      cases q; subst e
      exact ⟨vs, h2, fun Q k => ⟨p, vs, rfl, .inl (SqL.of (s _ _ h1)), k⟩⟩
    | tup es =>
      obtain ⟨p, vs, e, h1, h2⟩ := rv
      cases q; subst e
      exact ⟨vs, h2, fun Q k => ⟨p, vs, rfl, .inr (SqT_same s h1), k⟩⟩
    | _ => cases q
  | [], _ => simp [listD] at q
  | _ :: _ :: _, _ => simp [listD] at q
/-- sorted(xs), ints -/
def insI (n : Int) : List Int → List Int
  | [] => [n]
  | m :: ms => if n ≤ m then n :: m :: ms else m :: insI n ms
def sortI : List Int → List Int
  | [] => []
  | n :: ns => insI n (sortI ns)
theorem insI_perm (n : Int) : ∀ ms : List Int, (insI n ms).Perm (n :: ms)
  | [] => List.Perm.refl _
  | m :: ms => by
    unfold insI
    by_cases h : n ≤ m
    · rw [if_pos h]
    · rw [if_neg h]; exact ((insI_perm n ms).cons m).trans (List.Perm.swap _ _ _)
theorem sortI_perm : ∀ ns : List Int, (sortI ns).Perm ns
  | [] => List.Perm.refl _
  | n :: ns => (insI_perm n (sortI ns)).trans ((sortI_perm ns).cons n)
theorem insI_sorted (n : Int) : ∀ {ms : List Int}, ms.Pairwise (· ≤ ·) → (insI n ms).Pairwise (· ≤ ·)
  | [], _ => List.pairwise_singleton _ _
  | m :: ms, h => by
    obtain ⟨h1, h2⟩ := List.pairwise_cons.mp h
    unfold insI
    by_cases c : n ≤ m
    · rw [if_pos c]
      refine List.pairwise_cons.mpr ⟨fun y hy => ?_, h⟩
      rcases List.mem_cons.mp hy with q | q
      · rw [q]; exact c
      · have := h1 y q; omega
    · rw [if_neg c]
      refine List.pairwise_cons.mpr ⟨fun y hy => ?_, insI_sorted n h2⟩
      rcases List.mem_cons.mp ((insI_perm n ms).mem_iff.mp hy) with q | q
      · rw [q]; omega
      · exact h1 y q
theorem sortI_sorted : ∀ ns : List Int, (sortI ns).Pairwise (· ≤ ·)
  | [] => List.Pairwise.nil
  | n :: ns => insI_sorted n (sortI_sorted ns)
theorem sorted_uniq : ∀ {xs ys : List Int}, xs.Perm ys → xs.Pairwise (· ≤ ·) → ys.Pairwise (· ≤ ·) → xs = ys := by
  intro xs ys p h1 h2
  exact p.eq_of_pairwise (fun a b _ _ h h' => Int.le_antisymm h h') h1 h2
def sortedD (as : List D) : Option (List D) := (intsL as).map fun ns => (sortI ns).map .int
theorem ints_reps {F : Hp} (ns : List Int) : Reps K mg F (ns.map V.int) (ns.map D.int) := by
  induction ns with
  | nil => trivial
  | cons n ns ih => exact ⟨rfl, ih⟩
theorem newd_sorted : NewD (rSortedI K) K mg sortedD := by
  intro F H xs as ds s r q
  unfold sortedD at q
  cases z : intsL as with
  | none => rw [z] at q; cases q
  | some ns =>
    rw [z] at q; cases q
    obtain ⟨a, e, h⟩ := intsL_ok r z
    refine ⟨(sortI ns).map V.int, ints_reps _, fun Q k => ⟨a, ns, e, SqL.of (s _ _ h), fun ns' p hp hs hn => ?_⟩⟩
    have : ns' = sortI ns := sorted_uniq (hp.trans (sortI_perm ns).symm) hs (sortI_sorted ns)
    rw [this]
    exact k p hn
end
/-! ### the judgements' rules -/
section
variable {X : Cx} {E : XS} {a b c : Expr} {ma mb mc : M RV} {pos : Pos}
theorem v_var {i : Nat} {x : Str} {p : Pos} (hN : X.N[i]? = some x) (hv : Vis X.env.scope x) (hd : (x == ("__debug__" : Str)) = false := by decide) (hcd : (x == ("__classdict__" : Str)) = false := by decide) : VE X E (.Name x p) (dVar i) := .mk (pe_var hN hv hd hcd) se_var
theorem v_int {i : Int} {j} : VE X E (.Constant (.int i) j pos) (dC (.int i)) := .mk pe_int se_c
theorem v_bl {k : Bool} {j} : VE X E (.Constant (.bool k) j pos) (dC (.bl k)) := .mk pe_bl se_c
theorem v_non {j} : VE X E (.Constant .none j pos) (dC .non) := .mk pe_non se_c
theorem v_str {s : Str} {j} : VE X E (.Constant (.str s) j pos) (dC (.str s)) := .mk pe_str se_c
theorem v_ty {x : Str} {n : String} (hg : Gl X x) (hm : X.mg x = none) (hv : bootBuiltins x = some (.type n)) (hn : x ≠ "__name__" := by decide) (hd : (x == ("__debug__" : Str)) = false := by decide) : VE X E (.Name x pos) (dC (.ty n)) :=
  .mk (pe_bltn hg hm hv (v := .ty n) rfl hn hd) se_c
theorem v_sub (ha : VE X E a ma) (hb : VE X E b mb) : VE X E (.BinOp a .Sub b pos) (dOp (fI (· - ·)) ma mb) := .mk (pe_op op_sub ha hb) (se_op opd_I se_w se_w)
theorem v_mul (ha : VE X E a ma) (hb : VE X E b mb) : VE X E (.BinOp a .Mult b pos) (dOp fMul ma mb) := .mk (pe_op op_mul ha hb) (se_op opd_mul se_w se_w)
theorem v_mod (ha : VE X E a ma) (hb : VE X E b mb) : VE X E (.BinOp a .Mod b pos) (dOp fMod ma mb) := .mk (pe_op op_mod ha hb) (se_op opd_mod se_w se_w)
theorem v_div (ha : VE X E a ma) (hb : VE X E b mb) : VE X E (.BinOp a .FloorDiv b pos) (dOp fDiv ma mb) := .mk (pe_op op_fdiv ha hb) (se_op opd_div se_w se_w)
theorem v_pow (ha : VE X E a ma) (hb : VE X E b mb) : VE X E (.BinOp a .Pow b pos) (dOp fPow ma mb) := .mk (pe_op op_pow ha hb) (se_op opd_pow se_w se_w)
theorem v_addI (ha : VE X E a ma) (hb : VE X E b mb) : VE X E (.BinOp a .Add b pos) (dOp (fI (· + ·)) ma mb) := .mk (pe_op op_add ha hb) (se_op opd_I se_w se_w)
theorem v_neg {i : Int} {j p} : VE X E (.UnaryOp .USub (.Constant (.int i) j p) pos) (dC (.int (-i))) := .mk (t := tUn (rU fun i => .int (-i)) (tC (.int i))) (pe_un un_neg pe_int) fun pv F H σ e as held Q c w =>
  ⟨i, rfl, w (.int (-i)) F H as _ (Same.refl _) (c.fz (show Rep X.K X.mg F (.int (-i)) (.int (-i)) from rfl)) rfl⟩
/-- comparisons -/
theorem v_lt (ha : VE X E a ma) (hb : VE X E b mb) : VE X E (.Compare a [.Lt] [b] pos) (dOp (fB fun i j => decide (i < j)) ma mb) := .mk (pe_cmpR op_lt ha hb (nomark _)) (se_op opd_B se_w se_w)
theorem v_le (ha : VE X E a ma) (hb : VE X E b mb) : VE X E (.Compare a [.LtE] [b] pos) (dOp (fB fun i j => decide (i ≤ j)) ma mb) := .mk (pe_cmpR op_le ha hb (nomark _)) (se_op opd_B se_w se_w)
theorem v_gt (ha : VE X E a ma) (hb : VE X E b mb) : VE X E (.Compare a [.Gt] [b] pos) (dOp (fB fun i j => decide (j < i)) ma mb) := .mk (pe_cmpR op_gt ha hb (nomark _)) (se_op opd_B se_w se_w)
theorem v_ge (ha : VE X E a ma) (hb : VE X E b mb) : VE X E (.Compare a [.GtE] [b] pos) (dOp (fB fun i j => decide (j ≤ i)) ma mb) := .mk (pe_cmpR op_ge ha hb (nomark _)) (se_op opd_B se_w se_w)
theorem v_eq (hu : X.A.units + 64 < cLine) (ha : VE X E a ma) (hb : VE X E b mb) : VE X E (.Compare a [.Eq] [b] pos) (dOp fEq ma mb) := .mk (pe_cmpR (op_eqD hu) ha hb (nomark _)) (se_op opd_eq se_w se_w)
theorem v_ne (hu : X.A.units + 64 < cLine) (ha : VE X E a ma) (hb : VE X E b mb) : VE X E (.Compare a [.NotEq] [b] pos) (dOp fNe ma mb) := .mk (pe_cmpR (op_neD hu) ha hb (nomark _)) (se_op opd_ne se_w se_w)
theorem v_isN (ha : VE X E a ma) (hb : VE X E b mb) : VE X E (.Compare a [.Is] [b] pos) (dOp fIsN ma mb) := .mk (pe_cmpR op_isN ha hb (nomark _)) (se_op opd_isN se_w se_w)
theorem v_notN (ha : VE X E a ma) (hb : VE X E b mb) : VE X E (.Compare a [.IsNot] [b] pos) (dOp fNotN ma mb) := .mk (pe_cmpR op_notN ha hb (nomark _)) (se_op opd_notN se_w se_w)
theorem v_in (hu : X.A.units + 65 < cLine) (ha : VE X E a ma) (hb : VE X E b mb) (hm : behindInMarks .In b = false) : VE X E (.Compare a [.In] [b] pos) (dOp fIn ma mb) := .mk (pe_cmpR (op_inA hu) ha hb hm) (se_op opd_in se_w se_w)
theorem v_notIn (hu : X.A.units + 65 < cLine) (ha : VE X E a ma) (hb : VE X E b mb) (hm : behindInMarks .NotIn b = false) : VE X E (.Compare a [.NotIn] [b] pos) (dOp fNotIn ma mb) := .mk (pe_cmpR (op_notInA hu) ha hb hm) (se_op opd_notIn se_w se_w)
/-- the same as tests -/
theorem t_lt (ha : VE X E a ma) (hb : VE X E b mb) : VT X E (.Compare a [.Lt] [b] pos) (dT (dOp (fB fun i j => decide (i < j)) ma mb)) := .mk (pt_cmpR op_lt ha hb (nomark _)) (st_test (se_op opd_B se_w se_w))
theorem t_le (ha : VE X E a ma) (hb : VE X E b mb) : VT X E (.Compare a [.LtE] [b] pos) (dT (dOp (fB fun i j => decide (i ≤ j)) ma mb)) := .mk (pt_cmpR op_le ha hb (nomark _)) (st_test (se_op opd_B se_w se_w))
theorem t_gt (ha : VE X E a ma) (hb : VE X E b mb) : VT X E (.Compare a [.Gt] [b] pos) (dT (dOp (fB fun i j => decide (j < i)) ma mb)) := .mk (pt_cmpR op_gt ha hb (nomark _)) (st_test (se_op opd_B se_w se_w))
theorem t_ge (ha : VE X E a ma) (hb : VE X E b mb) : VT X E (.Compare a [.GtE] [b] pos) (dT (dOp (fB fun i j => decide (j ≤ i)) ma mb)) := .mk (pt_cmpR op_ge ha hb (nomark _)) (st_test (se_op opd_B se_w se_w))
theorem t_eq (hu : X.A.units + 64 < cLine) (ha : VE X E a ma) (hb : VE X E b mb) : VT X E (.Compare a [.Eq] [b] pos) (dT (dOp fEq ma mb)) := .mk (pt_cmpR (op_eqD hu) ha hb (nomark _)) (st_test (se_op opd_eq se_w se_w))
theorem t_ne (hu : X.A.units + 64 < cLine) (ha : VE X E a ma) (hb : VE X E b mb) : VT X E (.Compare a [.NotEq] [b] pos) (dT (dOp fNe ma mb)) := .mk (pt_cmpR (op_neD hu) ha hb (nomark _)) (st_test (se_op opd_ne se_w se_w))
theorem t_isN (ha : VE X E a ma) (hb : VE X E b mb) : VT X E (.Compare a [.Is] [b] pos) (dT (dOp fIsN ma mb)) := .mk (pt_cmpR op_isN ha hb (nomark _)) (st_test (se_op opd_isN se_w se_w))
theorem t_notN (ha : VE X E a ma) (hb : VE X E b mb) : VT X E (.Compare a [.IsNot] [b] pos) (dT (dOp fNotN ma mb)) := .mk (pt_cmpR op_notN ha hb (nomark _)) (st_test (se_op opd_notN se_w se_w))
theorem t_in (hu : X.A.units + 65 < cLine) (ha : VE X E a ma) (hb : VE X E b mb) (hm : behindInMarks .In b = false) : VT X E (.Compare a [.In] [b] pos) (dT (dOp fIn ma mb)) := .mk (pt_cmpR (op_inA hu) ha hb hm) (st_test (se_op opd_in se_w se_w))
theorem t_notIn (hu : X.A.units + 65 < cLine) (ha : VE X E a ma) (hb : VE X E b mb) (hm : behindInMarks .NotIn b = false) : VT X E (.Compare a [.NotIn] [b] pos) (dT (dOp fNotIn ma mb)) := .mk (pt_cmpR (op_notInA hu) ha hb hm) (st_test (se_op opd_notIn se_w se_w))
/-- a op b op' c of ints -/
theorem v_leLt (ha : VE X E a ma) (hb : VE X E b mb) (hc : VE X E c mc) (hm : lastMarks [.LtE, .Lt] [b, c] = false := by with_unfolding_all rfl) : VE X E (.Compare a [.LtE, .Lt] [b, c] pos) (dChain (fB fun i j => decide (i ≤ j)) (fB fun i j => decide (i < j)) ma mb mc) := .mk (pe_chain op_le op_lt ha hb hc hm) (se_chain opd_B opd_B se_w se_w se_w)
theorem t_leLt (ha : VE X E a ma) (hb : VE X E b mb) (hc : VE X E c mc) (hm : lastMarks [.LtE, .Lt] [b, c] = false := by with_unfolding_all rfl) : VT X E (.Compare a [.LtE, .Lt] [b, c] pos) (dT (dChain (fB fun i j => decide (i ≤ j)) (fB fun i j => decide (i < j)) ma mb mc)) := .mk (pt_chain op_le op_lt ha hb hc hm) (st_test (se_chain opd_B opd_B se_w se_w se_w))
theorem v_leLe (ha : VE X E a ma) (hb : VE X E b mb) (hc : VE X E c mc) (hm : lastMarks [.LtE, .LtE] [b, c] = false := by with_unfolding_all rfl) : VE X E (.Compare a [.LtE, .LtE] [b, c] pos) (dChain (fB fun i j => decide (i ≤ j)) (fB fun i j => decide (i ≤ j)) ma mb mc) := .mk (pe_chain op_le op_le ha hb hc hm) (se_chain opd_B opd_B se_w se_w se_w)
theorem t_leLe (ha : VE X E a ma) (hb : VE X E b mb) (hc : VE X E c mc) (hm : lastMarks [.LtE, .LtE] [b, c] = false := by with_unfolding_all rfl) : VT X E (.Compare a [.LtE, .LtE] [b, c] pos) (dT (dChain (fB fun i j => decide (i ≤ j)) (fB fun i j => decide (i ≤ j)) ma mb mc)) := .mk (pt_chain op_le op_le ha hb hc hm) (st_test (se_chain opd_B opd_B se_w se_w se_w))
/-- tests of any value; and, or, not -/
theorem t_tru (ha : VE X E a ma) (he : ∀ whole, isTrue a X.env whole = (do let v ← whole; standAt a.pos; holding [v] (truthy v)) := by intro _; rfl) : VT X E a (dTru ma) := .mk (pt_truth ha he) (st_tru se_w)
variable {es : List Expr} {ta tb : M Bool} {mr : M (List RV)} {rest : List Expr}
/-- a chain of and, or (VW: behind it) -/
def VW (X : Cx) (E : XS) (e : Expr) (m : M Bool) : Prop := PW X e (wT X.K X.mg E m)
theorem VW.mk {e : Expr} {t : TT} {m : M Bool} (h : PW X e t) (s : ST X.K X.mg E t m) : VW X E e m := ⟨fun wh pins s0 σ H Q I ⟨pv, F, e0, as, held, c, w⟩ => h.run wh pins s0 σ H Q I (s pv F H σ e0 as held Q c w)⟩
theorem VW.t {e : Expr} {m : M Bool} (h : VW X E e m) : VT X E e m := PW.pt h
theorem w_and1 (ha : VT X E a ta) : VW X E (.BoolOp .And [a] pos) ta := pw_and1 ha
theorem w_or1 (ha : VT X E a ta) : VW X E (.BoolOp .Or [a] pos) ta := pw_or1 ha
theorem w_and (ha : VT X E a ta) (hb : VW X E (.BoolOp .And (b :: rest) pos) tb) : VW X E (.BoolOp .And (a :: b :: rest) pos) (dAnd ta tb) := .mk (pw_and ha hb) (st_and st_w st_w)
theorem w_or (ha : VT X E a ta) (hb : VW X E (.BoolOp .Or (b :: rest) pos) tb) : VW X E (.BoolOp .Or (a :: b :: rest) pos) (dOr ta tb) := .mk (pw_or ha hb) (st_or st_w st_w)
theorem t_not (ha : VT X E a ta) : VT X E (.UnaryOp .Not a pos) (dNot ta) := .mk (pt_not ha) (st_not st_w)
theorem v_one {op} (h : VE X E a ma) : VE X E (.BoolOp op [a] pos) ma := pe_one h
theorem v_and (ha : VE X E a ma) (hb : VE X E (.BoolOp .And (b :: rest) pos) mb) : VE X E (.BoolOp .And (a :: b :: rest) pos) (dAndV ma mb) := .mk (pe_and ha hb) (se_andV se_w se_w)
theorem v_or (ha : VE X E a ma) (hb : VE X E (.BoolOp .Or (b :: rest) pos) mb) : VE X E (.BoolOp .Or (a :: b :: rest) pos) (dOrV ma mb) := .mk (pe_or ha hb) (se_orV se_w se_w)
theorem v_not (ha : VE X E a ma) : VE X E (.UnaryOp .Not a pos) (dNotV ma) := .mk (pe_not ha) (se_notV se_w)
theorem v_ifE (hc : VT X E c ta) (ha : VE X E a ma) (hb : VE X E b mb) : VE X E (.IfExp c a b pos) (dIfE ta ma mb) := .mk (pe_ifExp hc ha hb) (se_if st_w se_w se_w)
/-- arguments, displays, items -/
theorem a_nil : VA X E [] dNil := .mk pa_nil sa_nil
theorem a_cons (ha : VE X E a ma) (hr : VA X E es mr) (hs : starEach (a :: es) X.env = (false, eval a X.env) :: starEach es X.env := by rfl) : VA X E (a :: es) (dCons ma mr) := .mk (pa_cons ha hr hs) (sa_cons se_w sa_w)
theorem v_lst (ha : VA X E es mr) : VE X E (.List es pos) (dLst mr) := .mk (pe_lst ha) (se_lst sa_w)
theorem v_tup {x1} (ha : VA X E es mr) : VE X E (.Tuple es x1 pos) (dTup mr) := .mk (pe_tup ha) (se_tup sa_w)
theorem v_ix (ha : VE X E a ma) (hb : VE X E b mb) (hs : PlainIx b) : VE X E (.Subscript a b pos) (dIx ma mb) := .mk (pe_ix ix_seq ha hb hs) (se_ix se_w se_w)
/-- built-ins -/
theorem v_len {p : Pos} {es : List Expr} {mr : M (List RV)} (hg : Gl X "len") (hm : X.mg "len" = none) (ha : VA X E (a :: es) mr) (he : starEach (a :: es) X.env = (false, eval a X.env) :: starEach es X.env := by rfl) (hpl : (backTo pos (starEach es X.env)).any (·.1) = false := by rfl) :
    VE X E (.Call (.Name "len" p) (a :: es) [] pos) (dCB lenD mr) := .mk (pe_callB call_len hg hm (by decide +kernel) ha (by decide) (by decide) he hpl) (se_cb cbd_len sa_w)
theorem v_callInt {p : Pos} {es : List Expr} {mr : M (List RV)} (hg : Gl X "int") (hm : X.mg "int" = none) (ha : VA X E (a :: es) mr) (he : starEach (a :: es) X.env = (false, eval a X.env) :: starEach es X.env := by rfl) (hpl : (backTo pos (starEach es X.env)).any (·.1) = false := by rfl) :
    VE X E (.Call (.Name "int" p) (a :: es) [] pos) (dCB intD mr) := .mk (pe_callTy call_int1 hg hm (by decide +kernel) ha (by decide) (by decide) he hpl) (se_cb cbd_int sa_w)
theorem v_sum {p : Pos} {es : List Expr} {mr : M (List RV)} (hc : X.calm = true) (hg : Gl X "sum") (hm : X.mg "sum" = none) (ha : VA X E (a :: es) mr) (he : starEach (a :: es) X.env = (false, eval a X.env) :: starEach es X.env := by rfl) (hpl : (backTo pos (starEach es X.env)).any (·.1) = false := by rfl) :
    VE X E (.Call (.Name "sum" p) (a :: es) [] pos) (dCB sumD mr) := .mk (pe_callB (cr_sum hc) hg hm (by decide +kernel) ha (by decide) (by decide) he hpl) (se_cb cbd_sum sa_w)
theorem v_max {p : Pos} {es : List Expr} {mr : M (List RV)} (hc : X.calm = true) (hg : Gl X "max") (hm : X.mg "max" = none) (ha : VA X E (a :: es) mr) (he : starEach (a :: es) X.env = (false, eval a X.env) :: starEach es X.env := by rfl) (hpl : (backTo pos (starEach es X.env)).any (·.1) = false := by rfl) :
    VE X E (.Call (.Name "max" p) (a :: es) [] pos) (dCB maxD mr) := .mk (pe_callB ((call_max2 hc).or (cr_max hc)) hg hm (by decide +kernel) ha (by decide) (by decide) he hpl) (se_cb cbd_max sa_w)
theorem v_min {p : Pos} {es : List Expr} {mr : M (List RV)} (hc : X.calm = true) (hg : Gl X "min") (hm : X.mg "min" = none) (ha : VA X E (a :: es) mr) (he : starEach (a :: es) X.env = (false, eval a X.env) :: starEach es X.env := by rfl) (hpl : (backTo pos (starEach es X.env)).any (·.1) = false := by rfl) :
    VE X E (.Call (.Name "min" p) (a :: es) [] pos) (dCB minD mr) := .mk (pe_callB ((call_min2 hc).or (cr_min hc)) hg hm (by decide +kernel) ha (by decide) (by decide) he hpl) (se_cb cbd_min sa_w)
theorem v_isi {p : Pos} {es : List Expr} {mr : M (List RV)} (hg : Gl X "isinstance") (hm : X.mg "isinstance" = none) (ha : VA X E (a :: es) mr) (he : starEach (a :: es) X.env = (false, eval a X.env) :: starEach es X.env := by rfl) (hpl : (backTo pos (starEach es X.env)).any (·.1) = false := by rfl) :
    VE X E (.Call (.Name "isinstance" p) (a :: es) [] pos) (dCB isiD mr) := .mk (pe_callB call_isi hg hm (by decide +kernel) ha (by decide) (by decide) he hpl) (se_cb cbd_isi sa_w)
theorem v_list {p : Pos} {es : List Expr} {mr : M (List RV)} (hg : Gl X "list") (hm : X.mg "list" = none) (ha : VA X E (a :: es) mr) (he : starEach (a :: es) X.env = (false, eval a X.env) :: starEach es X.env := by rfl) (hpl : (backTo pos (starEach es X.env)).any (·.1) = false := by rfl) :
    VE X E (.Call (.Name "list" p) (a :: es) [] pos) (dNew listD mr) := .mk (pe_callTy call_list_of hg hm (by decide +kernel) ha (by decide) (by decide) he hpl) (sa_new newd_list sa_w)
theorem v_sorted {p : Pos} {es : List Expr} {mr : M (List RV)} (hg : Gl X "sorted") (hm : X.mg "sorted" = none) (ha : VA X E (a :: es) mr) (he : starEach (a :: es) X.env = (false, eval a X.env) :: starEach es X.env := by rfl) (hpl : (backTo pos (starEach es X.env)).any (·.1) = false := by rfl) :
    VE X E (.Call (.Name "sorted" p) (a :: es) [] pos) (dNew sortedD mr) := .mk (pe_callB cr_sortedI hg hm (by decide +kernel) ha (by decide) (by decide) he hpl) (sa_new newd_sorted sa_w)
/-- a def of the text -/
theorem v_call {CX : CXT} {k : Nat} {f : Addr} {fd : FuncData} {ps : List Str} {x : Str} {p : Pos} {md : List Bool} {φ : Fn} (F : FnOk X.prog X.w X.K X.mg X.base CX k f fd ps (spF X.K X.mg md.length φ)) (hr : Room k X.A) (hg : Gl X x) (hm : X.mg x = some (.ref f)) (hk : PySem.W.keepIn X.K (.ref f) = true) (hb : Binds X.K fd ps []) (hx : ∀ σ, PassesAt CX X σ fun cls d H => E cls d σ H)
    (ha : VA X E (a :: es) mr) (hdb : (x == ("__debug__" : Str)) = false := by decide) (he : starEach (a :: es) X.env = (false, eval a X.env) :: starEach es X.env := by rfl) (hpl : (backTo pos (starEach es X.env)).any (·.1) = false := by rfl) :
    VE X E (.Call (.Name x p) (a :: es) [] pos) (dCall md φ mr) := .mk (pe_callS F hr hg hm hk hb hx ha hdb he hpl) (se_call sa_w)
theorem v_callB {CX : CXT} {k n : Nat} {f : Addr} {fd : FuncData} {ps : List Str} {x : Str} {p : Pos} {φ : Fn} (F : FnOk X.prog X.w X.K X.mg X.base CX k f fd ps (spF X.K X.mg n φ)) (hr : Room k X.A) (hg : Gl X x) (hm : X.mg x = some (.ref f)) (hk : PySem.W.keepIn X.K (.ref f) = true) (hb : Binds X.K fd ps []) (hx : ∀ σ, PassesAt CX X σ fun cls d H => E cls d σ H)
    (ha : VA X E (a :: es) mr) (hdb : (x == ("__debug__" : Str)) = false := by decide) (he : starEach (a :: es) X.env = (false, eval a X.env) :: starEach es X.env := by rfl) (hpl : (backTo pos (starEach es X.env)).any (·.1) = false := by rfl) :
    VE X E (.Call (.Name x p) (a :: es) [] pos) (dCallB n φ mr) := .mk (pe_callS F hr hg hm hk hb hx ha hdb he hpl) (se_callB sa_w)
/-- methods of a list in a slot -/
theorem v_app {i : Nat} {x : Str} {p p1 : Pos} (hN : X.N[i]? = some x) (hv : Vis X.env.scope x) (ha : VE X E a ma) (hs : starEach [a] X.env = (false, eval a X.env) :: starEach [] X.env := by rfl) (hd : (x == ("__debug__" : Str)) = false := by decide) (hcd : (x == ("__classdict__" : Str)) = false := by decide)
    (h : ∀ {to : TE} {t : TA}, PE X (.Name x p) to → PA X [a] t → PE X (.Call (.Attribute (.Name x p) "append" p1) [a] [] pos) (tBM X.K "list" rAppend to t)) : VE X E (.Call (.Attribute (.Name x p) "append" p1) [a] [] pos) (dApp i ma) :=
  .mk (h (pe_var hN hv hd hcd) (pa_cons ha pa_nil hs)) (se_app se_w)
theorem v_popAt {i : Nat} {x : Str} {p p1 : Pos} (hN : X.N[i]? = some x) (hv : Vis X.env.scope x) (ha : VE X E a ma) (hs : starEach [a] X.env = (false, eval a X.env) :: starEach [] X.env := by rfl) (hd : (x == ("__debug__" : Str)) = false := by decide) (hcd : (x == ("__classdict__" : Str)) = false := by decide)
    (h : ∀ {to : TE} {t : TA}, PE X (.Name x p) to → PA X [a] t → PE X (.Call (.Attribute (.Name x p) "pop" p1) [a] [] pos) (tBM X.K "list" rPopAt to t)) : VE X E (.Call (.Attribute (.Name x p) "pop" p1) [a] [] pos) (dPopAt i ma) :=
  .mk (h (pe_var hN hv hd hcd) (pa_cons ha pa_nil hs)) (se_popAt se_w)
end
/-! ### statements -/
section
variable {X : Cx} {E : XS} {s : Stmt} {ss rest : List Stmt} {m m' : M Fl} {e a b c : Expr} {me ma mb : M RV} {mc : M Bool} {pos : Pos}
theorem b_nil : VB X E [] dNext := .mk pss_nil ss_next
theorem b_cons (h1 : VS X E s m) (h2 : VB X E rest m') : VB X E (s :: rest) (dSeq m m') := .mk (pss_cons h1 h2) (ss_seq ss_w ss_w)
theorem b_one (h1 : VS X E s m) : VB X E [s] m := pss_one h1
theorem s_if {x y : List Stmt} (hc : VT X E c mc) (ha : VB X E x m) (hb : VB X E y m') : VS X E (.If c x y pos) (dIf mc m m') := .mk (ps_if hc ha hb) (ss_if st_w ss_w ss_w)
theorem s_ret (he : VE X E e me) : VS X E (.Return (some e) pos) (dRet me) := .mk (ps_ret he) (ss_ret se_w)
theorem s_retN : VS X E (.Return none pos) dRetN := .mk ps_retN ss_retN
theorem s_expr (he : VE X E e me) (hs : swapsWith e none pos.line X.env = pure false := by rfl) : VS X E (.Expr e pos) (dDrop me) := .mk (ps_expr he hs) (ss_drop se_w)
theorem s_break : VS X E (.Break pos) dBreak := .mk ps_break ss_break
theorem s_cont : VS X E (.Continue pos) dCont := .mk ps_continue ss_cont
theorem s_pass : VS X E (.Pass pos) dNext := .mk ps_pass ss_next
theorem s_set {i : Nat} {x : Str} {p : Pos} (hN : X.N.Nodup) (hi : X.N[i]? = some x) (hx : Loc X.env.scope x) (he : VE X E e me) (hs : swapsWith e (some (.Name x p)) pos.line X.env = pure false := by rfl) (hf : X.fn x = true ∨ X.env.scope.names.lookup x = some .local := by first | exact .inl rfl | exact .inr rfl | assumption) :
    VS X E (.Assign [.Name x p] e pos) (dSet i me) := .mk (ps_set hN hi hx he hs hf) (ss_set se_w)
theorem s_aug {i : Nat} {x : Str} {p : Pos} {op : Operator} {f : Int → Int → Int} (ho : PIp X op (ipI f)) (hN : X.N.Nodup) (hi : X.N[i]? = some x) (hx : Loc X.env.scope x) (he : VE X E e me) (hf : X.fn x = true ∨ X.env.scope.names.lookup x = some .local := by first | exact .inl rfl | exact .inr rfl | assumption) :
    VS X E (.AugAssign (.Name x p) op e pos) (dAug i f me) := .mk (ps_aug hN hi hx he ho hf) (ss_aug se_w)
theorem s_setIx {j : Nat} {x : Str} {p p1 : Pos} (hN : X.N[j]? = some x) (hv : Vis X.env.scope x) (hb : VE X E b mb) (ha : VE X E a ma)
    (hg : ∀ {to ti : TE}, PE X (.Name x p) to → PE X b ti → PG X (.Subscript (.Name x p) b p1) (gSub to ti rSetL))
    (hs : swapsWithSole [.Subscript (.Name x p) b p1] a pos.line X.env = pure false := by rfl) (hw : swappedStores [.Subscript (.Name x p) b p1] a X.env = pure none := by rfl)
    (h1 : (assignEach [.Subscript (.Name x p) b p1] X.env).map (·.2) = [assign (.Subscript (.Name x p) b p1) X.env] := by rfl) (hd : (x == ("__debug__" : Str)) = false := by decide) (hcd : (x == ("__classdict__" : Str)) = false := by decide) :
    VS X E (.Assign [.Subscript (.Name x p) b p1] a pos) (dSetIx j mb ma) := .mk (ps_asg ha (hg (pe_var hN hv hd hcd) hb) hs hw h1) (ss_setIx se_w se_w)
theorem s_augIx {j : Nat} {x : Str} {p p1 : Pos} {op : Operator} {f : Int → Int → Int} (hp : PIp X op (ipI f)) (hN : X.N[j]? = some x) (hv : Vis X.env.scope x) (hb : VE X E b mb) (ha : VE X E a ma)
    (hs : ∀ ov iv new, augStore b ov iv new = (do holding [new, ov, iv] (setItem ov iv new); release [new, ov, iv] []; pure .next) := by intros; rfl) (hd : (x == ("__debug__" : Str)) = false := by decide) (hcd : (x == ("__classdict__" : Str)) = false := by decide) :
    VS X E (.AugAssign (.Subscript (.Name x p) b p1) op a pos) (dAugIx j mb f ma) := .mk (ps_augS (pe_var hN hv hd hcd) hb get_list ha hp set_list hs) (ss_augIx se_w se_w)
theorem s_while {n : Nat} {body : List Stmt} (hp : PassesOwn (model X.prog X.w) X.A X.env X.xe) (hc : VT X E c mc) (hb : VB X E body m) : VS X E (.While c body [] pos) (loopW mc m n) := .mk (ps_while hp hc hb) (ss_while st_w ss_w)
/-- what is walked -/
def VI (X : Cx) (E : XS) (tg it : Expr) (m : M (List D)) : Prop := ∃ t, PI X tg it t ∧ SI X.K X.mg E t m
def wG (K : PySem.W.Frag) (mg : Str → Option Value) (L : List Nat) (g : Tg) : TG := fun v σ H Q => ∃ pv F e as held d e', Cf K mg pv F H σ e as held ∧ Rep K mg F v d ∧ g d e = some e' ∧ ∀ σ' as', (∀ vs, (∀ i ∈ L, i ∈ vs) → wipe σ' vs = wipe σ vs) → Cf K mg pv F H σ' e' as' held → Q σ' H
theorem sg_w {K : PySem.W.Frag} {mg : Str → Option Value} {L : List Nat} {g : Tg} : SG K mg L (wG K mg L g) g := fun pv F H σ e as held v d e' Q c r q k => ⟨pv, F, e, as, held, d, e', c, r, q, k⟩
def VG (X : Cx) (L : List Nat) (tg : Expr) (g : Tg) : Prop := PG X tg (wG X.K X.mg L g)
theorem VG.mk {L : List Nat} {tg : Expr} {t : TG} {g : Tg} (h : PG X tg t) (s : SG X.K X.mg L t g) : VG X L tg g := ⟨fun pins s0 σ H v u Q I r ⟨pv, F, e, as, held, d, e', c, rp, q, k⟩ => h.run pins s0 σ H v u Q I r (s pv F H σ e as held v d e' Q c rp q k)⟩
variable {tg it : Expr} {mi : M (List D)} {g : Tg} {L : List Nat} {mr : M (List RV)} {es : List Expr}
theorem i_any (he : VE X E e me) : VI X E tg e (dIt me) := ⟨_, pi_any he, si_any se_w⟩
theorem i_rng1 {p : Pos} (hg : Gl X "range") (hm : X.mg "range" = none) (ha : VA X E [a] mr) (hs : starEach [a] X.env = [(false, eval a X.env)] := by rfl) : VI X E tg (.Call (.Name "range" p) [a] [] pos) (dRng1 mr) := ⟨_, pi_range1 hg hm ha hs, si_rng1 sa_w⟩
theorem i_rng2 {p : Pos} (hg : Gl X "range") (hm : X.mg "range" = none) (ha : VA X E [a, b] mr) (hs : starEach [a, b] X.env = [(false, eval a X.env), (false, eval b X.env)] := by rfl) (hs2 : starEach [b] X.env = [(false, eval b X.env)] := by rfl) : VI X E tg (.Call (.Name "range" p) [a, b] [] pos) (dRng2 mr) := ⟨_, pi_range2 hg hm ha hs hs2, si_rng2 sa_w⟩
theorem i_enum {p tpos : Pos} {elts : List Expr} {kk : Nat} (hg : Gl X "enumerate") (hm : X.mg "enumerate" = none) (ha : VA X E [a] mr) (hs : starEach [a] X.env = [(false, eval a X.env)] := by rfl) : VI X E (.Tuple elts kk tpos) (.Call (.Name "enumerate" p) [a] [] pos) (dEnum mr) := ⟨_, pi_enum hg hm ha hs, si_enum sa_w⟩
theorem i_zip {p tpos : Pos} {elts : List Expr} {kk : Nat} (hg : Gl X "zip") (hm : X.mg "zip" = none) (ha : VA X E [a, b] mr)
    (h : ∀ {t : TA}, PA X [a, b] t → PI X (.Tuple elts kk tpos) (.Call (.Name "zip" p) [a, b] [] pos) (iZip X.K t)) : VI X E (.Tuple elts kk tpos) (.Call (.Name "zip" p) [a, b] [] pos) (dZip mr) := ⟨_, h ha, si_zip sa_w⟩
theorem g_name {i : Nat} {x : Str} {p : Pos} (hN : X.N.Nodup) (hi : X.N[i]? = some x) (hx : Loc X.env.scope x) (hf : X.fn x = true ∨ X.env.scope.names.lookup x = some .local := by first | exact .inl rfl | exact .inr rfl | assumption) : VG X [i] (.Name x p) (gN i) := .mk (pg_name hN hi hx hf) sg_name
def VGs (X : Cx) (L : List Nat) (tgs : List Expr) (g : Tgs) : Prop := ∃ t, PGs X tgs t ∧ SGs X.K X.mg L t g
theorem gs_nil : VGs X [] [] gNo := ⟨_, pgs_nil, sgs_nil⟩
theorem gs_cons {L' : List Nat} {h : Tgs} (h1 : VG X L e g) (h2 : VGs X L' es h) (hs : (assignEach (e :: es) X.env).map (·.2) = assign e X.env :: (assignEach es X.env).map (·.2) := by rfl) : VGs X (L ++ L') (e :: es) (gCo g h) := by
  obtain ⟨u, p', s'⟩ := h2
  exact ⟨_, pgs_cons h1 p' hs, sgs_cons sg_w s'⟩
theorem g_tup {n k : Nat} {h : Tgs} (hc : X.calm = true) (h1 : VGs X L es h) (hn : (assignEach es X.env).length = n := by rfl) (hst : (assignEach es X.env).findIdx? (·.1) = none := by rfl) : VG X L (.Tuple es k pos) (gTp n h) := by
  obtain ⟨t, p, s⟩ := h1
  exact .mk (pg_tup hc p hn hst) (sg_tup s)
theorem s_for {body : List Stmt} (hp : PassesOwn (model X.prog X.w) X.A X.env X.xe) (hc : X.calm = true) (hi : VI X E tg it mi) (hg : VG X L tg g) (hb : VB X E body m) (hs : ∀ x, foldedSetIterable it X.env x = pure x := by intro _; rfl) : VS X E (.For tg it body [] pos) (dFor mi g m) := by
  obtain ⟨t, p, s⟩ := hi
  exact .mk (ps_for hp hc p hg hb hs) (ss_for s sg_w ss_w)
/-- a, b = e -/
def dAsgG (g : Tg) (ma : M RV) : M Fl := ma.bind fun r e => match frzR r e with
    | some (d, e1) => (match g d e1 with
      | some e2 => .ok .nx e2
      | none => .st)
    | none => .st
theorem ss_asgG {ta : TE} {t : TG} {ma : M RV} {K : PySem.W.Frag} {mg : Str → Option Value} (ha : SE K mg E ta ma) (hg : SG K mg L t g) : SS K mg E (tAsg ta t) (dAsgG g ma) := by
  intro pv F H σ e as held D c w
  refine ha pv F H σ e as held _ c (WE.bindE (W := WS K mg pv F held E D) (fun z => z) w (fun _ _ z => z) fun r1 e1 v1 F1 H1 as1 tr1 s1 c1 rr1 w1 => ?_)
  cases q : frzR r1 e1 with
  | none => simp only [q] at w1; exact w1.elim
  | some p =>
    obtain ⟨d, e2⟩ := p
    simp only [q] at w1
    obtain ⟨F2, as2, s2, c2, rp⟩ := c1.frzR rr1 q
    cases q2 : g d e2 with
    | none => simp only [q2] at w1; exact w1.elim
    | some e3 =>
      simp only [q2] at w1
      exact hg pv F2 H1 σ e2 as2 held v1 d e3 _ c2 rp q2 fun σ3 as3 _ c3 => w1 σ3 F2 H1 as3 (s1.trans s2) c3
theorem s_asgG {p1 : Pos} (ha : VE X E a ma) (hg : VG X L tg g) (hs : swapsWithSole [tg] a pos.line X.env = pure false := by rfl) (hw : swappedStores [tg] a X.env = pure none := by rfl)
    (h1 : (assignEach [tg] X.env).map (·.2) = [assign tg X.env] := by rfl) : VS X E (.Assign [tg] a pos) (dAsgG g ma) := .mk (ps_asg ha hg hs hw h1) (ss_asgG se_w sg_w)
/-- comprehensions -/
def VTs (X : Cx) (E : XS) (ifs : List Expr) (m : M Bool) : Prop := PTs X ifs (wT X.K X.mg E m)
theorem VTs.mk {ifs : List Expr} {t : TT} {m : M Bool} (h : PTs X ifs t) (s : ST X.K X.mg E t m) : VTs X E ifs m := ⟨fun pins s0 σ H Q I ⟨pv, F, e0, as, held, c, w⟩ => h.run pins s0 σ H Q I (s pv F H σ e0 as held Q c w)⟩
theorem ts_nil : VTs X E [] dYes := .mk pts_nil st_yes
theorem ts_one (h : VT X E c mc) : VTs X E [c] mc := pts_one h
theorem v_comp {elt : Expr} {ifs : List Expr} {scope sc : Scope} {own : List (Str × Nat)} {mt : M Bool} (hc : X.calm = true) (hN : X.N.Nodup) (hsc : X.env.scope = sc) (ok : BlkOk X.N sc scope own) (hL : ∀ i ∈ L, i ∈ own.map (·.2)) (hi : VI X E tg it mi)
    (hg : ∀ (s : Shared) (H : Hp) (C : Addr) (cl : List (Str × Addr)) (fp : List Addr), VG (X.blk s H scope (compEnvC scope cl C X.env) fp) L tg g) (ht : ∀ (s : Shared) (H : Hp) (C : Addr) (cl : List (Str × Addr)) (fp : List Addr), VTs (X.blk s H scope (compEnvC scope cl C X.env) fp) E0 ifs mt)
    (he : ∀ (s : Shared) (H : Hp) (C : Addr) (cl : List (Str × Addr)) (fp : List Addr), VE (X.blk s H scope (compEnvC scope cl C X.env) fp) E0 elt me) (hs : ∀ x, foldedSetIterable it X.env x = pure x := by intro _; rfl) :
    VE X E (.ListComp elt [⟨tg, it, ifs, 0⟩] scope pos) (dComp (own.map (·.2)) mi g mt me) := by
  subst hsc
  obtain ⟨t, p, s⟩ := hi
  exact .mk (pe_lc (g := wG X.K X.mg L g) (tt := wT X.K X.mg E0 mt) (te := wE X.K X.mg E0 me) hc hN p ok hg ht he hs) (se_comp s sg_w hL st_w se_w)
theorem s_setComp {i : Nat} {y : Str} {py spos : Pos} {elt : Expr} {ifs : List Expr} {scope sc : Scope} {own : List (Str × Nat)} {mt : M Bool} (hc : X.calm = true) (hN : X.N.Nodup) (hy : X.N[i]? = some y) (hyl : X.env.scope.names.lookup y = some .local)
    (hsw : swapsWith (.ListComp elt [⟨tg, it, ifs, 0⟩] scope pos) (some (.Name y py)) spos.line X.env = pure true) (hsc : X.env.scope = sc) (ok : BlkOk X.N sc scope own) (hL : ∀ i ∈ L, i ∈ own.map (·.2)) (hi : VI X E tg it mi)
    (hg : ∀ (s : Shared) (H : Hp) (C : Addr) (cl : List (Str × Addr)) (fp : List Addr), VG (X.blk s H scope (compEnvC scope cl C X.env) fp) L tg g) (ht : ∀ (s : Shared) (H : Hp) (C : Addr) (cl : List (Str × Addr)) (fp : List Addr), VTs (X.blk s H scope (compEnvC scope cl C X.env) fp) E0 ifs mt)
    (he : ∀ (s : Shared) (H : Hp) (C : Addr) (cl : List (Str × Addr)) (fp : List Addr), VE (X.blk s H scope (compEnvC scope cl C X.env) fp) E0 elt me) (hs : ∀ x, foldedSetIterable it X.env x = pure x := by intro _; rfl) :
    VS X E (.Assign [.Name y py] (.ListComp elt [⟨tg, it, ifs, 0⟩] scope pos) spos) (dSet i (dComp (own.map (·.2)) mi g mt me)) := by
  subst hsc
  obtain ⟨t, p, s⟩ := hi
  exact .mk (ps_setLc (g := wG X.K X.mg L g) (tt := wT X.K X.mg E0 mt) (te := wE X.K X.mg E0 me) hc hN hy hyl hsw p ok hg ht he hs) (ss_set (se_comp s sg_w hL st_w se_w))
end
end VF

set_option maxRecDepth 100000
set_option maxHeartbeats 4000000
/-! More rules: room, fuel, + of anything, list(range), tuple(), slices, index. -/
namespace VF
set_option autoImplicit false
open PySem PySem.Spec PyProof.Rows L2
open AT (cells cellsL er ers)
theorem u64 {k : Nat} {A : Around} (r : Room k A) : A.units + 64 < cLine := by have := r.un; omega
theorem u65 {k : Nat} {A : Around} (r : Room k A) : A.units + 65 < cLine := by have := r.un; omega
def fuel : Nat := 1000000000
theorem law_sp {K : PySem.W.Frag} {mg : Str → Option Value} {φ : Fn} {ns : List Int} {H : Hp} {a : Addr} {E : XK} (h : ∃ as', φ [.fz (.scr ns)] = .ok (.fz (.bl true)) as') (hS : SqL K H a (ns.map V.int)) : spF K mg 1 φ [.ref a] H (fun v _ => v = .bl true) E := by
  obtain ⟨as', h⟩ := h
  refine ⟨H, [.fz (.ref a) (.scr ns)], [], rfl, rfl, Same.refl _, ⟨fun c hc => absurd (show c ∈ ([] : List (Addr × HO)) from hc) List.not_mem_nil, ⟨⟨a, rfl, hS⟩, trivial⟩, List.nodup_nil⟩, ?_⟩
  rw [show ers [AT.fz (.ref a) (.scr ns)] = [SV.fz (.scr ns)] from rfl, h]
  intro v F' H' t ts' s s' e1 e2 _ _ g
  cases t with
  | fz u d =>
    have e3 : d = .bl true := by simpa [er] using e2
    subst e3
    have : u = .bl true := g.unfz.2
    rw [← e1]; exact this
  | ol _ _ => simp [er] at e2
  | oo _ _ _ _ _ _ => simp [er] at e2
  | od _ _ _ => simp [er] at e2
theorem passN {X : Cx} {E : L2.St → XK} : ∀ σ, PassesAt CX0 X σ (E σ) := fun _ _ _ _ _ _ _ c => False.elim c
end VF

set_option maxRecDepth 100000
set_option maxHeartbeats 4000000
/-! More rules: slices, index. -/
namespace VF
set_option autoImplicit false
open PySem PySem.Spec PyProof.Rows L2
open AT (cells cellsL er ers)
variable {K : PySem.W.Frag} {mg : Str → Option Value} {E : XS}
/-! ### slices -/
def WO (K : PySem.W.Frag) (mg : Str → Option Value) (pv : List (Nat × V)) (F : Hp) (held : List AT) (σ : L2.St) (Q : Option Int → Hp → Prop) (E : XS) : R (Option Int) → Prop
  | .st => False
  | .ok o e' => ∀ F' H' as', Same F F' → Cf K mg pv F' H' σ e' as' held → Q o H'
  | .ex x e' => WX K mg pv F held E x e'
def SO (K : PySem.W.Frag) (mg : Str → Option Value) (E : XS) (t : TO) (m : M (Option Int)) : Prop :=
  ∀ (pv : List (Nat × V)) (F H : Hp) (σ : L2.St) (e : VF.Env) (as : List (Option AT)) (held : List AT) (Q : Option Int → Hp → Prop), Cf K mg pv F H σ e as held → WO K mg pv F held σ Q E (m e) → t σ H Q
theorem WO.bindO {pv : List (Nat × V)} {F : Hp} {held : List AT} {σ : L2.St} {e : VF.Env} {α : Type} {f : Option Int → M α} {m : M (Option Int)} {W : R α → Prop} (hs : ¬ W .st) (h : W ((m e).bind f)) {P : Option Int → Hp → Prop}
    (hx : ∀ x e', W (.ex x e') → WX K mg pv F held E x e')
    (k : ∀ b e' F' H' as', Same F F' → Cf K mg pv F' H' σ e' as' held → W (f b e') → P b H') : WO K mg pv F held σ P E (m e) := by
  cases q : m e with
  | st => rw [q] at h; exact absurd h hs
  | ok r e' => rw [q] at h; exact fun F' H' as' s c => k r e' F' H' as' s c h
  | ex x e' => rw [q] at h; exact hx x e' h
def dNoPart : M (Option Int) := fun e => .ok none e
def dPart (a : M RV) : M (Option Int) := a.bind fun r e => match view e r with
  | some (.int i) => .ok (some i) e
  | _ => .st
theorem so_none : SO K mg E tNoPart dNoPart := fun pv F H σ e as held Q c w => w F H as (Same.refl _) c
theorem so_some {t : TE} {m : M RV} (h : SE K mg E t m) : SO K mg E (tPart t) (dPart m) := by
  intro pv F H σ e as held Q c w
  refine h pv F H σ e as held _ c (WE.bindE (W := WO K mg pv F held σ Q E) (fun z => z) w (fun _ _ z => z) fun r1 e1 v1 F1 H1 as1 tr1 s1 c1 rr1 w1 => ?_)
  cases q1 : view e1 r1 with
  | none => simp only [q1] at w1; exact w1.elim
  | some x =>
    cases x with
    | int i =>
      simp only [q1] at w1
      have p1 := c1.seen rr1 (fun t ht => List.mem_append_left _ ht) q1
      exact ⟨i, p1, w1 F1 H1 as1 s1 c1.drop⟩
    | _ => simp only [q1] at w1; exact w1.elim
def cutD (ds : List D) (lo hi : Option Int) : List D := (ds.drop (HT.sIx ds.length 0 lo)).take (HT.sIx ds.length ds.length hi - HT.sIx ds.length 0 lo)
theorem reps_cut {F : Hp} {vs : List V} {ds : List D} (h : Reps K mg F vs ds) (lo hi : Option Int) : Reps K mg F (cutV vs lo hi) (cutD ds lo hi) := by
  unfold cutV cutD
  rw [h.length]
  exact (h.drop _).take _
/-- xs[lo:hi], a list -/
def dSl (a : M RV) (l h : M (Option Int)) : M RV := a.bind fun r e => match frzR r e with
  | some (.lst ds, e1) => (l e1).bind fun lo e2 => (h e2).bind fun hi e3 => .ok (.own (.ol ((cutD ds lo hi).map .fz))) e3
  | _ => .st
theorem se_slice {te : TE} {tl th : TO} {ma : M RV} {ml mh : M (Option Int)} (ha : SE K mg E te ma) (hl : SO K mg E tl ml) (hh : SO K mg E th mh) : SE K mg E (tSl (rSlL K) te tl th) (dSl ma ml mh) := by
  intro pv F H σ e as held Q c w
  refine ha pv F H σ e as held _ c (WE.bindE (W := WE K mg pv F held σ Q E) (fun z => z) w (fun _ _ z => z) fun r e1 v1 F1 H1 as1 tr1 s1 c1 rr1 w1 => ?_)
  cases q : frzR r e1 with
  | none => simp only [q] at w1; exact w1.elim
  | some pr =>
    obtain ⟨d, e2⟩ := pr
    cases d with
    | lst ds =>
      simp only [q] at w1
      obtain ⟨F2, as2, s2, c2, rv⟩ := c1.frzR rr1 q
      refine hl pv F2 H1 σ e2 as2 held _ c2 (WO.bindO (W := WE K mg pv F held σ Q E) (fun z => z) w1 (fun _ _ z => WX.mono (s1.trans s2) z) fun lo e3 F3 H3 as3 s3 c3 w3 => ?_)
      refine hh pv F3 H3 σ e3 as3 held _ c3 (WO.bindO (W := WE K mg pv F held σ Q E) (fun z => z) w3 (fun _ _ z => WX.mono ((s1.trans s2).trans s3) z) fun hi e4 F4 H4 as4 s4 c4 w4 => ?_)
      obtain ⟨a, vs, e, h1, h2⟩ := Rep.same (s3.trans s4) rv
      refine ⟨a, vs, e, SqL.of (c4.s _ _ h1), fun p hp => ?_⟩
      obtain ⟨t, e1, e2', c5⟩ := c4.newL (reps_cut h2 lo hi) hp
      exact w4 (.ref p) F4 _ as4 [t] (((s1.trans s2).trans s3).trans s4) c5 ⟨t, rfl, e1, e2'⟩
    | _ => simp only [q] at w1; exact w1.elim
section
variable {X : Cx} {a b c : Expr} {ma mb mc : M RV} {pos : Pos}
theorem v_slTo {p2 : Pos} (ha : VE X E a ma) (hb : VE X E b mb) : VE X E (.Subscript a (.Slice none (some b) none p2) pos) (dSl ma dNoPart (dPart mb)) := .mk (pe_slice sl_list ha po_none (po_some hb)) (se_slice se_w so_none (so_some se_w))
theorem v_slFrom {p2 : Pos} (ha : VE X E a ma) (hb : VE X E b mb) : VE X E (.Subscript a (.Slice (some b) none none p2) pos) (dSl ma (dPart mb) dNoPart) := .mk (pe_slice sl_list ha (po_some hb) po_none) (se_slice se_w (so_some se_w) so_none)
theorem v_sl {p2 : Pos} (ha : VE X E a ma) (hb : VE X E b mb) (hc : VE X E c mc) : VE X E (.Subscript a (.Slice (some b) (some c) none p2) pos) (dSl ma (dPart mb) (dPart mc)) := .mk (pe_slice sl_list ha (po_some hb) (po_some hc)) (se_slice se_w (so_some se_w) (so_some se_w))
theorem v_slAll {p2 : Pos} (ha : VE X E a ma) : VE X E (.Subscript a (.Slice none none none p2) pos) (dSl ma dNoPart dNoPart) := .mk (pe_slice sl_list ha po_none po_none) (se_slice se_w so_none so_none)
end
end VF

set_option maxRecDepth 100000
set_option maxHeartbeats 4000000
/-! More rules: list(range), list + list, tuple(), index. -/
namespace VF
set_option autoImplicit false
open PySem PySem.Spec PyProof.Rows L2
open AT (cells cellsL er ers)
section
variable {K : PySem.W.Frag} {mg : Str → Option Value} {E : XS}
/-! ### list(range(n)) -/
def dLstRg (a : M RV) : M RV := a.bind fun r e => match view e r with
  | some (.int j) => if j ≤ 1000000 ∧ -(2 ^ 62) ≤ j then .ok (.own (.ol ((rngD 0 j.toNat).map .fz))) e else .st
  | _ => .st
theorem reps_rg {F : Hp} (j : Int) : Reps K mg F (rgV 0 j) (rngD 0 j.toNat) := by
  unfold rgV rngD
  rw [Int.sub_zero]
  generalize List.range j.toNat = l
  induction l with
  | nil => trivial
  | cons x xs ih => exact ⟨rfl, ih⟩
theorem se_lstRg {ta : TE} {ma : M RV} (ha : SE K mg E ta ma) : SE K mg E (tLstRg (tRg1 ta)) (dLstRg ma) := by
  intro pv F H σ e as held Q c w
  refine ha pv F H σ e as held _ c (WE.bindE (W := WE K mg pv F held σ Q E) (fun z => z) w (fun _ _ z => z) fun r1 e1 v1 F1 H1 as1 tr1 s1 c1 rr1 w1 => ?_)
  cases q1 : view e1 r1 with
  | none => simp only [q1] at w1; exact w1.elim
  | some x =>
    cases x with
    | int j =>
      simp only [q1] at w1
      have p1 := c1.seen rr1 (fun t ht => List.mem_append_left _ ht) q1
      by_cases hj : j ≤ 1000000 ∧ -(2 ^ 62) ≤ j
      · rw [if_pos hj] at w1
        refine ⟨j, p1, ⟨by omega, by omega, by omega, by omega, by omega⟩, fun p hp => ?_⟩
        obtain ⟨t, e1', e2', c3⟩ := (c1.drop).newL (reps_rg j) hp
        exact w1 (.ref p) F1 _ as1 [t] s1 c3 ⟨t, rfl, e1', e2'⟩
      · rw [if_neg hj] at w1; exact w1.elim
    | _ => simp only [q1] at w1; exact w1.elim
/-! ### list + list -/
def dAddL (a b : M RV) : M RV := a.bind fun r e => match frzR r e with
  | some (.lst ds, e1) => (b e1).bind fun q e2 => (match frzR q e2 with
    | some (.lst es, e3) => if ds.length + es.length ≤ sizeLine then .ok (.own (.ol ((ds ++ es).map .fz))) e3 else .st
    | _ => .st)
  | _ => .st
theorem se_addL {ta tb : TE} {ma mb : M RV} (ha : SE K mg E ta ma) (hb : SE K mg E tb mb) : SE K mg E (tOp rCat ta tb) (dAddL ma mb) := by
  intro pv F H σ e as held Q c w
  refine ha pv F H σ e as held _ c (WE.bindE (W := WE K mg pv F held σ Q E) (fun z => z) w (fun _ _ z => z) fun r e1 v1 F1 H1 as1 tr1 s1 c1 rr1 w1 => ?_)
  cases q : frzR r e1 with
  | none => simp only [q] at w1; exact w1.elim
  | some pr =>
    obtain ⟨d, e2⟩ := pr
    cases d with
    | lst ds =>
      simp only [q] at w1
      obtain ⟨F2, as2, s2, c2, rv⟩ := c1.frzR rr1 q
      refine hb pv F2 H1 σ e2 as2 held _ c2 (WE.bindE (W := WE K mg pv F held σ Q E) (fun z => z) w1 (fun _ _ z => WX.mono (s1.trans s2) z) fun r3 e3 v3 F3 H3 as3 tr3 s3 c3 rr3 w3 => ?_)
      cases q3 : frzR r3 e3 with
      | none => simp only [q3] at w3; exact w3.elim
      | some pr3 =>
        obtain ⟨d3, e4⟩ := pr3
        cases d3 with
        | lst es =>
          simp only [q3] at w3
          obtain ⟨F4, as4, s4, c4, rv4⟩ := c3.frzR rr3 q3
          by_cases hz : ds.length + es.length ≤ sizeLine
          · rw [if_pos hz] at w3
            obtain ⟨a, vs, e, h1, h2⟩ := Rep.same (s3.trans s4) rv
            obtain ⟨b, us, e', k1, k2⟩ := rv4
            refine ⟨a, b, vs, us, e, e', c4.s _ _ h1, c4.s _ _ k1, by rw [h2.length, k2.length]; exact hz, fun p hp => ?_⟩
            obtain ⟨t, g1, g2, c5⟩ := c4.newL (h2.append k2) hp
            exact w3 (.ref p) F4 _ as4 [t] (((s1.trans s2).trans s3).trans s4) c5 ⟨t, rfl, g1, g2⟩
          · rw [if_neg hz] at w3; exact w3.elim
        | _ => simp only [q3] at w3; exact w3.elim
    | _ => simp only [q] at w1; exact w1.elim
/-! ### tuple(x) -/
def dTupOf (a : M (List RV)) : M RV := a.bind fun rs e => match frzRs rs e with
  | some ([.lst ds], e1) => .ok (.fz (.tup ds)) e1
  | _ => .st
theorem sa_tupOf {ta : TA} {ma : M (List RV)} (ha : SA K mg E ta ma) : SE K mg E (tCB (fun xs H Q => ∃ p ys, xs = [.ref p] ∧ ((SqL K H p ys ∧ ∀ l, H l = none → Q (.ref l) (upd H l (.tup ys))) ∨ (SqT K H p ys ∧ Q (.ref p) H))) ta) (dTupOf ma) := by
  intro pv F H σ e as held Q c w
  refine ha pv F H σ e as held _ c (WA.bindA (W := WE K mg pv F held σ Q E) (fun z => z) w (fun _ _ z => z) fun rs e1 vs F1 H1 as1 tr1 s1 c1 rr1 w1 => ?_)
  cases q : frzRs rs e1 with
  | none => simp only [q] at w1; exact w1.elim
  | some pr =>
    obtain ⟨ds, e2⟩ := pr
    match ds, q with
    | [.lst es], q =>
      simp only [q] at w1
      obtain ⟨F2, as2, s2, c2, rps⟩ := c1.frzRs rr1 q
      obtain ⟨v, ev, rv⟩ := reps1 rps
      obtain ⟨p, ys, e3, h1, h2⟩ := rv
      subst ev; subst e3
      refine ⟨p, ys, rfl, .inl ⟨SqL.of (c2.s _ _ h1), fun l hl => ?_⟩⟩
      obtain ⟨F3, s3, c3⟩ := c2.newT h2 hl
      exact w1 (.ref l) F3 _ as2 _ ((s1.trans s2).trans s3) c3 rfl
    | [], q => simp only [q] at w1; exact w1.elim
    | _ :: _ :: _, q => simp only [q] at w1; exact w1.elim
    | [.non], q => simp only [q] at w1; exact w1.elim
    | [.bl _], q => simp only [q] at w1; exact w1.elim
    | [.int _], q => simp only [q] at w1; exact w1.elim
    | [.str _], q => simp only [q] at w1; exact w1.elim
    | [.ty _], q => simp only [q] at w1; exact w1.elim
    | [.tup _], q => simp only [q] at w1; exact w1.elim
    | [.dct _ _], q => simp only [q] at w1; exact w1.elim
    | [.obj _ _ _], q => simp only [q] at w1; exact w1.elim
    | [.scr _], q => simp only [q] at w1; exact w1.elim
/-! ### methods of a list that read -/
def MtD (r : V → List V → Hp → VK → Prop) (K : PySem.W.Frag) (mg : Str → Option Value) (f : List D → List D → Option D) : Prop := ∀ (H : Hp) (x : V) (xs : List V) (ds as : List D) (d : D), Rep K mg H x (.lst ds) → Reps K mg H xs as → f ds as = some d → ∃ v, imm d = some v ∧ ∀ Q : VK, Q v H → r x xs H Q
def dMt (f : List D → List D → Option D) (a : M RV) (b : M (List RV)) : M RV := a.bind fun r e => match view e r with
  | some (.lst _) => (b e).bind fun rs e2 => (match view e2 r, rs.mapM (view e2) with
    | some (.lst ds), some as => (match f ds as with
      | some d => .ok (.fz d) e2
      | none => .st)
    | _, _ => .st)
  | _ => .st
theorem se_mt {r : V → List V → Hp → VK → Prop} {f : List D → List D → Option D} {ta : TE} {tb : TA} {ma : M RV} {mb : M (List RV)} (hr : MtD r K mg f) (ha : SE K mg E ta ma) (hb : SA K mg E tb mb) : SE K mg E (tBM K "list" r ta tb) (dMt f ma mb) := by
  intro pv F H σ e as held Q c w
  refine ha pv F H σ e as held _ c (WE.bindE (W := WE K mg pv F held σ Q E) (fun z => z) w (fun _ _ z => z) fun r1 e1 v1 F1 H1 as1 tr1 s1 c1 rr1 w1 => ?_)
  cases q1 : view e1 r1 with
  | none => simp only [q1] at w1; exact w1.elim
  | some x =>
    cases x with
    | lst ds0 =>
      simp only [q1] at w1
      have p1 := c1.seen rr1 (fun t ht => List.mem_append_left _ ht) q1
      obtain ⟨a, vs, ea, h1, h2⟩ := p1
      refine ⟨by subst ea; exact .inl ⟨rfl, _, SqL.of h1⟩, ?_⟩
      refine hb pv F1 H1 σ e1 as1 (tr1 ++ held) _ c1 (WA.bindA (W := WE K mg pv F held σ Q E) (fun z => z) w1 (fun _ _ z => (WX.mono s1 z).drop) fun rs e2 us F2 H2 as2 tr2 s2 c2 rr2 w2 => ?_)
      cases q2 : view e2 r1 with
      | none => simp only [q2] at w2; exact w2.elim
      | some y =>
        cases y with
        | lst ds =>
          cases q3 : rs.mapM (view e2) with
          | none => simp only [q2, q3] at w2; exact w2.elim
          | some bs =>
            simp only [q2, q3] at w2
            cases q4 : f ds bs with
            | none => simp only [q4] at w2; exact w2.elim
            | some d =>
              simp only [q4] at w2
              have k1 := c2.seen rr1 (fun t ht => List.mem_append_right _ (List.mem_append_left _ ht)) q2
              have k2 := RRs.seen (rs := rs) c2 rr2 (fun t ht => List.mem_append_left _ ht) q3
              obtain ⟨v, hv, k⟩ := hr H2 v1 us ds bs d k1 k2 q4
              exact k Q (w2 v F2 H2 as2 _ (s1.trans s2) (c2.drop.drop.fz (rep_imm hv)) rfl)
        | _ => simp only [q2] at w2; exact w2.elim
    | _ => simp only [q1] at w1; exact w1.elim
def indexD : List D → List D → Option D := fun ds as => match as with
  | [y] => (match toPs ds, toP y with
    | some ps, some p => if (SeqAt.shaped (.list ps) && SeqAt.shaped p) = true then (ps.findIdx? fun z => PyData.eqv z p).map fun j => .int (j : Nat) else none
    | _, _ => none)
  | _ => none
theorem mtd_index : MtD (rIndexD K) K mg indexD := by
  intro H x xs ds as d rx rxs q
  match as, rxs, q with
  | [y], rxs, q =>
    obtain ⟨u, eu, ru⟩ := reps1 rxs
    subst eu
    unfold indexD at q
    cases z1 : toPs ds with
    | none => simp only [z1] at q; cases q
    | some ps => cases z2 : toP y with
      | none => simp only [z1, z2] at q; cases q
      | some p =>
        simp only [z1, z2] at q
        split at q
        · rename_i hs
          obtain ⟨hs1, hs2⟩ := Bool.and_eq_true_iff.mp hs
          cases z3 : (ps.findIdx? fun z => PyData.eqv z p) with
          | none => rw [z3] at q; cases q
          | some j =>
            rw [z3] at q; cases q
            obtain ⟨hj, hj1, hj2⟩ := List.findIdx?_eq_some_iff_getElem.mp z3
            have dx := dp_of (.lst ds) rx (show toP (.lst ds) = some (.list ps) by show (toPs ds).map _ = _; rw [z1]; rfl)
            obtain ⟨a, vs, ea, h1, h2⟩ := rx
            subst ea
            refine ⟨_, rfl, fun Q k => ⟨a, u, p, ps, j, ps[j], rfl, rfl, dx, dp_of y ru z2, hs1, hs2, List.getElem?_eq_getElem hj, hj1, fun m z' hm hz => ?_, k⟩⟩
            have hml : m < ps.length := by omega
            rw [List.getElem?_eq_getElem hml] at hz
            cases hz
            have := hj2 m hm
            simpa using this
        · cases q
  | [], _, q => cases q
  | _ :: _ :: _, _, q => cases q
end
section
variable {X : Cx} {E : XS} {a b : Expr} {ma mb : M RV} {pos : Pos} {mr : M (List RV)}
theorem v_addL (ha : VE X E a ma) (hb : VE X E b mb) : VE X E (.BinOp a .Add b pos) (dAddL ma mb) := .mk (pe_op op_cat ha hb) (se_addL se_w se_w)
theorem v_lstRg {p p2 pos2 : Pos} (hc : X.calm = true) (hg : Gl X "list") (hm : X.mg "list" = none) (hg2 : Gl X "range") (hm2 : X.mg "range" = none) (ha : VE X E a ma) (na : starEach [.Call (.Name "range" p2) [a] [] pos2] X.env = (false, eval (.Call (.Name "range" p2) [a] [] pos2) X.env) :: starEach [] X.env := by rfl) (na2 : starEach [a] X.env = (false, eval a X.env) :: starEach [] X.env := by rfl) :
    VE X E (.Call (.Name "list" p) [.Call (.Name "range" p2) [a] [] pos2] [] pos) (dLstRg ma) := .mk (pe_listRg hc hg hm (prg_1 hg2 hm2 ha na2) na) (se_lstRg se_w)
theorem v_tupOf {p : Pos} {es : List Expr} (hg : Gl X "tuple") (hm : X.mg "tuple" = none) (ha : VA X E (a :: es) mr) (he : starEach (a :: es) X.env = (false, eval a X.env) :: starEach es X.env := by rfl) (hpl : (backTo pos (starEach es X.env)).any (·.1) = false := by rfl) :
    VE X E (.Call (.Name "tuple" p) (a :: es) [] pos) (dTupOf mr) := .mk (pe_callTy call_tuple_of hg hm (by decide +kernel) ha (by decide) (by decide) he hpl) (sa_tupOf sa_w)
theorem v_index {p1 : Pos} {es : List Expr} (ho : VE X E a ma) (ha : VA X E (b :: es) mr)
    (h : ∀ {to : TE} {t : TA}, PE X a to → PA X (b :: es) t → PE X (.Call (.Attribute a "index" p1) (b :: es) [] pos) (tBM X.K "list" (rIndexD X.K) to t)) : VE X E (.Call (.Attribute a "index" p1) (b :: es) [] pos) (dMt indexD ma mr) :=
  .mk (h ho ha) (se_mt mtd_index se_w sa_w)
end
end VF

set_option maxRecDepth 100000
set_option maxHeartbeats 4000000
/-! An own error class whose __init__ says super().__init__(f"..") and keeps its parameters as fields. -/
namespace VF
set_option autoImplicit false
open PySem PySem.Spec PyProof.Rows L2
open NdefX (NF NScope CellsAt startF envF ncx inv_startN)

abbrev mwO (a : Addr) : Obj := PySem.W.kxs_mw "ValueError.__init__" a
section
variable {X : Cx} {pins : List (Addr × Obj)} {σ : L2.St} {H : Hp} {s : Shared} {a C u : Addr} {A : Around} {E : Value → Shared → Prop}
theorem inv_tail {p : Addr × Obj} (I : Inv X (p :: pins) σ H s) : Inv X pins σ H s := I.pins_of fun q hq => I.pin q (List.mem_append_right _ (List.mem_cons_of_mem _ hq))
/-- the bound __init__, called -/
theorem mw_call {us : List Value} {Q : Value → Shared → Prop} (T : OexC X.K C) (I : Inv X pins σ H s) (ea : H a = some (exo a C none)) (hu : s.heap.get? u = some (mwO a)) (hl : us.length ≤ sizeLine) (h : ∀ s', Inv X pins σ H s' → Q .none s') :
    wpAny (model X.prog X.w) A (call (.ref u) us) Q E s := by
  obtain ⟨nm, q, N, bs, bm, sn, sub, ab, col, dd, k0, k1, k2, k3, k5, hC, hbm⟩ := T.cls
  obtain ⟨t1, ho⟩ := exo_at I.hok ea
  have hCh := I.kIn _ _ hC
  obtain ⟨hp, g, d, t, os⟩ := s
  have fin : ∀ h', (∀ b o, b ≠ a → hp.get? b = some o → h'.get? b = some o) → h'.get? a = some (HandSPX.excO C hp.objs.size) → Q .none ⟨h', g, d, t, os⟩ := fun h' k hx => by
    have J := I.write (t' := t) (x := a) (e := a) (o := exo a C none) (by rw [ea]; exact True.intro) (.inl rfl) k ⟨_, hx⟩ (exo_ok hx)
    have eu : upd H a (exo a C none) = H := funext fun b => by
      by_cases hb : b = a
      · subst hb; rw [upd_same, ea]
      · rw [upd_ne hb]
    rw [eu] at J
    exact h _ J
  refine wpAny_call (codeAny_of_tree ?_)
  show wpAny _ A.in1 (callAny (.ref u) ⟨us, []⟩) _ _ _
  unfold callAny
  refine wpAny_bind (wpAny_load hu ?_)
  have c1 : (Value.type "method-wrapper" == Value.type "method" || Value.type "method-wrapper" == Value.type "builtin_function_or_method" || Value.type "method-wrapper" == Value.type "method-wrapper") = true := by decide
  simp only [mwO, PySem.W.kxs_mw, c1, if_true]
  refine PySem.W.KFB.if_so (by decide) ?_
  refine wpAny_bind (PySem.W.check_bound_init F.excBase_ValueError.toExcCallFacts hCh ho rfl ?_)
  refine wpAny_bind (wpAny_pure (wpAny_pure ⟨plainId_quiet F.excBase_ValueError.init.plain _, codeAny_builtin F.excBase_ValueError.initEntry ?_⟩))
  exact PySem.W.exc_init_tree (cls := .ref C) (t0 := t1) (dv := none) (c2 := .none) (c3 := .none) (b4 := .bool false) ho hl fun h' k e' _ => fin h' k e'
end
/-- what the written part says of the class and of its __init__ -/
structure IniK (P : Program) (K : PySem.W.Frag) (mg : Str → Option Value) (C fI cc cda : Addr) (F : NF) : Prop where
  T : OexC K C
  lk : ∃ oc od dV kV doc pm an ct osl, K.lookup fI = some ⟨oc, od, .func (PySem.W.fnX F.name F.qual F.params F.body F.scope [(("__class__" : Str), cc)] dV kV doc pm an (.ref cda) ct), osl⟩
  hcd : PySem.W.codeIn K (.ref cda) F.qual = true
  code : ∃ ccl cdd vs ccs file tf, K.lookup cda = some ⟨ccl, cdd, .fields vs, ccs⟩ ∧ vs[2]? = some (.str file tf) ∧ ((P.main.file : Str) == file) = true
  cell : ∃ cl cld csl, K.lookup cc = some ⟨cl, cld, .cell (some (.ref C)), csl⟩
  isC : ∃ cd, PySem.W.clsIn K C = some cd
  sub : PySem.W.mroIn K C (.ref C) = some true
  sup : mg "super" = none
  top : (P.main.scope.names.lookup ("super" : Str)).isSome = false
  opq : PySem.W.nsIn K cStatics "thirdparty.any" = some none
  mro : PySem.W.ks_superIn K C C "__init__" = some (some (.builtin "ValueError.__init__"))
  subV : PySem.W.subIn K (.ref C) (.type "ValueError") = some true
  iC : PySem.W.findIn K (.ref C) "__init__" = some (some (.ref fI))
  tI : PySem.W.typeIn K (.ref fI) = some (.type "function")
  cl : F.cl = [(("__class__" : Str), cc)]
  c : F.c = cda
section
variable {X : Cx} {pins : List (Addr × Obj)} {σ : L2.St} {H : Hp} {s : Shared} {a C fI cc cda : Addr} {F : NF} {D : Ends} {e : Expr} {te : TE} {p0 p1 p2 pos pos' : Pos} {body : List Stmt} {ar : Arg}
/-- super().__init__(e) -/
theorem super_init (T : IniK X.prog X.K X.mg C fI cc cda F) (hp : (F.params.posonlyargs ++ F.params.args).head? = some ar) (har : ar.arg = "self") (hfu : X.env.func = some fI) (hco : X.env.code = .ref cda)
    (hks : X.env.kindOf "super" = some .globalImplicit) (hkc : X.env.kindOf "__class__" = some .free) (hka : X.env.kindOf "self" = some .local) (h0 : X.N[0]? = some ("self" : Str))
    (hc : X.env.cells.lookup ("__class__" : Str) = some cc) (s0 : σ[0]? = some (some (.ref a))) (I : Inv X pins σ H s) (ea : H a = some (exo a C none)) (he : PE X e te) (h : te σ H fun _ H1 => H1 a = some (exo a C none) ∧ D.nx σ H1)
    (hse : starEach [e] X.env = (false, eval e X.env) :: starEach [] X.env := by rfl)
    {pl : Sem Bool} (hev : eval (.Call (.Attribute (.Call (.Name "super" p0) [] [] p1) "__init__" p2) [e] [] pos) X.env = (do
      let ov ← attributeBase (.Call (.Name "super" p0) [] [] p1) "__init__" X.env (eval (.Call (.Name "super" p0) [] [] p1) X.env)
      standAt p2.atName
      let (f, first) ← holding [ov] (getMethod ov "__init__" pl)
      callWith pos f first (backTo pos (starEach [e] X.env)) []) := by rfl) :
    PySem.wpAt (model X.prog X.w) X.A (.func body X.env) (exec (.Expr (.Call (.Attribute (.Call (.Name "super" p0) [] [] p1) "__init__" p2) [e] [] pos) pos') X.env) (SP X pins D) X.xe s := by
  obtain ⟨oc, od, dV, kV, doc, pm, an, ct, osl, lk⟩ := T.lk
  obtain ⟨ccl, cdd, vs, ccs, file, tf, lc, hvs, hfile⟩ := T.code
  obtain ⟨cl, cld, csl, lcell⟩ := T.cell
  obtain ⟨cd, hcd⟩ := T.isC
  have KX := I.kIn
  obtain ⟨oC, hC1, hC2⟩ : ∃ oC, s.heap.get? C = some oC ∧ oC.data = .cls cd := by
    have hcd' := hcd
    unfold PySem.W.clsIn at hcd'
    split at hcd'
    · rename_i z1 z2 z3 z4 z5
      cases hcd'
      exact ⟨_, KX _ _ z5, rfl⟩
    · cases hcd'
  refine ks_wpAt_Expr_any ?_ I.quiet (by rfl)
  refine ks_wpAt_MethodCall ?_ hev
  refine ks_wpAt_super_base hks hkc rfl hfu (KX _ _ lk) rfl hp hco (KX _ _ lc) rfl hvs hfile T.top ?_
  obtain ⟨mb, hb1, hb2⟩ := I.mod.blt
  refine PySem.W.ks_loadName_global I.ok.kind hks (Calls.loadGlobal_builtin (by rw [I.ok.glob]; exact I.mod.glob.keeps I.bk) T.sup (by rw [I.ok.blt]; exact hb1.keeps I.bk) ((hb2 "super" (by decide)).trans (show bootBuiltins "super" = some (.type "super") by decide +kernel)) ⟨rfl, ?_⟩)
  refine wpAny_loadName_free I.ok.kind hkc hc ⟨_, KX _ _ lcell, rfl⟩ ?_
  rw [har]
  obtain ⟨m, hn, hl⟩ := I.loc
  obtain ⟨us, rs, lo⟩ := hl 0 "self" (.ref a) h0 s0 (.inl hka)
  obtain rfl : us = Value.ref a := rs
  have hm : m "self" = some (.ref a) := by
    rcases lo with ⟨_, z⟩ | ⟨z, _⟩
    · exact z
    · rw [hka] at z; rcases z with z | z <;> cases z
  refine wpAny_loadName_local I.ok.kind hka hn hm ?_
  refine ks_wpAny_isType_cls hC1 hC2 ⟨rfl, ?_⟩
  obtain ⟨t1, ho⟩ := exo_at I.hok ea
  have m1 : PySem.W.alongIn X.K "__init__" ((cd.mro.dropWhile (· != .ref C)).drop 1) = some (some (.builtin "ValueError.__init__")) := by
    have z := T.mro
    unfold PySem.W.ks_superIn at z
    rw [hcd] at z
    exact z
  obtain ⟨hp0, g, d, t, os⟩ := s
  refine ks_wpAny_call_super hC1 hC2 ho rfl (fun c z => nomatch z) (PySem.W.looks_mroIn KX T.sub) fun h' e' k => ?_
  have I1 : Inv X pins σ H ⟨h', g, d, t, os⟩ := I.kept (t' := t) k
  have J : PySem.W.InstAt h' a _ C none := ⟨k _ _ ho, rfl, rfl, trivial⟩
  refine PySem.W.kxs_getMethod PySem.W.kxs_ValueError e' (PySem.W.looks_opaque I1.kIn T.opq) ((PySem.W.looks_clsIn I1.kIn hcd).andThen .now) rfl I1.kIn m1 (J.type.andThen (PySem.W.looks_subIn I1.kIn T.subV)) (PySem.W.ks_ne I1.kIn J hcd) (by decide) ?_
  have kp : ∀ b o, h'.get? b = some o → (h'.push (mwO a)).get? b = some o := fun b o e => Heap.get?_push_of_some _ e
  have hu : (h'.push (mwO a)).get? h'.objs.size = some (mwO a) := Heap.get?_push_at rfl rfl
  have I2 : Inv X pins σ H ⟨h'.push (mwO a), g, d, t + 1, os⟩ := I1.kept (t' := t + 1) kp
  have I3 : Inv X ((h'.objs.size, mwO a) :: pins) σ H ⟨h'.push (mwO a), g, d, t + 1, os⟩ := I2.pins_of fun p hpm => (List.mem_cons.mp hpm).elim
    (fun z => by
      rw [z]
      exact ⟨hu, I1.hok.fresh (Nat.le_refl _), Nat.ne_of_gt I1.lt, fun hm => by
        obtain ⟨_, o, ho', _⟩ := I1.funs.mem hm
        exact absurd (Heap.lt_size ho') (Nat.lt_irrefl _), fun v z => nomatch z⟩)
    fun z => I2.pin p (List.mem_append_right _ z)
  show wpAny _ _ (callWith pos (.ref h'.objs.size) [] (backTo pos (starEach [e] X.env)) []) _ _ _
  refine PySem.W.kxs_callWith (i := "ValueError.__init__") (x := a) (by rw [hse]; rfl) ?_
  have run := he.run ((h'.objs.size, mwO a) :: pins) _ σ H _ I3 h
  rw [hse]
  refine Calls.evalArgs_plain ?_
  refine Calls.spliced_cons (thn run fun u s3 hh => ?_)
  obtain ⟨v, H1, I4, r4, ea1, q⟩ := hh
  refine Calls.spliced_nil ?_
  have hu4 := (I4.pin (h'.objs.size, mwO a) (List.mem_append_right _ List.mem_cons_self)).1
  exact ⟨hu4, mw_call T.T I4 ea1 hu4 (by show 1 ≤ sizeLine; rw [sizeLine_eq]; omega) fun s' J => ⟨σ, H1, inv_tail J, q⟩⟩
end
/-! ### the def by its body -/
section
variable {CX : CXT} {P : Program} {w : World} {K : PySem.W.Frag} {mg : Str → Option Value} {base : Heap} {N ps : List Str} {F : NF} {k : Nat} {sp : Sp} {C fI cc cda : Addr} {fd : FuncData} {e : Expr} {rest : List Stmt} {p0 p1 p2 pos pos' : Pos} {ar : Arg}
theorem lookup1 {x y : Str} {c d : Addr} (h : List.lookup y [(x, c)] = some d) : y = x ∧ d = c := by
  by_cases q : y = x
  · subst q
    simp [List.lookup] at h
    exact ⟨rfl, h.symm⟩
  · have z : (y == x) = false := by simpa using q
    simp [List.lookup, z] at h
theorem ini_fn (T : IniK P K mg C fI cc cda F) (S : NScope N ps ["__class__"] F.scope) {oc dV kV doc pm ct : Value} {od an : Option Addr} {osl : Array (Option Value)} (hfd : fd = PySem.W.fnX F.name F.qual F.params F.body F.scope [(("__class__" : Str), cc)] dV kV doc pm an (.ref cda) ct) (lk : K.lookup fI = some ⟨oc, od, .func fd, osl⟩)
    (hp : (F.params.posonlyargs ++ F.params.args).head? = some ar) (har : ar.arg = "self") (hks : F.scope.names.lookup ("super" : Str) = some .globalImplicit) (hka : F.scope.names.lookup ("self" : Str) = some .local) (h0 : N[0]? = some ("self" : Str))
    (hb : F.body = .Expr (.Call (.Attribute (.Call (.Name "super" p0) [] [] p1) "__init__" p2) [e] [] pos) pos' :: rest) (len : ∀ vs H Q E, sp vs H Q E → vs.length = ps.length)
    (hse : ∀ env : PySem.Env, starEach [e] env = (false, eval e env) :: starEach [] env) {pl : PySem.Env → Sem Bool} (hev : ∀ env : PySem.Env, eval (.Call (.Attribute (.Call (.Name "super" p0) [] [] p1) "__init__" p2) [e] [] pos) env = (do
      let ov ← attributeBase (.Call (.Name "super" p0) [] [] p1) "__init__" env (eval (.Call (.Name "super" p0) [] [] p1) env)
      standAt p2.atName
      let (f, first) ← holding [ov] (getMethod ov "__init__" (pl env))
      callWith pos f first (backTo pos (starEach [e] env)) []))
    (hbody : ∀ (A : Around) (outer : List PySem.Env) (s : Shared) (H : Hp) (vs : List V) (Q : VK) (E : XK), sp vs H Q E → ∃ (a : Addr) (te : TE) (u : TS), vs[0]? = some (.ref a) ∧ H a = some (exo a C none) ∧ PE (ncx CX P w K mg base N F fI A outer s H E) e te ∧ PSs (ncx CX P w K mg base N F fI A outer s H E) rest u ∧
      te (startF N vs [some (.ref C)]) H fun _ H1 => H1 a = some (exo a C none) ∧ u { nx := fun _ H' => Q .non H', rt := Q } (startF N vs [some (.ref C)]) H1) :
    FnOk P w K mg base CX (k + 1) fI fd ps sp := by
  subst hfd
  refine ⟨len, fun A outer s H args us vs Q E hr e0 hbd rv hsp => ?_⟩
  have hl := len _ _ _ _ hsp
  have KX : K.In s.heap := e0.mod.kin.keeps fun b o e => (e0.bs b o e).1
  have lim : s.heap.NoLimit := e0.mod.nolimit.keeps fun b o e => (e0.bs b o e).1
  obtain ⟨cl, cld, csl, lcell⟩ := T.cell
  have C0 : CellsAt F.cl ["__class__"] [some (.ref C)] s.heap H := by
    rw [T.cl]
    have hcell : s.heap.IsCell cc (some (.ref C)) := ⟨_, KX _ _ lcell, rfl⟩
    refine ⟨rfl, fun y c e => ?_, fun x y c e1 e2 => ?_, fun i y e => ?_⟩
    · obtain ⟨_, rfl⟩ := lookup1 e
      exact ⟨(e0.bs _ _ (e0.mod.kin _ _ lcell)).2, _, hcell⟩
    · rw [(lookup1 e1).1, (lookup1 e2).1]
    · cases i with
      | succ i => simp at e
      | zero =>
        have e' : y = "__class__" := by simpa using e.symm
        subst e'
        refine ⟨cc, by simp [List.lookup], fun v hv => ?_⟩
        have hv' : v = .ref C := by simpa using hv.symm
        subst hv'
        exact ⟨.ref C, rfl, hcell⟩
  refine codeAny_call_function hr.depth (KX _ _ lk) rfl S.co S.gen rfl (PySem.W.codeRec_of KX T.hcd) (hbd _ _ _ _ ?_)
  refine wpAny_newFunctionEnv S.nocell (fun ⟨n, _⟩ hy => S.par n (List.of_mem_zip hy).1) (fun h₁ hns hsb => ⟨lim.fresh _ hsb, ?_⟩) S.kind
  have ecx : callEnv (PySem.W.fnX F.name F.qual F.params F.body F.scope [(("__class__" : Str), cc)] dV kV doc pm an (.ref cda) ct) s.heap.objs.size fI = envF F fI s.heap.objs.size := by
    show PySem.W.envX F.qual F.scope s.heap.objs.size fI (.ref cda) [(("__class__" : Str), cc)] = PySem.W.envX F.qual F.scope s.heap.objs.size fI (.ref F.c) F.cl
    rw [T.cl, T.c]
  show codeAny _ _ (.func F.body (callEnv (PySem.W.fnX F.name F.qual F.params F.body F.scope [(("__class__" : Str), cc)] dV kV doc pm an (.ref cda) ct) s.heap.objs.size fI)) _ _
  rw [ecx]
  refine ks_codeAny_funcAt ?_
  have kp : ∀ b o, s.heap.get? b = some o → h₁.get? b = some o := fun b o e => hsb.extBut b o (Nat.ne_of_lt (Heap.lt_size e)) (Heap.get?_push_of_some _ e)
  obtain ⟨a, te, u, ha, ea, he, hrest, hq⟩ := hbody A outer s H vs Q E hsp
  have I : Inv (ncx CX P w K mg base N F fI A outer s H E) [] (startF N vs [some (.ref C)]) H { s with heap := h₁, toks := s.toks + (ps.zip us).length } := inv_startN S hr.hd e0 hl rv C0 hns kp
  have fin : ∀ {σ' : L2.St} {H' : Hp} {v : V} {u : Value} {s' : Shared}, Inv (ncx CX P w K mg base N F fI A outer s H E) [] σ' H' s' → L2.RelV v u → Q v H' → CE outer P w H s Q u s' :=
    fun {σ' H' v u s'} J rv q => ⟨v, H', J.os, J.bare, J.base, J.hok, rv, q⟩
  have s0 : (startF N vs [some (.ref C)])[0]? = some (some (.ref a)) := by
    unfold startF
    have hlt : 0 < vs.length := (List.getElem?_eq_some_iff.mp ha).1
    rw [List.getElem?_append_left (by rw [List.length_map]; exact hlt), List.getElem?_map, ha]
    rfl
  have first := super_init (X := ncx CX P w K mg base N F fI A outer s H E) (D := { nx := u { nx := fun _ H' => Q .non H', rt := Q }, rt := Q }) (body := F.body) (p0 := p0) (p1 := p1) (p2 := p2) (pos := pos) (pos' := pos') T hp har rfl (by show Value.ref F.c = _; rw [T.c])
    hks (S.frk _ (List.mem_singleton.mpr rfl)) hka h0 (by show List.lookup _ F.cl = _; rw [T.cl]; simp [List.lookup]) s0 I ea he hq (hse _) (hev _)
  show PySem.wpAt _ _ _ (execs F.body _) _ _ _
  rw [hb] at first ⊢
  refine ks_wpAt_execs_cons (ks_wpAt_mono first (fun fl s' hs => ?_) fun e s' hs => hs)
  cases fl with
  | ret u => obtain ⟨v, σ', H', J, rv, q⟩ := hs; exact fin J rv q
  | brk => obtain ⟨_, _, _, q⟩ := hs; exact False.elim q
  | cont => obtain ⟨_, _, _, q⟩ := hs; exact False.elim q
  | next =>
    obtain ⟨σ', H', J, q⟩ := hs
    refine PySem.wpAt_of_wpAny (wpAny_mono (hrest.run [] _ σ' H' _ J q) (fun fl s' hs => ?_) fun e s' hs => hs)
    cases fl with
    | ret u => obtain ⟨v, σ', H', J, rv, q⟩ := hs; exact fin J rv q
    | next => obtain ⟨σ', H', J, q⟩ := hs; exact fin (v := V.non) (u := Value.none) J rfl q
    | brk => obtain ⟨_, _, _, q⟩ := hs; exact False.elim q
    | cont => obtain ⟨_, _, _, q⟩ := hs; exact False.elim q
end
/-! ### the f-string -/
/-- what an f-string shows -/
def okV (v : V) : Prop := v = .non ∨ (∃ i : Int, v = .int i ∧ i.natAbs.log2 < 1920) ∨ ∃ y : Str, v = .str y ∧ y.length ≤ 4000
def tPt (js : List Nat) : TE := fun σ H Q => (∀ j ∈ js, ∃ v, σ[j]? = some (some v) ∧ okV v) ∧ ∀ y : Str, y.length ≤ 4000 → Q (.str y) H
section
variable {X : Cx} {js : List Nat} {j : Nat} {x m : Str} {p pos : Pos} {kd : Nat}
theorem len_int {i : Int} (h : i.natAbs.log2 < 1920) : (Str.ofString (toString i)).length ≤ 4000 := by
  have e := int_text_length_le (k := 1920) (by decide) h
  rw [PySem.ofString_length]; omega
theorem pe_ptC (h : m.length ≤ 4000) : PE X (.Constant (.str m) kd pos) (tPt js) := ⟨fun pins s σ H Q I q => (pe_str (X := X) (pos := pos)).run pins s σ H Q I (q.2 m h)⟩
theorem pe_ptV (hj : j ∈ js) (hN : X.N[j]? = some x) (hv : Vis X.env.scope x) (hd : (x == ("__debug__" : Str)) = false := by decide) (hcd : (x == ("__classdict__" : Str)) = false := by decide) : PE X (.FormattedValue (.Name x p) (-1) none pos) (tPt js) := by
  refine ⟨fun pins s σ H Q I h => ?_⟩
  obtain ⟨v, hs, ov⟩ := h.1 j hj
  have run := (pe_var (X := X) (pos := p) hN hv hd hcd).run pins s σ H (fun v' H' => v' = v ∧ H' = H) I ⟨v, hs, rfl, rfl⟩
  refine wpAny_FormattedValue_plain (thn run fun u s1 hu => ?_)
  obtain ⟨v', H1, I1, r1, rfl, rfl⟩ := hu
  rcases ov with rfl | ⟨i, rfl, hi⟩ | ⟨y, rfl, hy⟩
  · cases r1
    exact wpAny_formatField_none ⟨.str "None", H1, I1.tok _, ⟨_, rfl⟩, h.2 _ (by decide)⟩
  · obtain ⟨t, rfl⟩ := r1
    exact wpAny_formatField_int hi ⟨.str (toString i), H1, I1.tok _, ⟨_, rfl⟩, h.2 _ (len_int hi)⟩
  · obtain ⟨t, rfl⟩ := r1
    exact wpAny_formatField_str ⟨.str y, H1, I1, ⟨t, rfl⟩, h.2 _ hy⟩ ⟨.str y, H1, I1.tok _, ⟨_, rfl⟩, h.2 _ hy⟩ (by rw [sizeLine_eq]; omega)
inductive Pts (X : Cx) (js : List Nat) : List Expr → Prop
  | nil : Pts X js []
  | cons {e : Expr} {es : List Expr} (h : PE X e (tPt js)) (r : Pts X js es) : Pts X js (e :: es)
theorem Pts.pj {es : List Expr} (h : Pts X js es) : L2.PJ X es (List.replicate es.length (tPt js)) := by
  induction h with
  | nil => exact .nil
  | cons h r ih => exact .cons h ih
theorem pts_j {σ : L2.St} {H : Hp} {Q : Str → Hp → Prop} (hj : ∀ j ∈ js, ∃ v, σ[j]? = some (some v) ∧ okV v) (hq : ∀ y, Q y H) : ∀ (n : Nat) (acc : Str), acc.length + 4000 * n ≤ sizeLine → tJs (List.replicate n (tPt js)) acc σ H Q
  | 0, acc, _ => hq acc
  | n + 1, acc, h => ⟨hj, fun y hy => ⟨y, rfl, by
      have e : (acc ++ y).length = acc.length + y.length := by show (acc.cps ++ y.cps).size = _; rw [Array.size_append]; rfl
      have h2 : (acc ++ y).length + 4000 * n ≤ sizeLine := by rw [e]; omega
      exact ⟨by omega, pts_j hj hq n _ h2⟩⟩⟩
/-- f'..' of slots and texts: some text -/
def tFs (js : List Nat) : TE := fun σ H Q => (∀ j ∈ js, ∃ v, σ[j]? = some (some v) ∧ okV v) ∧ ∀ y : Str, Q (.str y) H
theorem pe_fs {v1 v2 : Expr} {es : List Expr} (h : Pts X js (v1 :: v2 :: es)) (hl : es.length ≤ 100) : PE X (.JoinedStr (v1 :: v2 :: es) pos) (tFs js) :=
  ⟨fun pins s σ H Q I q => (pe_joined (pos := pos) h.pj).run pins s σ H Q I (pts_j q.1 (fun y => q.2 y) _ _ (by
    show 0 + 4000 * (es.length + 1 + 1) ≤ sizeLine
    rw [sizeLine_eq]; omega))⟩
end
/-! ### the fields -/
def spI1 (C : Addr) (f : Str) : Sp := fun vs H Q _ => ∃ (a : Addr) (y : V), vs = [.ref a, y] ∧ H a = some (exo a C none) ∧ okV y ∧ ∀ dx, H dx = none → dx ≠ a → Q .non (upd (upd H dx (exd dx [(f, y)])) a (exo a C (some dx)))
def spI2 (C : Addr) (f g : Str) : Sp := fun vs H Q _ => ∃ (a : Addr) (y z : V), vs = [.ref a, y, z] ∧ H a = some (exo a C none) ∧ okV y ∧ okV z ∧ ∀ dx, H dx = none → dx ≠ a → Q .non (upd (upd (upd H dx (exd dx [(f, y)])) a (exo a C (some dx))) dx (exd dx [(g, z), (f, y)]))
section
variable {CX : CXT} {P : Program} {w : World} {K : PySem.W.Frag} {mg : Str → Option Value} {base : Heap} {F : NF} {k : Nat} {C fI cc cda : Addr} {fd : FuncData} {e v1 v2 : Expr} {es : List Expr} {f g : Str} {p0 p1 p2 pos pos' q0 q1 q2 q3 r0 r1 r2 r3 jp : Pos} {ar : Arg}
theorem ini1 (T : IniK P K mg C fI cc cda F) (S : NScope [("self" : Str), f, "__class__"] [("self" : Str), f] [("__class__" : Str)] F.scope) {oc dV kV doc pm ct : Value} {od an : Option Addr} {osl : Array (Option Value)} (hfd : fd = PySem.W.fnX F.name F.qual F.params F.body F.scope [(("__class__" : Str), cc)] dV kV doc pm an (.ref cda) ct) (lk : K.lookup fI = some ⟨oc, od, .func fd, osl⟩)
    (hp : (F.params.posonlyargs ++ F.params.args).head? = some ar) (har : ar.arg = "self") (hks : F.scope.names.lookup ("super" : Str) = some .globalImplicit)
    (hb : F.body = [.Expr (.Call (.Attribute (.Call (.Name "super" p0) [] [] p1) "__init__" p2) [.JoinedStr (v1 :: v2 :: es) jp] [] pos) pos', .Assign [.Attribute (.Name "self" q0) f q1] (.Name f q2) q3])
    {pl : PySem.Env → Sem Bool} (hev : ∀ env : PySem.Env, eval (.Call (.Attribute (.Call (.Name "super" p0) [] [] p1) "__init__" p2) [.JoinedStr (v1 :: v2 :: es) jp] [] pos) env = (do
      let ov ← attributeBase (.Call (.Name "super" p0) [] [] p1) "__init__" env (eval (.Call (.Name "super" p0) [] [] p1) env)
      standAt p2.atName
      let (f, first) ← holding [ov] (getMethod ov "__init__" (pl env))
      callWith pos f first (backTo pos (starEach [.JoinedStr (v1 :: v2 :: es) jp] env)) []))
    (hes : es.length ≤ 100) (hpt : ∀ (X : Cx), X.N = [("self" : Str), f, "__class__"] → X.env.scope = F.scope → Pts X [1] (v1 :: v2 :: es))
    (hno : PySem.W.findIn K (.ref C) f = some none) (hd1 : (f == ("__debug__" : Str)) = false := by decide) (hd2 : (f == ("__classdict__" : Str)) = false := by decide) :
    FnOk P w K mg base CX (k + 1) fI fd [("self" : Str), f] (spI1 C f) := by
  have hself := S.par "self" List.mem_cons_self
  have hf := S.par f (List.mem_cons_of_mem _ List.mem_cons_self)
  refine ini_fn (rest := [.Assign [.Attribute (.Name "self" q0) f q1] (.Name f q2) q3]) T S hfd lk hp har hks hself rfl hb (fun vs H Q E h => ?_) (fun _ => rfl) hev fun A outer s H vs Q E h => ?_
  · obtain ⟨a, y, rfl, _⟩ := h; rfl
  · obtain ⟨a, y, rfl, ea, oy, hq⟩ := h
    refine ⟨a, _, _, rfl, ea, pe_fs (hpt _ rfl rfl) hes, pss_one (ps_ost (pe_var (i := 0) rfl (.inl hself)) (pe_var (i := 1) rfl (.inl hf) hd1 hd2)), ?_⟩
    refine ⟨fun j hj => ?_, fun y' => ⟨ea, ?_⟩⟩
    · have : j = 1 := by simpa using hj
      subst this
      exact ⟨y, rfl, oy⟩
    · refine ⟨y, rfl, .ref a, rfl, a, C, rfl, T.T, hno, .inl ⟨ea, fun dx n ne => hq dx n ne⟩⟩
theorem ini2 (T : IniK P K mg C fI cc cda F) (S : NScope [("self" : Str), f, g, "__class__"] [("self" : Str), f, g] [("__class__" : Str)] F.scope) {oc dV kV doc pm ct : Value} {od an : Option Addr} {osl : Array (Option Value)} (hfd : fd = PySem.W.fnX F.name F.qual F.params F.body F.scope [(("__class__" : Str), cc)] dV kV doc pm an (.ref cda) ct) (lk : K.lookup fI = some ⟨oc, od, .func fd, osl⟩)
    (hp : (F.params.posonlyargs ++ F.params.args).head? = some ar) (har : ar.arg = "self") (hks : F.scope.names.lookup ("super" : Str) = some .globalImplicit)
    (hb : F.body = [.Expr (.Call (.Attribute (.Call (.Name "super" p0) [] [] p1) "__init__" p2) [.JoinedStr (v1 :: v2 :: es) jp] [] pos) pos', .Assign [.Attribute (.Name "self" q0) f q1] (.Name f q2) q3, .Assign [.Attribute (.Name "self" r0) g r1] (.Name g r2) r3])
    {pl : PySem.Env → Sem Bool} (hev : ∀ env : PySem.Env, eval (.Call (.Attribute (.Call (.Name "super" p0) [] [] p1) "__init__" p2) [.JoinedStr (v1 :: v2 :: es) jp] [] pos) env = (do
      let ov ← attributeBase (.Call (.Name "super" p0) [] [] p1) "__init__" env (eval (.Call (.Name "super" p0) [] [] p1) env)
      standAt p2.atName
      let (f, first) ← holding [ov] (getMethod ov "__init__" (pl env))
      callWith pos f first (backTo pos (starEach [.JoinedStr (v1 :: v2 :: es) jp] env)) []))
    (hes : es.length ≤ 100) (hpt : ∀ (X : Cx), X.N = [("self" : Str), f, g, "__class__"] → X.env.scope = F.scope → Pts X [1, 2] (v1 :: v2 :: es))
    (hno : PySem.W.findIn K (.ref C) f = some none) (hno2 : PySem.W.findIn K (.ref C) g = some none) (hd1 : (f == ("__debug__" : Str)) = false := by decide) (hd2 : (f == ("__classdict__" : Str)) = false := by decide) (hd3 : (g == ("__debug__" : Str)) = false := by decide) (hd4 : (g == ("__classdict__" : Str)) = false := by decide) :
    FnOk P w K mg base CX (k + 1) fI fd [("self" : Str), f, g] (spI2 C f g) := by
  have hself := S.par "self" List.mem_cons_self
  have hf := S.par f (List.mem_cons_of_mem _ List.mem_cons_self)
  have hg := S.par g (List.mem_cons_of_mem _ (List.mem_cons_of_mem _ List.mem_cons_self))
  refine ini_fn (rest := [.Assign [.Attribute (.Name "self" q0) f q1] (.Name f q2) q3, .Assign [.Attribute (.Name "self" r0) g r1] (.Name g r2) r3]) T S hfd lk hp har hks hself rfl hb (fun vs H Q E h => ?_) (fun _ => rfl) hev fun A outer s H vs Q E h => ?_
  · obtain ⟨a, y, z, rfl, _⟩ := h; rfl
  · obtain ⟨a, y, z, rfl, ea, oy, oz, hq⟩ := h
    refine ⟨a, _, _, rfl, ea, pe_fs (hpt _ rfl rfl) hes, pss_cons (ps_ost (pe_var (i := 0) rfl (.inl hself)) (pe_var (i := 1) rfl (.inl hf) hd1 hd2)) (pss_one (ps_ost (pe_var (i := 0) rfl (.inl hself)) (pe_var (i := 2) rfl (.inl hg) hd3 hd4))), ?_⟩
    refine ⟨fun j hj => ?_, fun y' => ⟨ea, ?_⟩⟩
    · have : j = 1 ∨ j = 2 := by simpa using hj
      rcases this with rfl | rfl
      · exact ⟨y, rfl, oy⟩
      · exact ⟨z, rfl, oz⟩
    · refine ⟨y, rfl, .ref a, rfl, a, C, rfl, T.T, hno, .inl ⟨ea, fun dx n ne => ?_⟩⟩
      refine ⟨z, rfl, .ref a, rfl, a, C, rfl, T.T, hno2, .inr ⟨dx, [(f, y)], upd_same .., ?_, Nat.le_of_ble_eq_true rfl, hq dx n ne⟩⟩
      rw [upd_ne ne, upd_same]
end
end VF

set_option maxRecDepth 100000
set_option maxHeartbeats 4000000
/-! raise of an own error without fields; try with one clause whose suite returns an immediate value. -/
namespace VF
set_option autoImplicit false
open PySem PySem.Spec PyProof.Rows L2
open AT (cells cellsL er ers)
/-- an error without fields -/
def exN (c : Str) : Exc := ⟨c, [], []⟩
def dRaise (x : Exc) : M Fl := fun e => .ex x e
/-! is True -/
def fIsB : D → D → Option D := fun a b => match a, b with
  | .bl a, .bl b => some (.bl (decide (a = b)))
  | _, _ => none
def fNotB : D → D → Option D := fun a b => match a, b with
  | .bl a, .bl b => some (.bl (!decide (a = b)))
  | _, _ => none
section
variable {X : Cx} {K : PySem.W.Frag} {mg : Str → Option Value}
theorem op_isB : OpR X (compareOp .Is) (fun x y H Q => ∃ a b, x = .bl a ∧ y = .bl b ∧ Q (.bl (decide (a = b))) H) := by
  intro pins s σ H x y v u Q I rx ry h
  obtain ⟨a, b, rfl, rfl, q⟩ := h
  cases rx; cases ry
  exact PyProof.Rows.is_bool (fin_bl I q (by cases a <;> cases b <;> rfl))
theorem op_notB : OpR X (compareOp .IsNot) (fun x y H Q => ∃ a b, x = .bl a ∧ y = .bl b ∧ Q (.bl (!decide (a = b))) H) := by
  intro pins s σ H x y v u Q I rx ry h
  obtain ⟨a, b, rfl, rfl, q⟩ := h
  cases rx; cases ry
  exact PyProof.Rows.isnot_bool (fin_bl I q (by cases a <;> cases b <;> rfl))
theorem opd_isB : OpD (fun x y H Q => ∃ a b, x = .bl a ∧ y = .bl b ∧ Q (.bl (decide (a = b))) H) K mg fIsB := by
  intro H x y a b d ra rb q
  cases a <;> first | (cases b <;> cases q; done) | skip
  cases b <;> first | (cases q; done) | skip
  rename_i i j
  cases q
  exact ⟨.bl (decide (i = j)), rfl, fun Q k => ⟨i, j, ra, rb, k⟩⟩
theorem opd_notB : OpD (fun x y H Q => ∃ a b, x = .bl a ∧ y = .bl b ∧ Q (.bl (!decide (a = b))) H) K mg fNotB := by
  intro H x y a b d ra rb q
  cases a <;> first | (cases b <;> cases q; done) | skip
  cases b <;> first | (cases q; done) | skip
  rename_i i j
  cases q
  exact ⟨.bl (!decide (i = j)), rfl, fun Q k => ⟨i, j, ra, rb, k⟩⟩
end
section
variable {X : Cx} {E : XS} {a b : Expr} {ma mb : M RV} {pos : Pos}
theorem v_isB (ha : VE X E a ma) (hb : VE X E b mb) : VE X E (.Compare a [.Is] [b] pos) (dOp fIsB ma mb) := .mk (pe_cmpR op_isB ha hb (nomark _)) (se_op opd_isB se_w se_w)
theorem v_notB (ha : VE X E a ma) (hb : VE X E b mb) : VE X E (.Compare a [.IsNot] [b] pos) (dOp fNotB ma mb) := .mk (pe_cmpR op_notB ha hb (nomark _)) (se_op opd_notB se_w se_w)
theorem t_isB (ha : VE X E a ma) (hb : VE X E b mb) : VT X E (.Compare a [.Is] [b] pos) (dT (dOp fIsB ma mb)) := .mk (pt_cmpR op_isB ha hb (nomark _)) (st_test (se_op opd_isB se_w se_w))
theorem t_notB (ha : VE X E a ma) (hb : VE X E b mb) : VT X E (.Compare a [.IsNot] [b] pos) (dT (dOp fNotB ma mb)) := .mk (pt_cmpR op_notB ha hb (nomark _)) (st_test (se_op opd_notB se_w se_w))
end
section
variable {X : Cx} {E : XS} {pos : Pos}
theorem passE0 {P : Program} {w : World} : ∀ σ, PassesAt (L2.CX P w) X σ (fun cls d H => E0 cls d σ H) := fun _ _ _ _ _ _ _ c => by
  obtain ⟨_, _, _, _, _, _, _, _, _, _, _, _, z⟩ := c
  exact z.elim
theorem takesE0 : Takes X E0 := fun _ _ x => by
  obtain ⟨_, _, _, _, _, _, _, _, _, _, _, _, _, _, _, _, z⟩ := x
  exact z.elim
theorem passT (tk : Takes X E) : ∀ σ, PassesAt (L2.CX X.prog X.w) X σ (fun cls d H => E cls d σ H) := fun σ => passAt tk σ
/-- X() -/
theorem pmk_own0 {C : Addr} {bmB : List Value} {B newId initId : String} {x : Str} {p : Pos} (F : ExcBaseFacts B newId initId bmB) (q : PySem.W.excIn X.K C bmB newId = true) (gC : X.mg x = some (.ref C)) (kC : PySem.W.keepIn X.K (.ref C) = true) (r : Raises X (.ref C)) (hg : Gl X x)
    (hdb : (x == ("__debug__" : Str)) = false := by decide) : PMk X (.Call (.Name x p) [] [] pos) (fun _ H Q => Q (.ref C) none H) := by
  intro pins s σ H Q I h
  refine wpAny_Call_Name_kw (ld_glob I hg gC ?_ hdb)
  refine PySem.W.callWith_K0 I.kIn kC ?_
  obtain ⟨bm, N, nm, qn, bs, hdct, sn, sub, ab, col, dd, k0, k1, k2, k3, k5, mN, hC, hN, hni, T⟩ := exc_obj I.kIn q
  refine wpAny_call_exc_subT F T hC hN hni (fun h' e hm => ?_) (by show 0 ≤ sizeLine; omega)
  exact mk_of I hm r h (I.hok.gone hm.new)
/-- what the module tells of an own error class -/
structure OwnX (K : PySem.W.Frag) (mg : Str → Option Value) (x : Str) (C : Addr) : Prop where
  g : mg x = some (.ref C)
  e : PySem.W.excIn K C He.veBase "ValueError.__new__" = true
  k : PySem.W.keepIn K (.ref C) = true
  s : PySem.W.subIn K (.ref C) (.type "BaseException") = some true
  t : PySem.W.typeIn K (.ref C) = some (.type "type")
theorem s_raise0 {C : Addr} {x : Str} {p p2 : Pos} (T : OwnX X.K X.mg x C) (hc : X.calm = true) (tk : Takes X E) (hg : Gl X x) (hdb : (x == ("__debug__" : Str)) = false := by decide) :
    VS X E (.Raise (some (.Call (.Name x p) [] [] p2)) none pos) (dRaise (exN x)) :=
  .mk (ps_raise hc tk (pmk_own0 F.excBase_ValueError T.e T.g T.k (raises_own T.s T.t) hg hdb)) fun pv F H σ e as held D c w => by
    have w' : WX X.K X.mg pv F held E (exN x) e := w
    exact w' (.ref C) none F H σ as (Same.refl _) c ⟨C, T.g, rfl, .inl ⟨rfl, rfl⟩⟩ fun _ q => nomatch q
/-- by the class's name -/
def hIs (t : List (Str × Bool)) : Str → Option D := fun c => (t.lookup c).map D.bl
def excB (K : PySem.W.Frag) (C : Addr) : Bool :=
  decide (PySem.W.findIn K (.ref C) "__getattribute__" = some (some (.builtin "BaseException.__getattribute__"))) && (decide (PySem.W.findIn K (.ref C) "__getattr__" = some none) && (decide (PySem.W.subIn K (.ref C) (.type "BaseException") = some true) && (PySem.W.hasDictIn K C && (decide (PySem.W.findIn K (.ref C) "__class__" = some (some (.builtin "object.__class__"))) && (decide (PySem.W.specialIn K (.builtin "object.__class__") "__get__" = some (some (.builtin "getset_descriptor.__get__"))) && (decide (PySem.W.takesIn K (.builtin "object.__class__") = some true) && decide (PySem.W.mroIn K C (.type "object") = some true)))))))
theorem excB_ok {K : PySem.W.Frag} {C : Addr} (h : excB K C = true) : ExcC K C := by
  obtain ⟨h1, h⟩ := Bool.and_eq_true_iff.mp h
  obtain ⟨h2, h⟩ := Bool.and_eq_true_iff.mp h
  obtain ⟨h3, h⟩ := Bool.and_eq_true_iff.mp h
  obtain ⟨h4, h⟩ := Bool.and_eq_true_iff.mp h
  obtain ⟨h5, h⟩ := Bool.and_eq_true_iff.mp h
  obtain ⟨h6, h⟩ := Bool.and_eq_true_iff.mp h
  obtain ⟨h7, h8⟩ := Bool.and_eq_true_iff.mp h
  exact ⟨of_decide_eq_true h1, of_decide_eq_true h2, of_decide_eq_true h3, h4, of_decide_eq_true h5, of_decide_eq_true h6, of_decide_eq_true h7, of_decide_eq_true h8⟩
/-- the errors that a try's body may let out, by name: of the class Cc or not -/
inductive TryT (K : PySem.W.Frag) (mg : Str → Option Value) (Cc : Value) : List (Str × Bool) → Prop
  | nil : TryT K mg Cc []
  | cons {x : Str} {b : Bool} {C : Addr} {t : List (Str × Bool)} (g : mg x = some (.ref C)) (e : ExcC K C) (k : PySem.W.kitOne K (.ref C) Cc = some b) (r : TryT K mg Cc t) : TryT K mg Cc ((x, b) :: t)
theorem TryT.at {K : PySem.W.Frag} {mg : Str → Option Value} {Cc : Value} {t : List (Str × Bool)} (T : TryT K mg Cc t) {x : Str} {v : D} {C : Addr} (h : hIs t x = some v) (g : mg x = some (.ref C)) :
    ExcC K C ∧ ∃ b, v = .bl b ∧ PySem.W.kitOne K (.ref C) Cc = some b := by
  induction T with
  | nil => cases h
  | @cons x' b C' t g' e k r ih =>
    unfold hIs at h ih
    rw [List.lookup_cons] at h
    by_cases q : (x == x') = true
    · rw [q] at h
      have q' : x = x' := eq_of_beq q
      subst q'
      have e2 : C' = C := by rw [g] at g'; cases g'; rfl
      subst e2
      cases h
      exact ⟨e, b, rfl, k⟩
    · rw [Bool.eq_false_iff.mpr q] at h
      exact ih h
end
/-! ### raise of an error with fields -/
def okD : D → Bool
  | .non => true
  | .int i => small62 i
  | .str y => decide (y.length ≤ 4000)
  | _ => false
def okDs (n : Nat) (ds : List D) : Bool := ds.all okD && ds.length == n
def dRaiseF (c : Str) (ns : List Str) (a : M (List RV)) : M Fl := a.bind fun rs e => match rs.mapM (view e) with
  | some ds => if okDs ns.length ds = true then .ex ⟨c, ns.reverse, ds.reverse⟩ e else .st
  | none => .st
theorem okD_imm {d : D} (h : okD d = true) : ∃ v, imm d = some v ∧ okV v := by
  cases d with
  | non => exact ⟨_, rfl, .inl rfl⟩
  | int i =>
    refine ⟨_, rfl, .inr (.inl ⟨i, rfl, ?_⟩)⟩
    have h' : -(2 ^ 62) ≤ i ∧ i < 2 ^ 62 := of_decide_eq_true h
    have : i.natAbs < 2 ^ 63 := by omega
    by_cases z : i.natAbs = 0
    · rw [z]; decide
    · have := (Nat.log2_lt z).mpr this
      omega
  | str y => exact ⟨_, rfl, .inr (.inr ⟨y, rfl, of_decide_eq_true h⟩)⟩
  | _ => cases h
theorem rep_eq {K : PySem.W.Frag} {mg : Str → Option Value} {F : Hp} {d : D} {v u : V} (r : Rep K mg F v d) (h : imm d = some u) : v = u := by
  cases d <;> first | (cases h; exact r) | cases h
/-- what the module tells of an own error class with the fields fs -/
def spI (C : Addr) : List Str → Sp
  | [f] => spI1 C f
  | [f, g] => spI2 C f g
  | _ => fun _ _ _ _ => False
structure ErrF (P : Program) (w : World) (K : PySem.W.Frag) (mg : Str → Option Value) (base : Heap) (x : Str) (C : Addr) (fs : List Str) : Prop where
  g : mg x = some (.ref C)
  T : OexC K C
  ini : ∃ fI fd, PySem.W.findIn K (.ref C) "__init__" = some (some (.ref fI)) ∧ PySem.W.typeIn K (.ref fI) = some (.type "function") ∧ Binds K fd (("self" : Str) :: fs) [] ∧ FnOk P w K mg base CX0 1 fI fd (("self" : Str) :: fs) (spI C fs)
section
variable {X : Cx} {E : XS} {pos : Pos}
theorem passC0 : Passes CX0 X (fun _ _ _ => False) := fun _ _ _ _ _ _ _ c => False.elim c
theorem upd_del {H1 H2 : Hp} {a d : Addr} {o : HO} (ha : H1 a = none) (hd : H1 d = none) (hk : ∀ b, b ≠ a → b ≠ d → H2 b = H1 b) : Same H1 (upd (L2.del H2 a) d o) := fun b u q => by
  have n1 : b ≠ a := fun z => by rw [z, ha] at q; cases q
  have n2 : b ≠ d := fun z => by rw [z, hd] at q; cases q
  rw [upd_ne n2, del_ne n1, hk b n1 n2]; exact q
theorem s_raiseF1 {C : Addr} {x f : Str} {p p2 : Pos} {e1 : Expr} {ma : M (List RV)} (T : ErrF X.prog X.w X.K X.mg X.base x C [f]) (hc : X.calm = true) (hr : Room 2 X.A) (tk : Takes X E) (hg : Gl X x) (ha : VA X E [e1] ma) (hdb : (x == ("__debug__" : Str)) = false := by decide)
    (he : starEach [e1] X.env = (false, eval e1 X.env) :: starEach [] X.env := by rfl) : VS X E (.Raise (some (.Call (.Name x p) [e1] [] p2)) none pos) (dRaiseF x [f] ma) := by
  obtain ⟨fI, fd, iC, tI, hb, hF⟩ := T.ini
  refine .mk (ps_raise hc tk (pmk_oex T.T iC tI hF hr hb .nil passC0 hg T.g ha hdb he (by rfl))) fun pv F H σ e as held D c w => ?_
  refine ⟨pv, F, e, as, held, c, WA.bindA (W := WS X.K X.mg pv F held E D) (fun z => z) w (fun _ _ z => z) fun rs e1 vs F1 H1 as1 tr1 s1 c1 rr1 w1 => ?_⟩
  cases q : rs.mapM (view e1) with
  | none => rw [q] at w1; exact w1.elim
  | some ds =>
    rw [q] at w1
    simp only at w1
    by_cases hk : okDs 1 ds = true
    · rw [show [f].length = 1 from rfl, if_pos hk] at w1
      have rp := RRs.seen (rs := rs) c1 rr1 (fun t ht => List.mem_append_left _ ht) q
      have k1 := Bool.and_eq_true_iff.mp hk
      match ds, vs, rp, k1 with
      | [d], [v], ⟨r1, _⟩, k1 =>
        obtain ⟨u, hu, ou⟩ := okD_imm (d := d) (by simpa using k1.1)
        have ev := rep_eq r1 hu
        subst ev
        refine ⟨Nat.le_of_ble_eq_true rfl, fun a na => ⟨a, v, rfl, upd_same, ou, fun dx n ne => ⟨rfl, dx, [(f, v)], upd_same, by rw [upd_ne ne, upd_same], by rw [upd_ne ne] at n; exact n, ?_⟩⟩⟩
        have nd : H1 dx = none := by rw [upd_ne ne] at n; exact n
        have w2 : WX X.K X.mg pv F held E ⟨x, [f], [d]⟩ e1 := w1
        exact w2 (.ref C) (some dx) F1 _ σ as1 s1 (c1.drop.same (upd_del na nd fun b h1 h2 => by rw [upd_ne h1, upd_ne h2, upd_ne h1])) ⟨C, T.g, rfl, .inr ⟨by simp, dx, [v], rfl, upd_same, rfl, by simp [hu]⟩⟩ fun dd e => by
          cases e
          exact none_le (s1.trans c1.s) nd
      | [], _, _, k1 => simp at k1
      | _ :: _ :: _, _, _, k1 => simp at k1
    · rw [show [f].length = 1 from rfl, if_neg hk] at w1; exact w1.elim
theorem s_raiseF2 {C : Addr} {x f g : Str} {p p2 : Pos} {e1 e2 : Expr} {ma : M (List RV)} (T : ErrF X.prog X.w X.K X.mg X.base x C [f, g]) (hc : X.calm = true) (hr : Room 2 X.A) (tk : Takes X E) (hg : Gl X x) (ha : VA X E [e1, e2] ma) (hdb : (x == ("__debug__" : Str)) = false := by decide)
    (he : starEach [e1, e2] X.env = (false, eval e1 X.env) :: starEach [e2] X.env := by rfl) (hpl : (backTo p2 (starEach [e2] X.env)).any (·.1) = false := by rfl) : VS X E (.Raise (some (.Call (.Name x p) [e1, e2] [] p2)) none pos) (dRaiseF x [f, g] ma) := by
  obtain ⟨fI, fd, iC, tI, hb, hF⟩ := T.ini
  refine .mk (ps_raise hc tk (pmk_oex T.T iC tI hF hr hb .nil passC0 hg T.g ha hdb he hpl)) fun pv F H σ e as held D c w => ?_
  refine ⟨pv, F, e, as, held, c, WA.bindA (W := WS X.K X.mg pv F held E D) (fun z => z) w (fun _ _ z => z) fun rs e1 vs F1 H1 as1 tr1 s1 c1 rr1 w1 => ?_⟩
  cases q : rs.mapM (view e1) with
  | none => rw [q] at w1; exact w1.elim
  | some ds =>
    rw [q] at w1
    simp only at w1
    by_cases hk : okDs 2 ds = true
    · rw [show [f, g].length = 2 from rfl, if_pos hk] at w1
      have rp := RRs.seen (rs := rs) c1 rr1 (fun t ht => List.mem_append_left _ ht) q
      have k1 := Bool.and_eq_true_iff.mp hk
      match ds, vs, rp, k1 with
      | [d, d'], [v, v'], ⟨r1, r2, _⟩, k1 =>
        have kk : okD d = true ∧ okD d' = true := by simpa using k1.1
        obtain ⟨u, hu, ou⟩ := okD_imm kk.1
        obtain ⟨u', hu', ou'⟩ := okD_imm kk.2
        have ev := rep_eq r1 hu
        have ev' := rep_eq r2 hu'
        subst ev ev'
        refine ⟨Nat.le_of_ble_eq_true rfl, fun a na => ⟨a, v, v', rfl, upd_same, ou, ou', fun dx n ne => ⟨rfl, dx, [(g, v'), (f, v)], by rw [upd_ne (Ne.symm ne), upd_same], upd_same, by rw [upd_ne ne] at n; exact n, ?_⟩⟩⟩
        have nd : H1 dx = none := by rw [upd_ne ne] at n; exact n
        have w2 : WX X.K X.mg pv F held E ⟨x, [g, f], [d', d]⟩ e1 := w1
        exact w2 (.ref C) (some dx) F1 _ σ as1 s1 (c1.drop.same (upd_del na nd fun b h1 h2 => by rw [upd_ne h2, upd_ne h1, upd_ne h2, upd_ne h1])) ⟨C, T.g, rfl, .inr ⟨by simp, dx, [v', v], rfl, upd_same, rfl, by simp [hu, hu']⟩⟩ fun dd e => by
          cases e
          exact none_le (s1.trans c1.s) nd
      | [], _, _, k1 => simp at k1
      | [_], _, _, k1 => simp at k1
      | _ :: _ :: _ :: _, _, _, k1 => simp at k1
    · rw [show [f, g].length = 2 from rfl, if_neg hk] at w1; exact w1.elim
end
/-! ### try: its suite, told by the error -/
/-- the heaps without an exception's dict -/
theorem rd_x {F F' : Hp} (s : ∀ p o, F p = some o → (∀ fs, o ≠ .xd fs) → F' p = some o) {K : PySem.W.Frag} {a : Addr} {vs : List V} (h : SqT K F a vs) : SqT K F' a vs := by
  rcases h with h | h
  · rcases h with h | ⟨o, h⟩
    · exact .inl (.inl (s _ _ h fun _ z => nomatch z))
    · exact .inl (.inr ⟨o, s _ _ h fun _ z => nomatch z⟩)
  · exact .inr h
theorem rdl_x {F F' : Hp} (s : ∀ p o, F p = some o → (∀ fs, o ≠ .xd fs) → F' p = some o) {K : PySem.W.Frag} {a : Addr} {vs : List V} (h : SqL K F a vs) : SqL K F' a vs := by
  rcases h with h | h
  · rcases h with h | ⟨o, h⟩
    · exact .inl (.inl (s _ _ h fun _ z => nomatch z))
    · exact .inl (.inr ⟨o, s _ _ h fun _ z => nomatch z⟩)
  · exact .inr h
section
variable {K : PySem.W.Frag} {mg : Str → Option Value} {F F' H H' : Hp} {σ : L2.St} {pv : List (Nat × V)} {e : Env} {as : List (Option AT)} {held : List AT}
mutual
theorem rep_x (s : ∀ p o, F p = some o → (∀ fs, o ≠ .xd fs) → F' p = some o) : ∀ {d : D} {v : V}, Rep K mg F v d → Rep K mg F' v d
  | .non, _, h => h
  | .bl _, _, h => h
  | .int _, _, h => h
  | .str _, _, h => h
  | .ty _, _, h => h
  | .lst ds, _, ⟨p, vs, e, h1, h2⟩ => ⟨p, vs, e, s _ _ h1 (fun _ z => nomatch z), reps_x s h2⟩
  | .tup ds, _, ⟨p, vs, e, h1, h2⟩ => ⟨p, vs, e, rd_x s h1, reps_x s h2⟩
  | .dct ks ds, _, ⟨p, vs, e, h1, h3, h2⟩ => ⟨p, vs, e, s _ _ h1 (fun _ z => nomatch z), h3, reps_x s h2⟩
  | .obj c ns ds, _, ⟨p, C, dx, vs, e, h0, h1, h3, h2⟩ => ⟨p, C, dx, vs, e, h0, s _ _ h1 (fun _ z => nomatch z), h3, reps_x s h2⟩
  | .scr ns, _, ⟨p, e, h1⟩ => ⟨p, e, rdl_x s h1⟩
theorem reps_x (s : ∀ p o, F p = some o → (∀ fs, o ≠ .xd fs) → F' p = some o) : ∀ {ds : List D} {vs : List V}, Reps K mg F vs ds → Reps K mg F' vs ds
  | [], [], _ => trivial
  | _ :: _, _ :: _, ⟨h1, h2⟩ => ⟨rep_x s h1, reps_x s h2⟩
  | [], _ :: _, h => h.elim
  | _ :: _, [], h => h.elim
end
mutual
theorem ok_x (s : ∀ p o, F p = some o → (∀ fs, o ≠ .xd fs) → F' p = some o) : ∀ {t : AT}, Ok K mg F t → Ok K mg F' t
  | .fz _ _, h => rep_x s h
  | .ol _ xs, h => oks_x s h
  | .oo _ _ _ _ _ xs, ⟨h1, h2, h3⟩ => ⟨h1, h2, oks_x s h3⟩
  | .od _ _ xs, ⟨h2, h3⟩ => ⟨h2, oks_x s h3⟩
theorem oks_x (s : ∀ p o, F p = some o → (∀ fs, o ≠ .xd fs) → F' p = some o) : ∀ {ts : List AT}, Oks K mg F ts → Oks K mg F' ts
  | [], _ => trivial
  | _ :: _, ⟨h1, h2⟩ => ⟨ok_x s h1, oks_x s h2⟩
end
theorem Cf.del {dd : Addr} {fs : List (Str × V)} (c : Cf K mg pv F H σ e as held) (h : H dd = some (.xd fs)) : Cf K mg pv (L2.del F dd) (L2.del H dd) σ e as held := by
  refine ⟨fun b o q => ?_, c.r, ⟨fun x hx => ?_, ?_, c.g.nd⟩⟩
  · by_cases z : b = dd
    · rw [z, del_same] at q; cases q
    · rw [del_ne z] at q ⊢; exact c.s _ _ q
  · have hx' := c.g.at_ x hx
    have ne : x.1 ≠ dd := fun z => by
      rw [z, h] at hx'
      have hx2 := hx
      rw [cellsL_eq] at hx2
      obtain ⟨t, _, ht⟩ := List.mem_flatMap.mp hx2
      exact cell_kind t x ht fs (Option.some.inj hx'.1).symm
    rw [del_ne ne, del_ne ne]; exact hx'
  · refine oks_x (fun p o q hn => ?_) c.g.ok
    by_cases z : p = dd
    · subst z
      have := c.s _ _ q
      rw [h] at this
      exact absurd (Option.some.inj this).symm (hn fs)
    · rw [del_ne z]; exact q
end
/-- the suite's context: a the error x, of the class at C -/
structure InSu (X : Cx) (a : Addr) (x : Exc) (C : Addr) : Prop where
  g : X.mg x.c = some (.ref C)
  ex : ∃ (oe : Obj) (od : Option Obj), (∀ pins σ H s, Inv X pins σ H s → PySem.W.InstAt s.heap a oe C od) ∧ ∀ f d, (x.ns.zip x.ds).lookup f = some d → ∃ (o : Obj) (u : Value) (v : V), od = some o ∧ imm d = some v ∧ RelV v u ∧ PySem.W.lookIn f o = some (some u)
def tAt (i : Nat) (a : Addr) (v : V) : TE := fun σ H Q => σ[i]? = some (some (.ref a)) ∧ Q v H
def tAtB (i : Nat) (a : Addr) (b : Bool) : TT := fun σ H Q => σ[i]? = some (some (.ref a)) ∧ Q b H
def SuE (X : Cx) (i : Nat) (e : Expr) (g : Exc → Option D) : Prop := ∀ (a : Addr) (x : Exc) (C : Addr) (pn : List (Addr × Obj)) (d : D), InSu (X.suite a pn) a x C → g x = some d → ∃ v, imm d = some v ∧ PE (X.suite a pn) e (tAt i a v)
def SuT (X : Cx) (i : Nat) (e : Expr) (g : Exc → Option Bool) : Prop := ∀ (a : Addr) (x : Exc) (C : Addr) (pn : List (Addr × Obj)) (b : Bool), InSu (X.suite a pn) a x C → g x = some b → PT (X.suite a pn) e (tAtB i a b)
def SuW (X : Cx) (i : Nat) (e : Expr) (g : Exc → Option Bool) : Prop := ∀ (a : Addr) (x : Exc) (C : Addr) (pn : List (Addr × Obj)) (b : Bool), InSu (X.suite a pn) a x C → g x = some b → PW (X.suite a pn) e (tAtB i a b)
/-- what a suite returns, in the heap H -/
def tRes (s : SV) (W : Ends) (H : Hp) : Prop := match s with
  | .fz (.tup ds) => ∃ vs, ds.mapM imm = some vs ∧ vs.length ≤ 1000 ∧ ∀ p, H p = none → W.rt (.ref p) (upd H p (.tup vs))
  | .fz d => ∃ v, imm d = some v ∧ W.rt v H
  | .ol [.fz d] => ∃ v, imm d = some v ∧ ∀ p, H p = none → W.rt (.ref p) (upd H p (.lst [v]))
  | _ => False
def tSuR (i : Nat) (a : Addr) (s : SV) : TS := fun W σ H => σ[i]? = some (some (.ref a)) ∧ tRes s W H
def SuB (X : Cx) (i : Nat) (ss : List Stmt) (h : Exc → Option SV) : Prop := ∀ (a : Addr) (x : Exc) (C : Addr) (pn : List (Addr × Obj)) (s : SV), InSu (X.suite a pn) a x C → h x = some s → PSs (X.suite a pn) ss (tSuR i a s)
def gC (d : D) : Exc → Option D := fun _ => some d
def gIs (t : List (Str × Bool)) : Exc → Option D := fun x => hIs t x.c
def gTs (g : Exc → Option D) : Exc → Option Bool := fun x => match g x with
  | some (.bl b) => some b
  | _ => none
def gNot (g : Exc → Option Bool) : Exc → Option Bool := fun x => (g x).map (!·)
def gSub (g h : Exc → Option D) : Exc → Option D := fun x => match g x, h x with
  | some (.int m), some (.int n) => some (.int (m - n))
  | _, _ => none
def gRet (g : Exc → Option D) : Exc → Option SV := fun x => match g x with
  | some (.tup _) => none
  | some d => some (.fz d)
  | none => none
def gNil : Exc → Option (List D) := fun _ => some []
def gCons (g : Exc → Option D) (h : Exc → Option (List D)) : Exc → Option (List D) := fun x => match g x, h x with
  | some d, some ds => some (d :: ds)
  | _, _ => none
def gRetT (g : Exc → Option (List D)) : Exc → Option SV := fun x => (g x).map fun ds => .fz (.tup ds)
def gRetL (g : Exc → Option D) : Exc → Option SV := fun x => (g x).map fun d => .ol [.fz d]
def gIf (g : Exc → Option Bool) (h k : Exc → Option SV) : Exc → Option SV := fun x => match g x with
  | some true => h x
  | some false => k x
  | none => none
section
variable {X : Cx} {i : Nat} {pos p p1 p2 p3 : Pos} {n y f : Str} {e a b : Expr} {rest : List Expr}
/-- constants -/
theorem su_c {d : D} {v : V} (hd : imm d = some v) (he : ∀ (a : Addr) (pn : List (Addr × Obj)), PE (X.suite a pn) e (tC v)) : SuE X i e (gC d) := fun a x C pn d' I q => by
  cases q
  exact ⟨v, hd, ⟨fun pins s σ H Q J h => (he a pn).run pins s σ H Q J h.2⟩⟩
/-- e.f -/
inductive FldT (K : PySem.W.Frag) (mg : Str → Option Value) (f : Str) : List Str → Prop
  | nil : FldT K mg f []
  | cons {y : Str} {C : Addr} {t : List Str} (g : mg y = some (.ref C)) (xf : XfC K C) (no : PySem.W.findIn K (.ref C) f = some none) (r : FldT K mg f t) : FldT K mg f (y :: t)
theorem FldT.at {K : PySem.W.Frag} {mg : Str → Option Value} {t : List Str} (T : FldT K mg f t) {y : Str} {C : Addr} (h : y ∈ t) (g : mg y = some (.ref C)) : XfC K C ∧ PySem.W.findIn K (.ref C) f = some none := by
  induction T with
  | nil => cases h
  | @cons y' C' t g' xf no r ih =>
    rcases List.mem_cons.mp h with q | q
    · subst q
      rw [g] at g'
      cases g'
      exact ⟨xf, no⟩
    · exact ih q
def gFld (t : List Str) (f : Str) (x : Exc) : Option D := if x.c ∈ t then (x.ns.zip x.ds).lookup f else none
theorem su_fld {t : List Str} (T : FldT X.K X.mg f t) (hi : X.N[i]? = some n) (hv : Vis X.env.scope n) (hb : ∀ env, attributeBase (.Name n p1) f env (eval (.Name n p1) env) = eval (.Name n p1) env)
    (hd1 : (n == ("__debug__" : Str)) = false := by decide) (hd2 : (n == ("__classdict__" : Str)) = false := by decide) : SuE X i (.Attribute (.Name n p1) f pos) (gFld t f) := fun a x C pn d I q => by
  unfold gFld at q
  by_cases hm : x.c ∈ t
  · rw [if_pos hm] at q
    obtain ⟨xf, no⟩ := T.at hm I.g
    obtain ⟨oe, od, hat, hf⟩ := I.ex
    obtain ⟨o, u, v, rfl, hv', ru, hl⟩ := hf f d q
    refine ⟨v, hv', ⟨fun pins s σ H Q J h => ?_⟩⟩
    refine attr_of (hb _) (thn ((pe_var (X := X.suite a pn) (pos := p1) hi hv hd1 hd2).run pins s σ H (fun w H' => w = .ref a ∧ H' = H) J ⟨_, h.1, rfl, rfl⟩) fun w s1 hh => ?_)
    obtain ⟨w', H1, I1, rx, rfl, rfl⟩ := hh
    obtain rfl : w = Value.ref a := rx
    exact HandSPX.exc_get I1.kIn (hat _ _ _ _ I1) xf.ga xf.gg xf.exC (PySem.W.findObj_own xf.hdC no rfl hl) (handed_of ru) ⟨v, H1, I1.tok _, ru, h.2⟩
  · rw [if_neg hm] at q; cases q
/-- isinstance(e, c) -/
theorem call_isX {a D : Addr} {x : Exc} (C : ExcC X.K D) (I0 : InSu X a x D) : CallR X (.builtin "isinstance") (rIsE X.K D a) := by
  intro pins s σ H xs us Q I r h
  obtain ⟨c, cv, b, rfl, hcv, e, q⟩ := h
  match us, r with
  | [u1, u2], .cons rx (.cons rt .nil) =>
    obtain rfl : u1 = Value.ref a := rx
    obtain rfl := hcv _ rt
    obtain ⟨oe, od, hat, _⟩ := I0.ex
    have hcl : (PySem.W.clsIn X.K D).isSome = true := by
      obtain ⟨cd, hc, _⟩ := PySem.W.any_some C.hd
      rw [hc]; rfl
    exact PySem.W.kia_one (PySem.W.kitx_exc hcl C.hg C.hk C.hs C.ha C.hn C.ht C.hm) I.kIn (hat _ _ _ _ I) e (fun z => nomatch z) fun tk => ⟨.bl b, H, I.kept (t' := tk) fun _ _ z => z, rfl, q⟩
theorem su_is {t : List (Str × Bool)} {cv : Value} {c : V} (T : TryT X.K X.mg cv t) (hi : X.N[i]? = some n) (hv : Vis X.env.scope n) (hgi : Gl X "isinstance") (hmi : X.mg "isinstance" = none) (hc : ∀ (a : Addr) (pn : List (Addr × Obj)), PE (X.suite a pn) b (tC c)) (hcv : ∀ u, RelV c u → u = cv)
    (hs : ∀ env, starEach [b] env = (false, eval b env) :: starEach [] env) (hpl : ∀ env, (backTo p3 (starEach [b] env)).any (·.1) = false)
    (hd1 : (n == ("__debug__" : Str)) = false := by decide) (hd2 : (n == ("__classdict__" : Str)) = false := by decide) : SuE X i (.Call (.Name "isinstance" p) [.Name n p1, b] [] p3) (gIs t) := fun a x C pn d I q => by
  obtain ⟨EC, bb, rfl, hk⟩ := T.at q I.g
  refine ⟨.bl bb, rfl, ⟨fun pins s σ H Q J h => ?_⟩⟩
  refine (pe_callB (X := X.suite a pn) (p := p) (pos := p3) (call_isX EC I) hgi hmi rfl (pa_cons (pe_var (pos := p1) hi hv hd1 hd2) (pa_cons (hc a pn) pa_nil (hs _))) (he := by rfl) (hpl := hpl _)).run pins s σ H Q J ?_
  exact ⟨.ref a, h.1, c, cv, bb, rfl, hcv, hk, h.2⟩
/-- tests -/
theorem su_t {g : Exc → Option D} (he : SuE X i e g) (ht : ∀ env whole, isTrue e env whole = (do let v ← whole; standAt e.pos; holding [v] (truthy v))) : SuT X i e (gTs g) := fun a x C pn b I q => by
  unfold gTs at q
  cases z : g x with
  | none => rw [z] at q; cases q
  | some d =>
    rw [z] at q
    cases d with
    | bl b' =>
      cases q
      obtain ⟨v, hv, hp⟩ := he a x C pn _ I z
      cases hv
      exact ⟨fun pins s σ H Q J h => (pt_val hp (ht _)).run pins s σ H Q J ⟨h.1, b, rfl, h.2⟩⟩
    | _ => cases q
theorem su_not {g : Exc → Option Bool} (h : SuT X i e g) : SuT X i (.UnaryOp .Not e pos) (gNot g) := fun a x C pn b I q => by
  unfold gNot at q
  cases z : g x with
  | none => rw [z] at q; cases q
  | some d =>
    rw [z] at q
    cases q
    exact ⟨fun pins s σ H Q J k => (pt_not (h a x C pn d I z)).run pins s σ H Q J ⟨k.1, k.2⟩⟩
theorem su_and1 {g : Exc → Option Bool} (h : SuT X i e g) : SuW X i (.BoolOp .And [e] pos) g := fun a x C pn b I q => pw_and1 (h a x C pn b I q)
theorem su_or1 {g : Exc → Option Bool} (h : SuT X i e g) : SuW X i (.BoolOp .Or [e] pos) g := fun a x C pn b I q => pw_or1 (h a x C pn b I q)
def gAnd (g h : Exc → Option Bool) (x : Exc) : Option Bool := match g x with
  | some true => h x
  | some false => some false
  | none => none
def gOr (g h : Exc → Option Bool) (x : Exc) : Option Bool := match g x with
  | some true => some true
  | some false => h x
  | none => none
theorem su_and {g h : Exc → Option Bool} (ha : SuT X i a g) (hb : SuW X i (.BoolOp .And (b :: rest) pos) h) : SuW X i (.BoolOp .And (a :: b :: rest) pos) (gAnd g h) := fun a' x C pn bb I q => by
  unfold gAnd at q
  cases z : g x with
  | none => rw [z] at q; cases q
  | some d =>
    rw [z] at q
    cases d with
    | true => exact ⟨fun wh pins s σ H Q J k => (pw_and (ha a' x C pn true I z) (hb a' x C pn bb I q)).run wh pins s σ H Q J ⟨k.1, by simpa using k⟩⟩
    | false =>
      cases q
      refine ⟨fun wh pins s σ H Q J k => ?_⟩
      refine isTrue_and (thn ((ha a' x C pn false I z).run pins s σ H (fun c H1 => c = false ∧ Q false H1) J ⟨k.1, rfl, k.2⟩) fun c s1 hh => ?_)
      obtain ⟨H1, I1, rfl, q1⟩ := hh
      exact ⟨H1, I1, q1⟩
theorem su_or {g h : Exc → Option Bool} (ha : SuT X i a g) (hb : SuW X i (.BoolOp .Or (b :: rest) pos) h) : SuW X i (.BoolOp .Or (a :: b :: rest) pos) (gOr g h) := fun a' x C pn bb I q => by
  unfold gOr at q
  cases z : g x with
  | none => rw [z] at q; cases q
  | some d =>
    rw [z] at q
    cases d with
    | false => exact ⟨fun wh pins s σ H Q J k => (pw_or (ha a' x C pn false I z) (hb a' x C pn bb I q)).run wh pins s σ H Q J ⟨k.1, by simpa using k⟩⟩
    | true =>
      cases q
      refine ⟨fun wh pins s σ H Q J k => ?_⟩
      refine isTrue_or (thn ((ha a' x C pn true I z).run pins s σ H (fun c H1 => c = true ∧ Q true H1) J ⟨k.1, rfl, k.2⟩) fun c s1 hh => ?_)
      obtain ⟨H1, I1, rfl, q1⟩ := hh
      exact ⟨H1, I1, q1⟩
theorem su_w {g : Exc → Option Bool} (h : SuW X i e g) : SuT X i e g := fun a x C pn b I q => PW.pt (h a x C pn b I q)
/-- -k - e -/
theorem su_sub {g h : Exc → Option D} (ha : SuE X i a g) (hb : SuE X i b h) : SuE X i (.BinOp a .Sub b pos) (gSub g h) := fun a' x C pn d I q => by
  unfold gSub at q
  cases z1 : g x with
  | none => rw [z1] at q; cases q
  | some d1 =>
    cases z2 : h x with
    | none => rw [z1, z2] at q; cases d1 <;> cases q
    | some d2 =>
      rw [z1, z2] at q
      obtain ⟨v1, hv1, p1⟩ := ha a' x C pn d1 I z1
      obtain ⟨v2, hv2, p2⟩ := hb a' x C pn d2 I z2
      cases d1 with
      | int m =>
        cases d2 with
        | int n =>
          cases q
          cases hv1
          cases hv2
          exact ⟨_, rfl, ⟨fun pins s σ H Q J k => (pe_sub p1 p2).run pins s σ H Q J ⟨k.1, k.1, m, n, rfl, rfl, k.2⟩⟩⟩
        | _ => cases q
      | _ => cases q
/-- statements -/
theorem su_ret {g : Exc → Option D} (he : SuE X i e g) : SuB X i [.Return (some e) pos] (gRet g) := fun a x C pn s I q => by
  unfold gRet at q
  cases z : g x with
  | none => rw [z] at q; cases q
  | some d =>
    rw [z] at q
    obtain ⟨v, hv, hp⟩ := he a x C pn d I z
    have es : s = .fz d ∧ ∀ ds, d ≠ .tup ds := by cases d <;> first | (cases q; done) | exact ⟨(Option.some.inj q).symm, fun _ w => nomatch w⟩
    obtain ⟨rfl, hn⟩ := es
    refine ⟨fun pins s0 σ H W J k => (pss_one (ps_ret hp)).run pins s0 σ H W J ⟨k.1, ?_⟩⟩
    have k2 := k.2
    cases d <;> first | (cases hv; done) | exact absurd rfl (hn _) | skip
    all_goals
      obtain ⟨v', hv', r⟩ := k2
      rw [hv] at hv'
      cases hv'
      exact r
inductive SuA (X : Cx) (i : Nat) : List Expr → (Exc → Option (List D)) → Prop
  | nil : SuA X i [] gNil
  | cons {e : Expr} {es : List Expr} {g : Exc → Option D} {h : Exc → Option (List D)} (he : SuE X i e g) (hs : ∀ env, starEach (e :: es) env = (false, eval e env) :: starEach es env) (r : SuA X i es h) : SuA X i (e :: es) (gCons g h)
theorem su_a {es : List Expr} {g : Exc → Option (List D)} (h : SuA X i es g) : ∀ (a : Addr) (x : Exc) (C : Addr) (pn : List (Addr × Obj)) (ds : List D), InSu (X.suite a pn) a x C → g x = some ds → ∃ vs, ds.mapM imm = some vs ∧ PA (X.suite a pn) es (fun σ H Q => σ[i]? = some (some (.ref a)) ∧ Q vs H) := by
  induction h with
  | nil =>
    intro a x C pn ds I q
    cases q
    exact ⟨[], rfl, ⟨fun pos pins s σ H Q J k => pa_nil.run pos pins s σ H Q J k.2⟩⟩
  | @cons e es g h he hs r ih =>
    intro a x C pn ds I q
    unfold gCons at q
    cases z1 : g x with
    | none => rw [z1] at q; cases q
    | some d =>
      cases z2 : h x with
      | none => rw [z1, z2] at q; cases q
      | some ds' =>
        rw [z1, z2] at q
        cases q
        obtain ⟨v, hv, p1⟩ := he a x C pn d I z1
        obtain ⟨vs, hvs, p2⟩ := ih a x C pn ds' I z2
        exact ⟨v :: vs, by simp [hv, hvs], ⟨fun pos pins s σ H Q J k => (pa_cons p1 p2 (hs _)).run pos pins s σ H Q J ⟨k.1, k.1, k.2⟩⟩⟩
theorem su_retT {p0 : Nat} {es : List Expr} {g : Exc → Option (List D)} (h : SuA X i es g) : SuB X i [.Return (some (.Tuple es p0 p)) pos] (gRetT g) := fun a x C pn s I q => by
  unfold gRetT at q
  cases z : g x with
  | none => rw [z] at q; cases q
  | some ds =>
    rw [z] at q
    cases q
    obtain ⟨vs, hvs, hp⟩ := su_a h a x C pn ds I z
    refine ⟨fun pins s0 σ H W J k => (pss_one (ps_ret (pe_tup hp))).run pins s0 σ H W J ⟨k.1, ?_⟩⟩
    obtain ⟨vs', hvs', hl, r⟩ := k.2
    rw [hvs] at hvs'
    cases hvs'
    exact ⟨by rw [sizeLine_eq]; omega, r⟩
theorem su_retL {g : Exc → Option D} (he : SuE X i e g) (hs : ∀ env, starEach [e] env = (false, eval e env) :: starEach [] env) : SuB X i [.Return (some (.List [e] p)) pos] (gRetL g) := fun a x C pn s I q => by
  unfold gRetL at q
  cases z : g x with
  | none => rw [z] at q; cases q
  | some d =>
    rw [z] at q
    cases q
    obtain ⟨v, hv, hp⟩ := he a x C pn d I z
    refine ⟨fun pins s0 σ H W J k => (pss_one (ps_ret (pe_lst (pa_cons hp pa_nil (hs _))))).run pins s0 σ H W J ⟨k.1, ?_⟩⟩
    obtain ⟨v', hv', r⟩ := k.2
    rw [hv] at hv'
    cases hv'
    exact ⟨Nat.le_of_ble_eq_true rfl, r⟩
theorem su_if {c : Expr} {s1 s2 : List Stmt} {g : Exc → Option Bool} {h k : Exc → Option SV} (hc : SuT X i c g) (h1 : SuB X i s1 h) (h2 : SuB X i s2 k) : SuB X i (.If c s1 [] pos :: s2) (gIf g h k) := fun a x C pn s I q => by
  unfold gIf at q
  cases z : g x with
  | none => rw [z] at q; cases q
  | some b =>
    rw [z] at q
    have e0 : PSs (X.suite a pn) [] tNext := pss_nil
    have no : PSs (X.suite a pn) s1 (fun _ _ _ => False) := ⟨fun _ _ _ _ _ _ z => z.elim⟩
    cases b with
    | true =>
      refine ⟨fun pins s0 σ H W J w => ?_⟩
      refine wpAny_execs_cons (thn ((ps_if (hc a x C pn true I z) (h1 a x C pn s I q) e0).run pins s0 σ H ⟨fun _ _ => False, W.rt, fun _ _ => False, fun _ _ => False⟩ J ⟨w.1, ?_⟩) fun f s1 r => ?_)
      · show (if true = true then _ else _)
        rw [if_pos rfl]
        exact ⟨w.1, w.2⟩
      · cases f with
        | ret v => exact r
        | next => obtain ⟨_, _, _, q⟩ := r; exact q.elim
        | brk => obtain ⟨_, _, _, q⟩ := r; exact q.elim
        | cont => obtain ⟨_, _, _, q⟩ := r; exact q.elim
    | false =>
      refine ⟨fun pins s0 σ H W J w => ?_⟩
      refine (pss_cons (ps_if (hc a x C pn false I z) no e0) (h2 a x C pn s I q)).run pins s0 σ H W J ⟨w.1, ?_⟩
      show (if false = true then _ else _)
      rw [if_neg (by decide)]
      exact w
end
/-! ### the clause -/
def okRes : SV → Bool
  | .fz (.tup ds) => (ds.mapM imm).isSome && decide (ds.length ≤ 1000)
  | .fz d => (imm d).isSome
  | .ol [.fz d] => (imm d).isSome
  | _ => false
def dTryX (h : Exc → Option SV) (m : M Fl) : M Fl := fun e => match m e with
  | .st => .st
  | .ok f e1 => .ok f e1
  | .ex x e1 => match h x with
    | some s => if okRes s = true then .ok (.rt (svR s)) e1 else .st
    | none => .st
def hDel (d : Option Addr) (H : Hp) : Hp := match d with
  | some dd => L2.del H dd
  | none => H
/-- the clause's reading -/
def tSx (mg : Str → Option Value) (h : Exc → Option SV) (i : Nat) (a : Addr) (cls : Value) (d : Option Addr) : TS := fun W σ H =>
  ∃ (x : Exc) (s : SV) (σ' : L2.St), h x = some s ∧ RX mg H x cls d ∧ σ = σ'.set i (some (.ref a)) ∧ tRes s W (hDel d H)
section
variable {X : Cx} {pins : List (Addr × Obj)} {σ : L2.St} {H : Hp} {s : Shared}
/-- an exception's dict, no longer told but pinned -/
theorem inv_del {a dd : Addr} {fs : List (Str × V)} {pn : List (Addr × Obj)} {od : Obj} (I : Inv (X.suite a pn) pins σ H s) (hd : H dd = some (.xd fs)) (ho : s.heap.get? dd = some od) (hc : ∀ v, od.data ≠ .cell v) : Inv (X.suite a ((dd, od) :: pn)) pins σ (L2.del H dd) s := by
  have ok := I.ok
  have ne : ∀ b, H b = none → b ≠ dd := fun b q z => by rw [z, hd] at q; cases q
  have dn : ∀ b, H b = none → L2.del H dd b = none := fun b q => by rw [del_ne (ne b q)]; exact q
  refine ⟨⟨ok.mod, ok.kind, ok.glob, ok.blt, ok.above, ok.inj, ok.has, ok.cab, (fun z => nomatch z), ok.frames, ok.stk, ok.exf, ok.bs, ok.bsz, ok.noex, ok.exfs, ok.funs, ok.frf⟩, I.os, I.bare, ⟨I.base.keep, I.base.slot, fun b o e n hx => dn b (I.base.free b o e n hx), I.base.there, fun b xs e => ?_, fun b o u e => ?_, fun b ps e => ?_⟩, I.loc, I.cell, dn _ I.free, fun y c e => dn _ (I.freeC y c e), fun p hp => ?_, fun b u e => ?_, I.len⟩
  · have q := I.base.tups b xs e
    rw [del_ne fun z => by rw [z, hd] at q; cases q]; exact q
  · have q := I.base.frzs b o u e
    rw [del_ne fun z => by rw [z, hd] at q; cases q]; exact q
  · obtain ⟨m, q⟩ := I.base.tbls b ps e
    exact ⟨m, by rw [del_ne fun z => by rw [z, hd] at q; cases q]; exact q⟩
  · have hp' : p ∈ (dd, od) :: (pn ++ pins) := hp
    rcases List.mem_cons.mp hp' with e | h
    · rw [e]
      refine ⟨ho, del_same, fun z => ?_, fun hm => ?_, hc⟩
      · have z' : dd = X.env.locals := z
        have q := I.free
        rw [← z', hd] at q; cases q
      · obtain ⟨_, o, ho', _⟩ := I.ok.funs.mem hm
        have q := I.base.free _ o ho' (I.ok.frf _ hm) fun z => I.ok.exfs _ z hm
        rw [hd] at q; cases q
    · obtain ⟨e, n, nl, nf, d⟩ := I.pin p h
      exact ⟨e, dn _ n, nl, nf, d⟩
  · have hb : b ≠ dd := fun z => by rw [z, del_same] at e; cases e
    rw [del_ne hb] at e
    refine (I.hok b u e).stay (fun c v _ q => q) (fun c q => ?_) fun c xs q => ?_
    · rw [del_ne fun z => by rw [z, hd] at q; cases q]; exact q
    · rw [del_ne fun z => by rw [z, hd] at q; cases q]; exact q
theorem inv_less {a : Addr} {p : Addr × Obj} {pn : List (Addr × Obj)} (I : Inv (X.suite a (p :: pn)) pins σ H s) : Inv (X.suite a pn) pins σ H s := by
  have ok := I.ok
  exact ⟨⟨ok.mod, ok.kind, ok.glob, ok.blt, ok.above, ok.inj, ok.has, ok.cab, (fun z => nomatch z), ok.frames, ok.stk, ok.exf, ok.bs, ok.bsz, ok.noex, ok.exfs, ok.funs, ok.frf⟩, I.os, I.bare, I.base, I.loc, I.cell, I.free, I.freeC, fun q hq => I.pin q (List.mem_cons_of_mem _ hq), I.hok, I.len⟩
end
section
variable {X : Cx} {E : XS}
theorem look_zip : ∀ {ns : List Str} {ds : List D} {vs : List V} {f : Str} {d : D}, ns.length = vs.length → ds.mapM imm = some vs → (ns.zip ds).lookup f = some d → ∃ v, imm d = some v ∧ (ns.zip vs).lookup f = some v
  | [], _, _, _, _, _, _, h => by simp [List.lookup] at h
  | n :: ns, [], _, _, _, _, _, h => by simp [List.lookup] at h
  | n :: ns, d0 :: ds, [], _, _, hl, _, _ => by simp at hl
  | n :: ns, d0 :: ds, v0 :: vs, f, d, hl, hm, h => by
    have hm' : imm d0 = some v0 ∧ ds.mapM imm = some vs := by
      cases q1 : imm d0 with
      | none => simp [q1] at hm
      | some z =>
        cases q2 : ds.mapM imm with
        | none => simp [q1, q2] at hm
        | some zs =>
          have : z = v0 ∧ zs = vs := by simpa [q1, q2] using hm
          exact ⟨by rw [this.1], by rw [this.2]⟩
    rw [List.zip_cons_cons, List.lookup_cons] at h
    rw [List.zip_cons_cons, List.lookup_cons]
    cases q : (f == n) with
    | true =>
      rw [q] at h
      cases h
      exact ⟨v0, hm'.1, rfl⟩
    | false =>
      rw [q] at h
      exact look_zip (by simpa using hl) hm'.2 h
theorem reps_mk {K : PySem.W.Frag} {mg : Str → Option Value} {F : Hp} : ∀ {ds : List D} {vs : List V}, ds.mapM imm = some vs → Reps K mg F vs ds
  | [], vs, h => by cases h; trivial
  | d :: ds, vs, h => by
    cases z1 : imm d with
    | none => simp [z1] at h
    | some v0 =>
      cases z2 : ds.mapM imm with
      | none => simp [z1, z2] at h
      | some vs0 =>
        have : vs = v0 :: vs0 := by simpa [z1, z2] using h.symm
        subst this
        exact ⟨rep_imm z1, reps_mk z2⟩
theorem s_tryX {body suite : List Stmt} {b0 : Stmt} {h : Exc → Option SV} {m : M Fl} {i : Nat} {n x : Str} {c : Value} {np pos' pos : Pos} (hs : X.stack = X.env :: X.outer) (hf : X.env.frame = some X.env.locals) (hN : X.N.Nodup) (hi : X.N[i]? = some n) (hln : X.env.kindOf n = some .local) (hc : Names X x c) (tk : Takes X E)
    (hm : ∀ (y : Exc) (s : SV) (C : Addr), h y = some s → X.mg y.c = some (.ref C) → PySem.W.exmOne X.K (.ref C) c = some true)
    (hb : ∀ (E : XS) (pn : List (Addr × Obj)) (xe : Value → Shared → Prop), Takes (X.tr pn xe) E → PassesOwn (model X.prog X.w) X.A X.env xe → VB (X.tr pn xe) E body m)
    (hsu : SuB X i (b0 :: suite) h) :
    VS X E (.Try body [.ExceptHandler (some (.Name x np)) (some n) (b0 :: suite) pos'] [] [] pos) (dTryX h m) := by
  refine .mk (ps_try_as (tb := fun W => wS X.K X.mg W m) (ts := tSx X.mg h i) hs hf hN hi hln hc tk (fun W pn xe t p => hb W pn xe t p) fun a oe cls d pn hz hfl => ⟨fun pins s σ H D I hh => ?_⟩) fun pv F H σ e as held D c0 w => ?_
  · obtain ⟨x0, sv, σ', hx, ⟨C, g, rfl, rx⟩, hσ, res⟩ := hh
    have hl : i < σ'.length := by
      have l1 := I.len
      have l2 := (List.getElem?_eq_some_iff.mp hi).1
      rw [hσ, List.length_set] at l1
      rw [l1]; exact l2
    have s0 : σ[i]? = some (some (.ref a)) := by rw [hσ, List.getElem?_set_self hl]
    obtain ⟨fv, hfv⟩ := hfl
    obtain ⟨oc, odd, odt, osl⟩ := oe
    obtain ⟨z1, z2⟩ := hz
    dsimp only at z1 z2 hfv
    subst z1 z2 hfv
    rcases rx with ⟨hn, rfl⟩ | ⟨hn, dd, vs, rfl, hd, hlen, hm2⟩
    · have In : InSu (X.suite a ((a, ({ cls := .ref C, dict := none, data := .fields fv, slots := osl } : Obj)) :: pn)) a x0 C := ⟨g, _, none, fun pins s σ H I => ⟨(I.pin _ (List.mem_append_left _ List.mem_cons_self)).1, rfl, rfl, trivial⟩, fun f d q => by rw [hn] at q; simp [List.lookup] at q⟩
      exact (hsu a x0 C _ sv In hx).run pins s σ H D I ⟨s0, res⟩
    · have hob : ObjOk X.prog X.w H s.heap dd (.xd (x0.ns.zip vs)) := I.hok dd _ hd
      obtain ⟨mA, hns, hr⟩ := hob
      obtain ⟨od, ho, hlk⟩ := lookIn_ns hns
      have hnc : ∀ v, od.data ≠ .cell v := fun v z => by
        obtain ⟨o, es, ep, e1, e2, _⟩ := hns
        rw [ho] at e1
        cases e1
        rw [z] at e2
        cases e2
      have I2 := inv_del I hd ho hnc
      have In : InSu (X.suite a ((dd, od) :: (a, ({ cls := .ref C, dict := some dd, data := .fields fv, slots := osl } : Obj)) :: pn)) a x0 C := by
        refine ⟨g, _, some od, fun pins s σ H I => ⟨(I.pin _ (List.mem_append_left _ (List.mem_cons_of_mem _ List.mem_cons_self))).1, rfl, rfl, (I.pin _ (List.mem_append_left _ List.mem_cons_self)).1⟩, fun f d q => ?_⟩
        obtain ⟨v, hv, hl2⟩ := look_zip hlen hm2 q
        have r := hr f
        rw [hl2] at r
        cases z : mA f with
        | none => rw [z] at r; exact r.elim
        | some u =>
          rw [z] at r
          exact ⟨od, u, v, rfl, hv, r, by rw [hlk, z]⟩
      refine wpAny_mono ((hsu a x0 C _ sv In hx).run pins s σ _ D I2 ⟨s0, res⟩) (fun f s1 r => ?_) fun _ _ z => z
      cases f with
      | ret u => obtain ⟨v, σ2, H2, J, rv, q⟩ := r; exact ⟨v, σ2, H2, inv_less J, rv, q⟩
      | next => obtain ⟨σ2, H2, J, q⟩ := r; exact ⟨σ2, H2, inv_less J, q⟩
      | brk => obtain ⟨σ2, H2, J, q⟩ := r; exact ⟨σ2, H2, inv_less J, q⟩
      | cont => obtain ⟨σ2, H2, J, q⟩ := r; exact ⟨σ2, H2, inv_less J, q⟩
  · refine ⟨pv, F, e, as, held, c0, ?_⟩
    unfold dTryX at w
    cases q : m e with
    | st => rw [q] at w; exact w.elim
    | ok f e1 =>
      rw [q] at w
      cases f <;> exact w
    | ex y e1 =>
      rw [q] at w
      simp only at w
      intro cls d F' H' σ' as' s' c' rx hn
      cases q2 : h y with
      | none => rw [q2] at w; exact w.elim
      | some sv =>
        rw [q2] at w
        simp only at w
        obtain ⟨C, g, rfl, rx'⟩ := id rx
        refine ⟨true, hm y sv C q2 g, fun _ a na => ⟨y, sv, σ', q2, rx, rfl, ?_⟩, fun z => nomatch z⟩
        obtain ⟨F1, H1, e1', s1, c1⟩ : ∃ F1 H1, hDel d H' = H1 ∧ Same F F1 ∧ Cf X.K X.mg pv F1 H1 σ' e1 as' held := by
          cases d with
          | none => exact ⟨F', H', rfl, s', c'⟩
          | some dd =>
            rcases rx' with ⟨_, z⟩ | ⟨_, dd', vs, z, hd, _⟩
            · cases z
            · cases z
              refine ⟨L2.del F' dd, _, rfl, fun b o q => ?_, c'.del hd⟩
              rw [del_ne fun z => by rw [z, hn dd rfl] at q; cases q]
              exact s' _ _ q
        rw [e1']
        by_cases hok : okRes sv = true
        · rw [if_pos hok] at w
          have fz : ∀ {d : VF.D} {v : V}, imm d = some v → sv = .fz d → D.rt v H1 := fun {d v} hv e => by
            subst e
            exact w v σ' F1 H1 as' [.fz v d] s1 (c1.fz (rep_imm hv)) rfl
          have one : ∀ {d : VF.D}, sv = .fz d → (imm d).isSome = true → ∃ v, imm d = some v ∧ D.rt v H1 := fun {d} e h => by
            obtain ⟨v, hv⟩ := Option.isSome_iff_exists.mp h
            exact ⟨v, hv, fz hv e⟩
          cases sv with
          | fz dd =>
            cases dd with
            | tup ds =>
              have h2 : (ds.mapM imm).isSome = true ∧ decide (ds.length ≤ 1000) = true := Bool.and_eq_true_iff.mp hok
              obtain ⟨vs, hv⟩ := Option.isSome_iff_exists.mp h2.1
              have rp : Reps X.K X.mg F1 vs ds := by
                exact reps_mk hv
              refine ⟨vs, hv, by rw [rp.length]; exact of_decide_eq_true h2.2, fun p hp => ?_⟩
              obtain ⟨F2, s2, c2⟩ := c1.newT rp hp
              exact w (.ref p) σ' F2 _ as' _ (s1.trans s2) c2 rfl
            | _ => first | exact one rfl hok | cases hok
          | ol xs =>
            match xs, hok with
            | [.fz d0], hok =>
              obtain ⟨v, hv⟩ := Option.isSome_iff_exists.mp (show (imm d0).isSome = true from hok)
              refine ⟨v, hv, fun p hp => ?_⟩
              obtain ⟨t, t1, t2, c2⟩ := c1.newL (vs := [v]) (ds := [d0]) ⟨rep_imm hv, trivial⟩ hp
              exact w (.ref p) σ' F1 _ as' [t] s1 c2 ⟨t, rfl, t1, t2⟩
          | oo _ _ _ => cases hok
          | od _ _ => cases hok
        · rw [if_neg hok] at w; exact w.elim
end
end VF

set_option maxRecDepth 100000
set_option maxHeartbeats 4000000
/-! repr of data, where nothing guards; defs that are called so. -/
namespace VF
set_option autoImplicit false
open PySem PySem.Spec PyProof.Rows L2
open AT (cells cellsL er ers)
/-! ### repr -/
def shownOk (p : PyData) : Bool := p.showable && (!p.hasDict && (decide (p.depth ≤ 60) && decide (p.shown.length ≤ sizeLine)))
def reprD : List D → Option D
  | [d] => (match toP d with
    | some p => if shownOk p = true then some (.str p.shown) else none
    | none => none)
  | _ => none
section
variable {X : Cx}
def rRepr (K : PySem.W.Frag) : List V → Hp → VK → Prop := fun xs H Q => ∃ v p, xs = [v] ∧ Dp K H v p ∧ shownOk p = true ∧ Q (.str p.shown) H
theorem call_reprD (hg : X.A.guards = some []) (hu : X.A.units + 64 < cLine) : CallR X (.builtin "repr") (rRepr X.K) := by
  intro pins s σ H xs us Q I r h
  obtain ⟨v, p, rfl, dp, ok, q⟩ := h
  obtain ⟨u, rfl, ru⟩ := vals1 r
  unfold shownOk at ok
  obtain ⟨h1, ok⟩ := Bool.and_eq_true_iff.mp ok
  obtain ⟨h2, ok⟩ := Bool.and_eq_true_iff.mp ok
  obtain ⟨h3, h4⟩ := Bool.and_eq_true_iff.mp ok
  have h2' : p.hasDict = false := by simpa using h2
  have h3' : p.depth ≤ 60 := of_decide_eq_true h3
  have h4' : p.shown.length ≤ sizeLine := of_decide_eq_true h4
  obtain ⟨as, rd⟩ := Dp.reads I p v u dp ru
  have big : ∀ a, u = .ref a → wpAny (model X.prog X.w) X.A (call (.builtin "repr") [u]) (EP X pins σ Q) X.xe s := fun a e => by
    subst e
    exact repr_of_reads' rd h1 (PyData.noDict_hsm h2') hg (by omega) (fun _ _ z => z) (fun h' u tk k => ⟨.str p.shown, H, I.kept (t' := tk) k, ⟨_, rfl⟩, q⟩) h4'
  cases dp with
  | non => cases ru; exact PySem.P.repr_of_none ⟨.str _, H, I.tok _, ⟨_, rfl⟩, q⟩
  | bl b => cases ru; exact PySem.P.repr_of_bool ⟨.str _, H, I.tok _, ⟨_, rfl⟩, q⟩
  | int i =>
    obtain ⟨t, rfl⟩ := ru
    exact PySem.P.repr_of_int (of_decide_eq_true h1) ⟨.str _, H, I.tok _, ⟨_, rfl⟩, q⟩
  | str x =>
    obtain ⟨t, rfl⟩ := ru
    exact PySem.P.repr_of_str ⟨.str _, H, I.tok _, ⟨_, rfl⟩, q⟩ h4'
  | lst _ _ => exact big _ ru
  | tup _ _ => exact big _ ru
end
section
variable {K : PySem.W.Frag} {mg : Str → Option Value}
theorem cbd_repr : CbD (rRepr K) K mg reprD := by
  intro H xs as d r q
  unfold reprD at q
  split at q
  · rename_i d0
    cases z : toP d0 with
    | none => rw [z] at q; cases q
    | some p =>
      rw [z] at q
      simp only at q
      by_cases ok : shownOk p = true
      · rw [if_pos ok] at q
        cases q
        cases xs with
        | nil => exact r.elim
        | cons x xs =>
          cases xs with
          | nil => exact ⟨.str p.shown, rfl, fun Q k => ⟨x, p, rfl, dp_of d0 r.1 z, ok, k⟩⟩
          | cons _ _ => exact r.2.elim
      · rw [if_neg ok] at q; cases q
  · cases q
end
section
variable {X : Cx} {E : XS} {a : Expr} {pos : Pos}
theorem v_repr {p : Pos} {es : List Expr} {mr : M (List RV)} (hgd : X.A.guards = some []) (hu : X.A.units + 64 < cLine) (hg : Gl X "repr") (hm : X.mg "repr" = none) (ha : VA X E (a :: es) mr) (he : starEach (a :: es) X.env = (false, eval a X.env) :: starEach es X.env := by rfl) (hpl : (backTo pos (starEach es X.env)).any (·.1) = false := by rfl) :
    VE X E (.Call (.Name "repr" p) (a :: es) [] pos) (dCB reprD mr) := .mk (pe_callB (call_reprD hgd hu) hg hm (by decide +kernel) ha (by decide) (by decide) he hpl) (se_cb cbd_repr sa_w)
end
/-! ### == of two texts -/
def fEqS : D → D → Option D := fun a b => match a, b with
  | .str x, .str y => some (.bl (decide (x = y)))
  | _, _ => none
section
variable {X : Cx} {K : PySem.W.Frag} {mg : Str → Option Value}
theorem op_eqTx : OpR X (compareOp .Eq) (fun x y H Q => ∃ a b : Str, x = .str a ∧ y = .str b ∧ Q (.bl (decide (a = b))) H) := by
  intro pins s σ H x y v u Q I rx ry h
  obtain ⟨a, b, rfl, rfl, q⟩ := h
  obtain ⟨t, rfl⟩ := rx
  obtain ⟨t', rfl⟩ := ry
  refine PySem.P.eq_str (fin_bl I q ?_)
  by_cases c : a = b
  · subst c
    rw [decide_eq_true rfl, beq_self_eq_true]
  · have n : ¬ a.cps.toList = b.cps.toList := fun e => c (by
      cases a; cases b
      congr 1
      exact Array.toList_inj.mp e)
    rw [decide_eq_false c, beq_eq_false_iff_ne.mpr n]
theorem opd_eqS : OpD (fun x y H Q => ∃ a b : Str, x = .str a ∧ y = .str b ∧ Q (.bl (decide (a = b))) H) K mg fEqS := by
  intro H x y a b d ra rb q
  cases a <;> first | (cases b <;> cases q; done) | skip
  cases b <;> first | (cases q; done) | skip
  rename_i i j
  cases q
  exact ⟨.bl (decide (i = j)), rfl, fun Q k => ⟨i, j, ra, rb, k⟩⟩
end
section
variable {X : Cx} {E : XS} {a b : Expr} {ma mb : M RV} {pos : Pos}
theorem v_eqS (ha : VE X E a ma) (hb : VE X E b mb) : VE X E (.Compare a [.Eq] [b] pos) (dOp fEqS ma mb) := .mk (pe_cmpR op_eqTx ha hb (nomark _)) (se_op opd_eqS se_w se_w)
theorem t_eqS (ha : VE X E a ma) (hb : VE X E b mb) : VT X E (.Compare a [.Eq] [b] pos) (dT (dOp fEqS ma mb)) := .mk (pt_cmpR op_eqTx ha hb (nomark _)) (st_test (se_op opd_eqS se_w se_w))
end
/-! ### defs that are called where nothing guards -/
structure FnOkG (P : Program) (w : World) (K : PySem.W.Frag) (mg : Str → Option Value) (base : Heap) (k : Nat) (f : Addr) (fd : FuncData) (ps : List Str) (sp : Sp) : Prop where
  len : ∀ vs H Q, sp vs H Q L2.E0 → vs.length = ps.length
  run : ∀ (A : Around) (outer : List PySem.Env) (s : Shared) (H : Hp) (args : Args) (us : List Value) (vs : List V) (Q : VK), Room k A → A.guards = some [] → Env0 P w K mg base A outer s H → BindsTo s fd args (ps.zip us) → Vals vs us → sp vs H Q L2.E0 →
    codeAny (model P w) A (.call (.ref f) args) (CR CX0 outer P w H s Q L2.E0) s
theorem FnOkG.mono {P : Program} {w : World} {K : PySem.W.Frag} {mg : Str → Option Value} {base : Heap} {j k : Nat} {f : Addr} {fd : FuncData} {ps : List Str} {sp : Sp} (F : FnOkG P w K mg base j f fd ps sp) (h : j ≤ k) : FnOkG P w K mg base k f fd ps sp :=
  ⟨F.len, fun A outer s H args us vs Q hr => F.run A outer s H args us vs Q (hr.mono h)⟩
section
variable {X : Cx} {k : Nat} {f : Addr} {fd : FuncData} {ps : List Str} {sp : Sp} {x : Str} {p pos : Pos} {e : Expr} {es : List Expr} {t : TA}
theorem pe_callG (F : FnOkG X.prog X.w X.K X.mg X.base k f fd ps sp) (hr : Room k X.A) (hgd : X.A.guards = some []) (hg : Gl X x) (hm : X.mg x = some (.ref f)) (hk : PySem.W.keepIn X.K (.ref f) = true) (hb : Binds X.K fd ps [])
    (ha : PA X (e :: es) t) (hdb : (x == ("__debug__" : Str)) = false := by decide) (he : starEach (e :: es) X.env = (false, eval e X.env) :: starEach es X.env := by rfl) (hpl : (backTo pos (starEach es X.env)).any (·.1) = false := by rfl) :
    PE X (.Call (.Name x p) (e :: es) [] pos) (tCallS sp (fun σ cls d H => E0 cls d σ H) t) := by
  refine ⟨fun pins s σ H Q I h => wpAny_Call_Name_kw (ld_glob I hg hm ?_ hdb)⟩
  refine PySem.W.callWith_K (h₀ := X.base) I.ok.mod.kin hk (thn (ha.run pos pins s σ H _ I h) fun us s1 hh => ?_) he hpl
  obtain ⟨vs, H1, I1, rv, q⟩ := hh
  have q' : sp vs H1 Q L2.E0 := q
  refine ⟨I1.kIn, ?_⟩
  have hl : us.length = ps.length := by rw [← rv.length]; exact F.len _ _ _ q'
  have b := hb s1 us I1.kIn (by rw [List.append_nil]; exact hl)
  rw [List.append_nil] at b
  refine wpAny_call (codeAny_mono (F.run X.A X.stack s1 H1 ⟨us, []⟩ us vs Q hr hgd I1.env0 b rv q') fun r s' hq => ?_)
  cases r with
  | error _ => exact False.elim hq
  | ok fl =>
    cases fl with
    | ret u => exact I1.after hq
    | next => exact False.elim hq
    | brk => exact False.elim hq
    | cont => exact False.elim hq
end
section
variable {X : Cx} {a : Expr} {pos : Pos} {es : List Expr} {mr : M (List RV)}
theorem v_callG {k : Nat} {f : Addr} {fd : FuncData} {ps : List Str} {x : Str} {p : Pos} {md : List Bool} {φ : Fn} (F : FnOkG X.prog X.w X.K X.mg X.base k f fd ps (spF X.K X.mg md.length φ)) (hr : Room k X.A) (hgd : X.A.guards = some []) (hg : Gl X x) (hm : X.mg x = some (.ref f)) (hk : PySem.W.keepIn X.K (.ref f) = true) (hb : Binds X.K fd ps [])
    (ha : VA X E0 (a :: es) mr) (hdb : (x == ("__debug__" : Str)) = false := by decide) (he : starEach (a :: es) X.env = (false, eval a X.env) :: starEach es X.env := by rfl) (hpl : (backTo pos (starEach es X.env)).any (·.1) = false := by rfl) :
    VE X E0 (.Call (.Name x p) (a :: es) [] pos) (dCall md φ mr) := .mk (pe_callG F hr hgd hg hm hk hb ha hdb he hpl) (se_call sa_w)
theorem v_callBG {k n : Nat} {f : Addr} {fd : FuncData} {ps : List Str} {x : Str} {p : Pos} {φ : Fn} (F : FnOkG X.prog X.w X.K X.mg X.base k f fd ps (spF X.K X.mg n φ)) (hr : Room k X.A) (hgd : X.A.guards = some []) (hg : Gl X x) (hm : X.mg x = some (.ref f)) (hk : PySem.W.keepIn X.K (.ref f) = true) (hb : Binds X.K fd ps [])
    (ha : VA X E0 (a :: es) mr) (hdb : (x == ("__debug__" : Str)) = false := by decide) (he : starEach (a :: es) X.env = (false, eval a X.env) :: starEach es X.env := by rfl) (hpl : (backTo pos (starEach es X.env)).any (·.1) = false := by rfl) :
    VE X E0 (.Call (.Name x p) (a :: es) [] pos) (dCallB n φ mr) := .mk (pe_callG F hr hgd hg hm hk hb ha hdb he hpl) (se_callB sa_w)
end
end VF

set_option maxRecDepth 100000
set_option maxHeartbeats 4000000
/-! A def's body where nothing guards; the law's own call is such a place. -/
namespace VF
set_option autoImplicit false
open PySem PySem.Spec PyProof.Rows L2
open AT (cells cellsL er ers)
theorem fn_okG {P : Program} {w : World} {K : PySem.W.Frag} {mg : Str → Option Value} {base : Heap} {x qual : Str} {params : Arguments} {body : List Stmt} {scope : Scope} {dvs : List V} {kws : List (Str × V)} {f : Addr} {fd : FuncData} {N ps : List Str} {k : Nat}
    (F : FunD K x qual params body scope dvs kws f fd) (S : FnScope N ps scope) (md : List Bool) (hl : md.length = ps.length) {m : M Fl} {n : Nat} (hN : N.length = n)
    (hb : ∀ (cdv : Value) (A : Around) (outer : List PySem.Env) (s : Shared) (H : Hp) (E : XK), Room k (A.deeper (envOfC qual scope s.heap.objs.size f cdv)) → A.guards = some [] → VB (cxOf CX0 P w K mg base N qual scope f cdv A outer s H E).nox E0 body m) :
    FnOkG P w K mg base (k + 1) f fd ps (spF K mg md.length (mkFn0 md n m)) := by
  subst hN
  obtain ⟨oc, od, dV, kV, doc, pm, an, cdv, ct, osl, rfl, lk, hcd, _, _⟩ := F.ex
  have hlen : ∀ vs H Q, spF K mg md.length (mkFn0 md N.length m) vs H Q L2.E0 → vs.length = ps.length := fun vs H Q h => by
    obtain ⟨_, ts, _, rfl, lt, _⟩ := h
    rw [← hl, ← lt]; exact List.length_map _
  refine ⟨hlen, fun A outer s H args us vs Q hr hgd e0 hbd rv h => ?_⟩
  have old : ∀ b o, base.get? b = some o → s.heap.get? b = some o := fun b o e => (e0.bs b o e).1
  have KX : K.In s.heap := e0.mod.kin.keeps old
  have kinds : ∀ y ∈ ps.zip us, scope.names.lookup y.1 = some .local ∨ (scope.names.lookup y.1 = some .cell ∧ ((cellsFrom (s.heap.objs.size + 1) scope.names []).lookup y.1).isSome = true) := fun ⟨y, z⟩ hy =>
    (S.par y (List.of_mem_zip hy).1).imp id fun q => ⟨q, PySem.W.cellsFrom_some _ _ _ (.inl q)⟩
  have h' : spF K mg md.length (mkFn md N.length m) vs H Q L2.E0 := by
    obtain ⟨F1, ts, held, e1, lt, s1, g, w1⟩ := h
    refine ⟨F1, ts, held, e1, lt, s1, g, ?_⟩
    unfold mkFn0 at w1
    cases q : mkFn md N.length m (ers ts) with
    | st => rw [q] at w1; exact w1
    | ok r as => rw [q] at w1; exact w1
    | ex x as => rw [q] at w1; exact w1.elim
  refine codeAny_call_function hr.depth (KX _ _ lk) rfl S.co S.gen rfl (PySem.W.codeRec_of KX hcd) (hbd _ _ _ _ ?_)
  refine wpAny_newFunctionEnv_cells S.kind kinds fun env he s1 y => ?_
  subst he
  refine ⟨(e0.mod.nolimit.keeps old).keeps y.toInCall.keep, codeAny_func ?_⟩
  have B := (hb cdv A outer s H L2.E0 (hr.deeper _) hgd).nox
  have I : Inv (cxOf CX0 P w K mg base N qual scope f cdv A outer s H L2.E0) [] (start N vs) H s1 := inv_start S hr.hd e0 (hlen _ _ _ h) rv y
  refine wpAny_mono (B.run [] s1 (start N vs) H _ I (body_ok (Ef := L2.E0) ss_w h')) (fun fl s' hs => ?_) fun _ _ hs => hs
  have fin : ∀ {σ' : L2.St} {H' : Hp} {v : V} {u : Value}, Inv (cxOf CX0 P w K mg base N qual scope f cdv A outer s H L2.E0) [] σ' H' s' → RelV v u → Q v H' → CE outer P w H s Q u s' :=
    fun {σ' H' v u} J r q => ⟨v, H', J.os, J.bare, J.base, J.hok, r, q⟩
  cases fl with
  | ret u => obtain ⟨v, σ', H', J, r, q⟩ := hs; exact fin J r q
  | next => obtain ⟨σ', H', J, q⟩ := hs; exact fin (v := .non) (u := .none) J rfl q
  | brk => obtain ⟨_, _, _, q⟩ := hs; exact q.elim
  | cont => obtain ⟨_, _, _, q⟩ := hs; exact q.elim
/-- the law's call, told by a heap of which at most the script is tracked -/
theorem law_coreG {P : Program} {w : World} {K : PySem.W.Frag} {mg mb : Str → Option Value} {k : Nat} {fa a : Addr} {fd : FuncData} {x : Str} {sp : Sp} {s : Shared} {vs : List Value} {H : Hp}
    (KX : K.In s.heap) (hns : s.heap.Ns mainGlobals mg) (hb : s.heap.Ns builtinsNs mb) (hbb : ∀ x : Str, x ≠ "__name__" → mb x = bootBuiltins x) (hlim : s.heap.NoLimit) (hg : s.gens = #[])
    (ha : s.heap.get? a = some { cls := .type "list", data := .seq vs.toArray }) (hr : Room k callerA)
    (F : ∀ base : Heap, K.In base → base.Ns mainGlobals mg → FnOkG P w K mg base k fa fd [x] sp) (hbind : BindsTo s fd ⟨[.ref a], []⟩ [(x, .ref a)])
    (hO : Only H) (hok : HOk P w H s.heap) (hA : ∀ b, H b ≠ none → b = a) (hK : H a ≠ none → K.lookup a = none) (hsp : sp [.ref a] H (fun v _ => v = .bl true) L2.E0) :
    codeAny (model P w) callerA (.call (.ref fa) ⟨[.ref a], []⟩) (fun r s' => r = .ok (.ret (.bool true)) ∧ OldK s.heap s'.heap ∧ s'.os = s.os ∧ AllBare s'.gens) s := by
  have off : ∀ {b : Addr} {o : Obj}, s.heap.get? b = some o → (∀ es, o.data ≠ .seq vs.toArray es) → H b = none := fun {b o} e n => by
    cases q : H b with
    | none => rfl
    | some u =>
      have eb := hA b (by rw [q]; exact Option.some_ne_none _)
      subst eb
      rw [ha] at e
      cases e
      exact absurd rfl (n _)
  have stays : ∀ {b : Addr} {m : Str → Option Value}, s.heap.Ns b m → (hidT s.heap H).Ns b m := fun {b m} ⟨o, es, ep, e, d, r⟩ => ⟨o, es, ep, hidT_get e (off e fun n z => by rw [d] at z; cases z), d, r⟩
  have kin : K.In (hidT s.heap H) := fun b o e => hidT_get (KX b o e) (by
    cases q : H b with
    | none => rfl
    | some u =>
      have eb := hA b (by rw [q]; exact Option.some_ne_none _)
      subst eb
      rw [hK (by rw [q]; exact Option.some_ne_none _)] at e
      cases e)
  have lim : (hidT s.heap H).NoLimit := by
    obtain ⟨mc, h1, h2⟩ := hlim
    exact ⟨mc, stays h1, h2⟩
  have e0 : Env0 P w K mg (hidT s.heap H) callerA [] s H := ⟨rfl, ⟨kin, stays hns, ⟨mb, stays hb, hbb⟩, lim⟩, fun b o e => of_hidT e, Nat.le_of_eq (hidT_size _ _), trivial, fun b h => absurd h List.not_mem_nil, hok, .of_eq hg⟩
  refine codeAny_mono ((F _ kin (stays hns)).run callerA [] s H ⟨[.ref a], []⟩ [.ref a] [.ref a] _ hr rfl e0 hbind (.cons rfl .nil) hsp) fun r s' h => ?_
  cases r with
  | error e => exact False.elim h
  | ok fl =>
    cases fl with
    | next => exact False.elim h
    | brk => exact False.elim h
    | cont => exact False.elim h
    | ret u =>
      obtain ⟨v, H', os, bare, un, hok', rv, q⟩ := h
      have q' : v = .bl true := q
      subst q'
      cases rv
      refine ⟨rfl, OldK.of_keep fun b o e => ?_, os, bare⟩
      cases z : H b with
      | none => exact un.keep b o e z (fun z => absurd z List.not_mem_nil) List.not_mem_nil
      | some u =>
        rcases hO b with z1 | ⟨ob, xs, z1⟩
        · rw [z] at z1; cases z1
        · obtain ⟨e1, _⟩ := hok b _ z1
          obtain ⟨e2, _⟩ := hok' b _ (un.frzs b ob _ z1)
          rw [e] at e1
          cases e1
          exact e2
theorem law_callG {P : Program} {w : World} {K : PySem.W.Frag} {mg mb : Str → Option Value} {k : Nat} {fa a : Addr} {fd : FuncData} {x : Str} {sp : Sp} {s : Shared} {vs : List Value} {ns : List Int}
    (KX : K.In s.heap) (hns : s.heap.Ns mainGlobals mg) (hb : s.heap.Ns builtinsNs mb) (hbb : ∀ x : Str, x ≠ "__name__" → mb x = bootBuiltins x) (hlim : s.heap.NoLimit) (hg : s.gens = #[])
    (ha : s.heap.get? a = some { cls := .type "list", data := .seq vs.toArray }) (hi : IntsAre vs ns) (hz : ns.length ≤ sizeLine) (hr : Room k callerA)
    (F : ∀ base : Heap, K.In base → base.Ns mainGlobals mg → FnOkG P w K mg base k fa fd [x] sp) (hbind : BindsTo s fd ⟨[.ref a], []⟩ [(x, .ref a)])
    (hsp : ∀ H : Hp, Only H → SqL K H a (ns.map V.int) → sp [.ref a] H (fun v _ => v = .bl true) L2.E0) :
    codeAny (model P w) callerA (.call (.ref fa) ⟨[.ref a], []⟩) (fun r s' => r = .ok (.ret (.bool true)) ∧ OldK s.heap s'.heap ∧ s'.os = s.os ∧ AllBare s'.gens) s := by
  have rv := vals_ints hi
  have core := fun (H : Hp) hO hok hA hK hS => law_coreG (sp := sp) (H := H) KX hns hb hbb hlim hg ha hr F hbind hO hok hA hK (hsp H hO hS)
  cases hk : K.lookup a with
  | some o =>
    have e := KX a o hk
    rw [ha] at e
    cases e
    exact core (fun _ => none) (fun _ => .inl rfl) (fun b u z => nomatch (show (none : Option HO) = some u from z)) (fun b z => absurd rfl z) (fun z => absurd rfl z)
      (.inr ⟨_, vs.toArray, _, hk, rfl, rfl, rfl, by rw [List.size_toArray, hi.length]; exact hz, by simpa using rv⟩)
  | none =>
    refine core (fun b => if b = a then some (.frz { cls := .type "list", data := .seq vs.toArray } (.lst (ns.map V.int))) else none) (fun b => ?_) (fun b u z => ?_) (fun b z => ?_) (fun _ => hk) (.inl (.inr ⟨{ cls := .type "list", data := .seq vs.toArray }, if_pos rfl⟩))
    · by_cases c : b = a
      · exact .inr ⟨_, _, if_pos c⟩
      · exact .inl (if_neg c)
    · by_cases c : b = a
      · cases (if_pos c).symm.trans z
        subst c
        exact ⟨ha, by rw [List.length_map]; exact hz, vs, _, rv, ha⟩
      · cases (if_neg c).symm.trans z
    · by_cases c : b = a
      · exact c
      · exact absurd (if_neg c) z
/-- the law's end -/
theorem walk_G {l : PySem.W.OpenLaw} {n k : Nat} {q : Program} {loose : List Str} {XP : (Str → Option Value) → Heap → Prop} {YP : World → Heap → Prop} {d : DefRec} {x : Str}
    (hn : l.most = some n) (hn2 : n ≤ sizeLine) (hdf : d.params.defaults = []) (hr : Room k callerA)
    (F : ∀ (w : World) (mg : Str → Option Value) (fa : Addr) (h : Heap), YP w h → h.Ns mainGlobals mg → mg d.name = some (.ref fa) →
      ∃ (K : PySem.W.Frag) (fd : FuncData) (sp : Sp), K.In h ∧ (∀ (s : Shared) (u : Value), BindsTo s fd ⟨[u], []⟩ [(x, u)]) ∧
        (∀ (H : Hp) (a : Addr) (ns : List Int), SqL K H a (ns.map V.int) → sp [.ref a] H (fun v _ => v = .bl true) L2.E0) ∧
        ∀ base : Heap, K.In base → base.Ns mainGlobals mg → FnOkG l.prog w K mg base k fa fd [x] sp) :
    PySem.W.WalkO q loose XP YP l.row.toRowW d [] (fun f vs => PySem.call f vs) :=
  Att.attach_call hn hdf fun w s₀ s₁ mg mb fa o pm cd doc a vs ns G Y ho hd hcd hmg hobj hints hlen hg => by
    obtain ⟨K, fd, sp, KX, hb, hsp, hF⟩ := F w mg fa _ Y G.T.g hmg
    exact law_callG KX G.T.g G.T.b G.T.builtins G.T.nolimit hg hobj hints (Nat.le_trans hlen hn2) hr hF (hb s₁ (.ref a)) fun H _ hS => hsp H a ns hS
end VF

set_option maxRecDepth 100000
set_option maxHeartbeats 4000000
/-! zip of two tuples. -/
namespace VF
set_option autoImplicit false
open PySem PySem.Spec PyProof.Rows L2
open AT (cells cellsL er ers)
def twoT : List D → Option (List D × List D)
  | [.tup ds, .tup es] => some (ds, es)
  | _ => none
theorem twoT_some {ds : List D} {p : List D × List D} (h : twoT ds = some p) : ds = [.tup p.1, .tup p.2] := by
  unfold twoT at h
  split at h
  · cases h; rfl
  · cases h
def dZipT (a : M (List RV)) : M (List D) := a.bind fun rs e => match frzRs rs e with
  | some (ds, e1) => (match twoT ds with
    | some (xs, ys) => .ok (zipD xs ys) e1
    | none => .st)
  | none => .st
section
variable {K : PySem.W.Frag} {mg : Str → Option Value} {F : Hp} {E : XS}
theorem it_zipT {a b : Addr} {vs ws : List V} {ds es : List D} (h : SqT K F a vs) (r : Reps K mg F vs ds) (h' : SqT K F b ws) (r' : Reps K mg F ws es) : ItOk K mg F (RZ.ItzT K a b) (zipD ds es) where
  go := fun i F1 H1 s s' hi => by
    have hi' : i < ds.length ∧ i < es.length := by simpa [zipD, Nat.lt_min] using hi
    have hv : i < vs.length := by rw [r.length]; exact hi'.1
    have hw : i < ws.length := by rw [r'.length]; exact hi'.2
    exact ⟨vs, ws, vs[i], ws[i], SqT_same (s.trans s') h, SqT_same (s.trans s') h', List.getElem?_eq_getElem hv, List.getElem?_eq_getElem hw⟩
  yld := fun i F1 H1 x H' s s' hi y => by
    obtain ⟨T, u, u', e1, hT, e2, y, y'⟩ := y
    subst e1 e2
    obtain ⟨d, hd, rd⟩ := r.getV (y vs (SqT_same (s.trans s') h))
    obtain ⟨d', hd', rd'⟩ := r'.getV (y' ws (SqT_same (s.trans s') h'))
    have sb := same_both (o := .tup [u, u']) s' hT
    refine ⟨upd F1 T (.tup [u, u']), .tup [d, d'], sb.1, sb.2, fun us g => g.newF s' hT, ?_, ⟨T, _, rfl, SqT.of upd_same, Rep.same (s.trans sb.1) rd, Rep.same (s.trans sb.1) rd', trivial⟩⟩
    unfold zipD
    rw [List.getElem?_map, (List.getElem?_zip_eq_some (z := (d, d'))).mpr ⟨hd, hd'⟩]
    rfl
  stop := fun i F1 H1 s s' hi => by
    have hi' : ds.length ≤ i ∨ es.length ≤ i := by
      have : min ds.length es.length ≤ i := by simpa [zipD] using hi
      omega
    exact ⟨vs, ws, SqT_same (s.trans s') h, SqT_same (s.trans s') h', by rw [r.length, r'.length]; exact hi'⟩
theorem si_zipT {ta : TA} {ma : M (List RV)} (ha : SA K mg E ta ma) : SI K mg E (RZ.iZipA K ta) (dZipT ma) := by
  intro pv F H σ e as held R0 c w
  refine ha pv F H σ e as held _ c (WA.bindI w fun r1 e1 v1 F1 H1 as1 tr1 s1 c1 rr1 w1 => ?_)
  cases q : frzRs r1 e1 with
  | none => simp only [q] at w1; exact w1.elim
  | some p =>
    obtain ⟨ds, e2⟩ := p
    simp only [q] at w1
    obtain ⟨F2, as2, s2, c2, rp⟩ := c1.frzRs rr1 q
    cases q2 : twoT ds with
    | none => simp only [q2] at w1; exact w1.elim
    | some xs =>
      obtain ⟨xs, ys⟩ := xs
      simp only [q2] at w1
      rw [twoT_some q2] at rp
      obtain ⟨v, v', e3, ⟨p, vs, ev, h1, h2⟩, ⟨p', vs', ev', h1', h2'⟩⟩ := reps2 rp
      subst ev ev'
      exact ⟨p, p', vs, vs', e3, .inr ⟨SqT_same c2.s h1, SqT_same c2.s h1', w1 _ F2 H1 as2 (s1.trans s2) c2 (it_zipT h1 h2 h1' h2')⟩⟩
end
section
variable {X : Cx} {E : XS} {a b : Expr} {pos : Pos} {mr : M (List RV)}
theorem i_zipT {p tpos : Pos} {elts : List Expr} {kk : Nat} (hg : Gl X "zip") (hm : X.mg "zip" = none) (ha : VA X E [a, b] mr)
    (h : ∀ {t : TA}, PA X [a, b] t → PI X (.Tuple elts kk tpos) (.Call (.Name "zip" p) [a, b] [] pos) (RZ.iZipA X.K t)) : VI X E (.Tuple elts kk tpos) (.Call (.Name "zip" p) [a, b] [] pos) (dZipT mr) := ⟨_, h ha, si_zipT sa_w⟩
end
end VF

set_option maxRecDepth 100000
set_option maxHeartbeats 4000000
/-! What the head tells of own error classes with an __init__. -/
namespace VF
set_option autoImplicit false
open PySem PySem.Spec PyProof.Rows L2
open NdefX (NF NScope)
/-! ### the Hook -/
def asZ (g : Addr → Option Obj) : Nat → List Addr
  | 0 => [mainGlobals, cStatics]
  | n + 1 => He.growD g (asZ g n)
abbrev FnZ : Type := Option (Str × Str × Arguments × FuncBody × Scope × Addr × List Str × Addr)
def iniAt (K : PySem.W.Frag) (x : Str) : Addr := match PySem.W.findIn K (.ref (He.ga K x)) "__init__" with
  | some (some (.ref f)) => f
  | _ => 0
def fnZ (K : PySem.W.Frag) (a : Addr) : FnZ := match K.lookup a with
  | some ⟨_, _, .func fd, _⟩ => some (fd.name, fd.qualname, fd.params, fd.body, fd.scope, fd.globals, fd.closure.map (·.1), fd.builtins)
  | _ => none
/-- an own class's __init__ that says super() -/
structure IniD where
  cls : Str
  qual : Str
  params : Arguments
  body : List Stmt
  scope : Scope
def IniD.val (d : IniD) : FnZ := some ("__init__", d.qual, d.params, .stmts d.body, d.scope, mainGlobals, ["__class__"], builtinsNs)
abbrev AlZ : Type := He.AlD × (Bool × List FnZ)
def obsZ (n : Nat) (fa : List He.Fa) (fn : List He.DefD) (ex : PySem.W.Frag → Bool) (ini : List IniD) (g : Addr → Option Obj) : AlZ :=
  (He.obsD fa fn (He.frG g (asZ g n)), ex (He.frG g (asZ g n)), ini.map fun d => fnZ (He.frG g (asZ g n)) (iniAt (He.frG g (asZ g n)) d.cls))
def valZ (fn : List He.DefD) (ini : List IniD) : AlZ := (He.valD fn, true, ini.map IniD.val)
structure SaysZ (fa : List He.Fa) (fn : List He.DefD) (ex : PySem.W.Frag → Bool) (ini : List IniD) (K : PySem.W.Frag) : Prop where
  d : He.SaysD fa fn K
  more : ex K = true
  ini : (ini.map fun d => fnZ K (iniAt K d.cls)) = ini.map IniD.val
def hookZ (n : Nat) (fa : List He.Fa) (fn : List He.DefD) (ex : PySem.W.Frag → Bool) (ini : List IniD) : PySem.W.Hook where
  α := AlZ
  obs := fun s => obsZ n fa fn ex ini s.heap.get?
  val := fun _ => valZ fn ini
  says := fun _ h => ∃ K : PySem.W.Frag, K.In h ∧ SaysZ fa fn ex ini K
  of := fun _ _ e => ⟨_, He.frG_in, ⟨congrArg (fun z : AlZ => z.1) e, congrArg (fun z : AlZ => z.2.1) e, congrArg (fun z : AlZ => z.2.2) e⟩⟩
  keeps := fun _ _ _ ⟨K, hK, c⟩ k => ⟨K, PySem.W.Frag.In.keeps hK k, c⟩
theorem obsZ_eq {n : Nat} {fa : List He.Fa} {fn : List He.DefD} {ex : PySem.W.Frag → Bool} {ini : List IniD} {g : Addr → Option Obj} {s : Shared} (h : ∀ a, g a = s.heap.get? a) : obsZ n fa fn ex ini g = (hookZ n fa fn ex ini).obs s := by
  have e : g = s.heap.get? := funext h
  rw [e] <;> rfl
theorem SaysZ.at {fa : List He.Fa} {fn : List He.DefD} {ex : PySem.W.Frag → Bool} {ini : List IniD} {K : PySem.W.Frag} (c : SaysZ fa fn ex ini K) (i : Nat) {d : IniD} (h : ini[i]? = some d := by rfl) : fnZ K (iniAt K d.cls) = d.val := by
  have e2 : (ini.map fun d => fnZ K (iniAt K d.cls))[i]? = (ini.map IniD.val)[i]? := by rw [c.ini]
  rw [List.getElem?_map, List.getElem?_map, h] at e2
  exact Option.some.inj e2
/-! ### Bools -/
theorem ba {a b : Bool} (h : (a && b) = true) : a = true ∧ b = true := Bool.and_eq_true_iff.mp h
def oexB (K : PySem.W.Frag) (C : Addr) : Bool := match K.lookup C with
  | some ⟨.type "type", _, .cls cd, sl⟩ => (match cd.mro, sl.toList with
    | .ref C' :: bm, [_, _, _, _, some (.builtin n), _] => decide (C' = C) && (decide (n = "ValueError.__new__") && (!cd.hasDel && (cd.hasDict && HandSPX.refsVE bm)))
    | _, _ => false)
  | _ => false
def oexB2 (K : PySem.W.Frag) (C : Addr) : Bool := decide (PySem.W.findIn K (.ref C) "__setattr__" = some (some (.builtin "object.__setattr__"))) && (decide (PySem.W.subIn K (.ref C) (.type "BaseException") = some true) && (decide (PySem.W.typeIn K (.ref C) = some (.type "type")) && PySem.W.keepIn K (.ref C)))
theorem oex_ok {K : PySem.W.Frag} {C : Addr} (h : oexB K C = true) (h' : oexB2 K C = true) : OexC K C := by
  obtain ⟨a1, h'⟩ := ba h'
  obtain ⟨a2, h'⟩ := ba h'
  obtain ⟨a3, a4⟩ := ba h'
  refine ⟨?_, of_decide_eq_true a1, of_decide_eq_true a2, of_decide_eq_true a3, a4⟩
  unfold oexB at h
  split at h
  · rename_i dd cd sl q
    split at h
    · rename_i C' bm k0 k1 k2 k3 n k5 hm hs
      obtain ⟨h1, h⟩ := ba h
      obtain ⟨h2, h⟩ := ba h
      obtain ⟨h3, h⟩ := ba h
      obtain ⟨h4, h5⟩ := ba h
      obtain ⟨nm, bs, mro, ns, qn, hd, sn, sub, ab, col, del⟩ := cd
      dsimp only at hm h3 h4
      have e1 := of_decide_eq_true h1
      have e2 := of_decide_eq_true h2
      have e3 : del = false := by simpa using h3
      subst e1 e2 e3 h4 hm
      have hsl : sl = #[k0, k1, k2, k3, some (.builtin "ValueError.__new__"), k5] := by
        obtain ⟨l⟩ := sl
        simp only at hs
        rw [hs]
      subst hsl
      exact ⟨nm, qn, ns, bs, bm, sn, sub, ab, col, dd, k0, k1, k2, k3, k5, q, h5⟩
    · cases h
  · cases h
def clsB (K : PySem.W.Frag) (C : Addr) : Bool := (PySem.W.clsIn K C).isSome
/-- the cell, the code object of the def at f -/
def cellB (P : Program) (K : PySem.W.Frag) (C f : Addr) (q : Str) : Bool := match K.lookup f with
  | some ⟨_, _, .func fd, _⟩ => (match fd.closure, fd.code, fd.defaults with
    | [(_, cc)], .ref cda, .none => PySem.W.codeIn K (.ref cda) q && ((match K.lookup cda with
      | some ⟨_, _, .fields vs, _⟩ => (match (vs[2]? : Option Value) with
        | some (Value.str file _) => ((P.main.file : Str) == file)
        | _ => false)
      | _ => false) && (match K.lookup cc with
      | some ⟨_, _, .cell (some (.ref D)), _⟩ => decide (D = C)
      | _ => false))
    | _, _, _ => false)
  | _ => false
def iniB (P : Program) (K : PySem.W.Frag) (C f : Addr) (q : Str) : Bool := oexB K C && (oexB2 K C && (cellB P K C f q && (clsB K C && (decide (PySem.W.mroIn K C (.ref C) = some true) && (!(P.main.scope.names.lookup ("super" : Str)).isSome && (decide (PySem.W.nsIn K cStatics "thirdparty.any" = some none) &&
  (decide (PySem.W.ks_superIn K C C "__init__" = some (some (.builtin "ValueError.__init__"))) && (decide (PySem.W.subIn K (.ref C) (.type "ValueError") = some true) && (decide (PySem.W.findIn K (.ref C) "__init__" = some (some (.ref f))) && decide (PySem.W.typeIn K (.ref f) = some (.type "function")))))))))))
theorem ini_ok {P : Program} {K : PySem.W.Frag} {mg : Str → Option Value} {C f : Addr} {d : IniD} (h : iniB P K C f d.qual = true) (e : fnZ K f = d.val) (hs : mg "super" = none) :
    ∃ (cc cda : Addr) (fd : FuncData) (oc kV doc pm ct : Value) (od an : Option Addr) (osl : Array (Option Value)), IniK P K mg C f cc cda ⟨"__init__", d.qual, d.params, d.body, d.scope, [(("__class__" : Str), cc)], cda⟩ ∧
      fd = PySem.W.fnX "__init__" d.qual d.params d.body d.scope [(("__class__" : Str), cc)] .none kV doc pm an (.ref cda) ct ∧ K.lookup f = some ⟨oc, od, .func fd, osl⟩ := by
  unfold iniB at h
  obtain ⟨h1, h⟩ := ba h
  obtain ⟨h2, h⟩ := ba h
  obtain ⟨h3, h⟩ := ba h
  obtain ⟨h4, h⟩ := ba h
  obtain ⟨h5, h⟩ := ba h
  obtain ⟨h6, h⟩ := ba h
  obtain ⟨h7, h⟩ := ba h
  obtain ⟨h8, h⟩ := ba h
  obtain ⟨h9, h⟩ := ba h
  obtain ⟨h10, h11⟩ := ba h
  unfold cellB at h3
  unfold fnZ at e
  cases q : K.lookup f with
  | none => rw [q] at h3; cases h3
  | some o =>
    obtain ⟨oc, od, dt, osl⟩ := o
    rw [q] at h3 e
    cases dt with
    | func fd =>
      obtain ⟨n1, n2, n3, n4, n5, n6, n7, n8, n9, n10, n11, n12, n13, n14, n15⟩ := fd
      have e2 : (some (n1, n2, n3, n4, n5, n6, n7.map (·.1), n15) : FnZ) = some (("__init__" : Str), d.qual, d.params, FuncBody.stmts d.body, d.scope, mainGlobals, [("__class__" : Str)], builtinsNs) := e
      simp only [Option.some.injEq, Prod.mk.injEq] at e2
      obtain ⟨r1, r2, r3, r4, r5, r6, r7, r8⟩ := e2
      subst r1 r2 r3 r4 r5 r6 r8
      dsimp only at h3
      match n7, n13, n8, h3, r7, q with
      | [(x, cc)], .ref cda, .none, h3, r7, q =>
        obtain ⟨k1, h3⟩ := ba h3
        obtain ⟨k2, k3⟩ := ba h3
        have ex : x = ("__class__" : Str) := by simpa using r7
        subst ex
        refine ⟨cc, cda, _, oc, n9, n10, n11, n14, od, n12, osl, ⟨oex_ok h1 h2, ⟨oc, od, .none, n9, n10, n11, n12, n14, osl, q⟩, k1, ?_, ?_, ?_, of_decide_eq_true h5, hs, by simpa using h6, of_decide_eq_true h7, of_decide_eq_true h8, of_decide_eq_true h9, of_decide_eq_true h10, of_decide_eq_true h11, rfl, rfl⟩, rfl, rfl⟩
        · split at k2
          · rename_i z1 z2 vs z3 z4
            split at k2
            · rename_i file tf z5
              exact ⟨_, _, vs, _, file, tf, z4, z5, k2⟩
            · cases k2
          · cases k2
        · split at k3
          · rename_i z1 z2 D z3 z4
            have := of_decide_eq_true k3
            subst this
            exact ⟨_, _, _, z4⟩
          · cases k3
        · exact Option.isSome_iff_exists.mp h4
    | _ => cases h3
/-! ### the error classes of a module -/
def ErrK (P : Program) (K : PySem.W.Frag) (mg : Str → Option Value) (C : Addr) (d : IniD) : Prop := ∃ (f cc cda : Addr) (fd : FuncData) (oc kV doc pm ct : Value) (od an : Option Addr) (osl : Array (Option Value)), IniK P K mg C f cc cda ⟨"__init__", d.qual, d.params, d.body, d.scope, [(("__class__" : Str), cc)], cda⟩ ∧
      fd = PySem.W.fnX "__init__" d.qual d.params d.body d.scope [(("__class__" : Str), cc)] .none kV doc pm an (.ref cda) ct ∧ K.lookup f = some ⟨oc, od, .func fd, osl⟩
theorem errK {P : Program} {K : PySem.W.Frag} {mg : Str → Option Value} {C f : Addr} {d : IniD} (h : iniB P K C f d.qual = true) (e : fnZ K f = d.val) (hs : mg "super" = none) : ErrK P K mg C d := ⟨f, ini_ok h e hs⟩
def clsFirst : Stmt → Stmt
  | .ClassDef _ _ _ b _ _ _ _ _ _ _ => b.getD 0 (.Pass ⟨0, 0, 0, 0⟩)
  | s => s
section
variable {P : Program} {w : World} {K : PySem.W.Frag} {mg : Str → Option Value} {base : Heap} {C : Addr} {d : IniD} {x f g : Str} {v1 v2 : Expr} {es : List Expr} {p0 p1 p2 pos pos' q0 q1 q2 q3 r0 r1 r2 r3 jp : Pos} {ar : Arg}
theorem errF1 (T : ErrK P K mg C d) (hg : mg x = some (.ref C)) (S : NScope [("self" : Str), f, "__class__"] [("self" : Str), f] [("__class__" : Str)] d.scope) (hp : (d.params.posonlyargs ++ d.params.args).head? = some ar) (har : ar.arg = "self") (hks : d.scope.names.lookup ("super" : Str) = some .globalImplicit)
    (hb : d.body = [.Expr (.Call (.Attribute (.Call (.Name "super" p0) [] [] p1) "__init__" p2) [.JoinedStr (v1 :: v2 :: es) jp] [] pos) pos', .Assign [.Attribute (.Name "self" q0) f q1] (.Name f q2) q3])
    {pl : PySem.Env → Sem Bool} (hev : ∀ env : PySem.Env, eval (.Call (.Attribute (.Call (.Name "super" p0) [] [] p1) "__init__" p2) [.JoinedStr (v1 :: v2 :: es) jp] [] pos) env = (do
      let ov ← attributeBase (.Call (.Name "super" p0) [] [] p1) "__init__" env (eval (.Call (.Name "super" p0) [] [] p1) env)
      standAt p2.atName
      let (f, first) ← holding [ov] (getMethod ov "__init__" (pl env))
      callWith pos f first (backTo pos (starEach [.JoinedStr (v1 :: v2 :: es) jp] env)) []))
    (hes : es.length ≤ 100) (hpt : ∀ (X : Cx), X.N = [("self" : Str), f, "__class__"] → X.env.scope = d.scope → Pts X [1] (v1 :: v2 :: es)) (hno : PySem.W.findIn K (.ref C) f = some none)
    (hbd : ∀ (cc cda : Addr) (kV doc pm ct : Value) (an : Option Addr) (us : List Value), us.length = 2 → bindArgs (PySem.W.fnX "__init__" d.qual d.params d.body d.scope [(("__class__" : Str), cc)] .none kV doc pm an (.ref cda) ct) ⟨us, []⟩ = pure ([("self" : Str), f].zip us))
    (hd1 : (f == ("__debug__" : Str)) = false := by decide) (hd2 : (f == ("__classdict__" : Str)) = false := by decide) : ErrF P w K mg base x C [f] := by
  obtain ⟨fI, cc, cda, fd, oc, kV, doc, pm, ct, od, an, osl, T, hfd, lk⟩ := T
  refine ⟨hg, T.T, fI, fd, T.iC, T.tI, .all fun us hl => ?_, ini1 (k := 0) T S hfd lk hp har hks hb hev hes hpt hno hd1 hd2⟩
  subst hfd
  exact hbd cc cda kV doc pm ct an us hl
theorem errF2 (T : ErrK P K mg C d) (hg : mg x = some (.ref C)) (S : NScope [("self" : Str), f, g, "__class__"] [("self" : Str), f, g] [("__class__" : Str)] d.scope) (hp : (d.params.posonlyargs ++ d.params.args).head? = some ar) (har : ar.arg = "self") (hks : d.scope.names.lookup ("super" : Str) = some .globalImplicit)
    (hb : d.body = [.Expr (.Call (.Attribute (.Call (.Name "super" p0) [] [] p1) "__init__" p2) [.JoinedStr (v1 :: v2 :: es) jp] [] pos) pos', .Assign [.Attribute (.Name "self" q0) f q1] (.Name f q2) q3, .Assign [.Attribute (.Name "self" r0) g r1] (.Name g r2) r3])
    {pl : PySem.Env → Sem Bool} (hev : ∀ env : PySem.Env, eval (.Call (.Attribute (.Call (.Name "super" p0) [] [] p1) "__init__" p2) [.JoinedStr (v1 :: v2 :: es) jp] [] pos) env = (do
      let ov ← attributeBase (.Call (.Name "super" p0) [] [] p1) "__init__" env (eval (.Call (.Name "super" p0) [] [] p1) env)
      standAt p2.atName
      let (f, first) ← holding [ov] (getMethod ov "__init__" (pl env))
      callWith pos f first (backTo pos (starEach [.JoinedStr (v1 :: v2 :: es) jp] env)) []))
    (hes : es.length ≤ 100) (hpt : ∀ (X : Cx), X.N = [("self" : Str), f, g, "__class__"] → X.env.scope = d.scope → Pts X [1, 2] (v1 :: v2 :: es)) (hno : PySem.W.findIn K (.ref C) f = some none) (hno2 : PySem.W.findIn K (.ref C) g = some none)
    (hbd : ∀ (cc cda : Addr) (kV doc pm ct : Value) (an : Option Addr) (us : List Value), us.length = 3 → bindArgs (PySem.W.fnX "__init__" d.qual d.params d.body d.scope [(("__class__" : Str), cc)] .none kV doc pm an (.ref cda) ct) ⟨us, []⟩ = pure ([("self" : Str), f, g].zip us))
    (hd1 : (f == ("__debug__" : Str)) = false := by decide) (hd2 : (f == ("__classdict__" : Str)) = false := by decide) (hd3 : (g == ("__debug__" : Str)) = false := by decide) (hd4 : (g == ("__classdict__" : Str)) = false := by decide) : ErrF P w K mg base x C [f, g] := by
  obtain ⟨fI, cc, cda, fd, oc, kV, doc, pm, ct, od, an, osl, T, hfd, lk⟩ := T
  refine ⟨hg, T.T, fI, fd, T.iC, T.tI, .all fun us hl => ?_, ini2 (k := 0) T S hfd lk hp har hks hb hev hes hpt hno hno2 hd1 hd2 hd3 hd4⟩
  subst hfd
  exact hbd cc cda kV doc pm ct an us hl
end
/-- what the clause takes -/
inductive CatT (K : PySem.W.Frag) (mg : Str → Option Value) (c : Value) : List Str → Prop
  | nil : CatT K mg c []
  | cons {y : Str} {C : Addr} {t : List Str} (g : mg y = some (.ref C)) (m : PySem.W.exmOne K (.ref C) c = some true) (r : CatT K mg c t) : CatT K mg c (y :: t)
theorem CatT.at {K : PySem.W.Frag} {mg : Str → Option Value} {c : Value} {t : List Str} (T : CatT K mg c t) {y : Str} {C : Addr} (h : y ∈ t) (g : mg y = some (.ref C)) : PySem.W.exmOne K (.ref C) c = some true := by
  induction T with
  | nil => cases h
  | @cons y' C' t g' m r ih =>
    rcases List.mem_cons.mp h with q | q
    · subst q
      rw [g] at g'
      cases g'
      exact m
    · exact ih q
def gOn (t : List Str) (h : Exc → Option SV) : Exc → Option SV := fun x => if x.c ∈ t then h x else none
theorem CatT.hm {K : PySem.W.Frag} {mg : Str → Option Value} {c : Value} {t : List Str} (T : CatT K mg c t) (h : Exc → Option SV) : ∀ (y : Exc) (s : SV) (C : Addr), gOn t h y = some s → mg y.c = some (.ref C) → PySem.W.exmOne K (.ref C) c = some true := fun y s C q g => by
  unfold gOn at q
  by_cases z : y.c ∈ t
  · exact T.at z g
  · rw [if_neg z] at q; cases q
theorem su_on {X : Cx} {i : Nat} {ss : List Stmt} {h : Exc → Option SV} (t : List Str) (H : SuB X i ss h) : SuB X i ss (gOn t h) := fun a x C pn s I q => by
  unfold gOn at q
  by_cases z : x.c ∈ t
  · rw [if_pos z] at q; exact H a x C pn s I q
  · rw [if_neg z] at q; cases q
/-! ### x *= e -/
def ipM : TIp := fun x y H Q => ∃ i j, x = .int i ∧ y = .int j ∧ CMul i j ∧ Q (.int (i * j)) H
theorem ip_mul {X : Cx} : PIp X .Mult ipM := by
  intro pins s σ H x y v u Q I r1 r2 h
  obtain ⟨i, j, rfl, rfl, c, q⟩ := h
  obtain ⟨t, rfl⟩ := r1
  obtain ⟨t', rfl⟩ := r2
  exact PySem.AutoIntOps.imul_0 ⟨.int _, H, I.tok _, ⟨_, rfl⟩, q⟩ c.ok
def dAugM (i : Nat) (a : M RV) : M Fl := fun e0 => match e0.sl[i]? with
  | some (some (.fz (.int x))) => (a e0).bind fun r e => match view e r with
    | some (.int y) => if (inB x 64 || inB y 64) = true then (match putR i (.fz (.int (x * y))) e with
      | some e' => .ok .nx e'
      | none => .st) else .st
    | _ => .st
  | _ => .st
theorem ss_augM {K : PySem.W.Frag} {mg : Str → Option Value} {E : XS} {i : Nat} {ta : TE} {ma : M RV} (ha : SE K mg E ta ma) : SS K mg E (tAug i ta ipM) (dAugM i ma) := by
  intro pv F H σ e as held D c w
  unfold dAugM at w
  cases z : e.sl[i]? with
  | none => simp only [z] at w; exact w.elim
  | some o =>
    cases o with
    | none => simp only [z] at w; exact w.elim
    | some s =>
      cases s with
      | fz d =>
        cases d with
        | int x =>
          simp only [z] at w
          refine ⟨.int x, slot_int c z, ?_⟩
          refine ha pv F H σ e as held _ c (WE.bindE (W := WS K mg pv F held E D) (fun z => z) w (fun _ _ z => z) fun r1 e1 v1 F1 H1 as1 tr1 s1 c1 rr1 w1 => ?_)
          cases q : view e1 r1 with
          | none => simp only [q] at w1; exact w1.elim
          | some y =>
            have p1 := c1.seen rr1 (fun t ht => List.mem_append_left _ ht) q
            cases y with
            | int y =>
              have ev : v1 = .int y := p1
              subst ev
              simp only [q] at w1
              by_cases hb : (inB x 64 || inB y 64) = true
              · rw [if_pos hb] at w1
                have cm : CMul x y := by
                  rcases Bool.or_eq_true_iff.mp hb with h | h
                  · exact .inl (of_decide_eq_true h)
                  · exact .inr (of_decide_eq_true h)
                cases q2 : putR i (.fz (.int (x * y))) e1 with
                | none => simp only [q2] at w1; exact w1.elim
                | some e2 =>
                  simp only [q2] at w1
                  have c2 : Cf K mg pv F1 H1 σ e1 as1 ([.fz (.int (x * y)) (.int (x * y))] ++ held) := c1.drop.fz (show Rep K mg F1 (.int (x * y)) (.int (x * y)) from rfl)
                  obtain ⟨F', as', s', c'⟩ := c2.putR (show RR σ (.int (x * y)) (.fz (.int (x * y))) [.fz (.int (x * y)) (.int (x * y))] from rfl) q2
                  exact ⟨x, y, rfl, rfl, cm, w1 _ F' H1 as' (s1.trans s') c'⟩
              · rw [if_neg hb] at w1; exact w1.elim
            | _ => simp only [q] at w1; exact w1.elim
        | _ => simp only [z] at w; exact w.elim
      | _ => simp only [z] at w; exact w.elim
theorem s_augM {X : Cx} {E : XS} {e : Expr} {me : M RV} {pos : Pos} {i : Nat} {x : Str} {p : Pos} (hN : X.N.Nodup) (hi : X.N[i]? = some x) (hx : Loc X.env.scope x) (he : VE X E e me) (hf : X.fn x = true ∨ X.env.scope.names.lookup x = some .local := by first | exact .inl rfl | exact .inr rfl | assumption) :
    VS X E (.AugAssign (.Name x p) .Mult e pos) (dAugM i me) := .mk (ps_aug hN hi hx he ip_mul hf) (ss_augM se_w)
theorem su_neg {X : Cx} {i : Nat} {k : Int} {j : Nat} {p pos : Pos} : SuE X i (.UnaryOp .USub (.Constant (.int k) j p) pos) (gC (.int (-k))) := fun a x C pn d I q => by
  cases q
  exact ⟨.int (-k), rfl, ⟨fun pins s σ H Q J h => (pe_un un_neg pe_int).run pins s σ H Q J ⟨k, rfl, h.2⟩⟩⟩
end VF

set_option maxRecDepth 100000
set_option maxHeartbeats 4000000
/-! a < b of lists of ints. -/
namespace VF
set_option autoImplicit false
open PySem PySem.Spec PyProof.Rows L2
def ltL : List Int → List Int → Bool
  | [], [] => false
  | [], _ :: _ => true
  | _ :: _, [] => false
  | x :: xs, y :: ys => if x = y then ltL xs ys else decide (x < y)
theorem firstLt_map {e r : Nat → Bool} {z : Bool} {f : Nat → Nat} : ∀ l : List Nat, SeqAt.firstLt e r z (l.map f) = SeqAt.firstLt (fun j => e (f j)) (fun j => r (f j)) z l
  | [] => rfl
  | j :: l => by
    show (if e (f j) = true then SeqAt.firstLt e r z (l.map f) else r (f j)) = if e (f j) = true then _ else _
    rw [firstLt_map l]
theorem firstLt_ltL : ∀ ns ms : List Int, SeqAt.firstLt (fun j => decide (ns.getD j 0 = ms.getD j 0)) (fun j => decide (ns.getD j 0 < ms.getD j 0)) (decide (ns.length < ms.length)) (List.range (min ns.length ms.length)) = ltL ns ms
  | [], [] => rfl
  | [], _ :: _ => by simp [SeqAt.firstLt, ltL]
  | _ :: _, [] => by simp [SeqAt.firstLt, ltL]
  | x :: xs, y :: ys => by
    have e : min (x :: xs).length (y :: ys).length = min xs.length ys.length + 1 := by simp [Nat.succ_min_succ]
    rw [e, List.range_succ_eq_map]
    show (if decide (x = y) = true then SeqAt.firstLt _ _ _ ((List.range (min xs.length ys.length)).map Nat.succ) else decide (x < y)) = if x = y then ltL xs ys else decide (x < y)
    rw [firstLt_map]
    by_cases q : x = y
    · rw [if_pos (decide_eq_true q), if_pos q, ← firstLt_ltL xs ys]
      have l : decide ((x :: xs).length < (y :: ys).length) = decide (xs.length < ys.length) := by
        apply decide_eq_decide.mpr; simp
      rw [l]
      simp
    · rw [if_neg (by simpa using q), if_neg q]
def rLtL (K : PySem.W.Frag) : R2 := fun x y H Q => ∃ (a b : Addr) (ns ms : List Int), x = .ref a ∧ y = .ref b ∧ SqL K H a (ns.map V.int) ∧ SqL K H b (ms.map V.int) ∧ Q (.bl (ltL ns ms)) H
theorem op_ltL {X : Cx} (hu : X.A.units < cLine) : OpR X (compareOp .Lt) (rLtL X.K) := by
  intro pins s σ H x y v u Q I rx ry h
  obtain ⟨a, b, ns, ms, rfl, rfl, ha, hb, q⟩ := h
  cases rx
  cases ry
  obtain ⟨its, r1, p1, _⟩ := I.list ha
  obtain ⟨its2, r2, p2, _⟩ := I.list hb
  have i1 : IntsAre its ns := Vals.ints r1
  have i2 : IntsAre its2 ms := Vals.ints r2
  have l1 : its.toArray.size = ns.length := by rw [List.size_toArray]; exact i1.length
  have l2 : its2.toArray.size = ms.length := by rw [List.size_toArray]; exact i2.length
  have g1 : ∀ j (h1 : j < its.toArray.size), ∃ t, its.toArray[j] = .int (ns.getD j 0) t := fun j h1 => PyProof.Rows.IntsAre.int_at i1 _ _ (by simp at h1; simp [h1])
  have g2 : ∀ j (h1 : j < its2.toArray.size), ∃ t, its2.toArray[j] = .int (ms.getD j 0) t := fun j h1 => PyProof.Rows.IntsAre.int_at i2 _ _ (by simp at h1; simp [h1])
  obtain ⟨o1, n1, z1, c1, d1, e1⟩ := p1
  obtain ⟨o2, n2, z2, c2, d2, e2⟩ := p2
  have R := SeqAt.RcLt.lists (A := X.A) (s := s) (e := fun j => decide (ns.getD j 0 = ms.getD j 0)) (r := fun j => decide (ns.getD j 0 < ms.getD j 0)) (l := a) (b := b) (items := its.toArray) (items2 := its2.toArray) ⟨o1, z1, c1, n1, e1⟩ ⟨o2, z2, c2, n2, e2⟩ hu (fun j h1 h2 => by
    obtain ⟨t, et⟩ := g1 j h1
    obtain ⟨t', et'⟩ := g2 j h2
    rw [et, et']
    have z : (ns.getD j 0 == ms.getD j 0) = decide (ns.getD j 0 = ms.getD j 0) := by
      by_cases q : ns.getD j 0 = ms.getD j 0
      · rw [decide_eq_true q]; exact beq_iff_eq.mpr q
      · rw [decide_eq_false q]; exact beq_eq_false_iff_ne.mpr q
    rw [← z]
    exact SeqAt.EqAt.int_int _ _ _ _) (fun j h1 h2 _ => by
    obtain ⟨t, et⟩ := g1 j h1
    obtain ⟨t', et'⟩ := g2 j h2
    rw [et, et']
    exact fun _ _ _ _ h => PyProof.Rows.lt_int h)
  rw [l1, l2, firstLt_ltL] at R
  have z : wpAny (model X.prog X.w) X.A (compareOp .Lt (.ref a) (.ref b)) (EP X pins σ Q) X.xe s := R X.prog X.w X.xe (EP X pins σ Q) ⟨.bl _, H, I, rfl, q⟩
  exact z
def intsD : List D → Option (List Int)
  | [] => some []
  | .int i :: ds => match intsD ds with
    | some is => some (i :: is)
    | none => none
  | _ => none
theorem intsD_some : ∀ {ds : List D} {is : List Int}, intsD ds = some is → ds = is.map D.int
  | [], is, h => by cases h; rfl
  | .int i :: ds, is, h => by
    unfold intsD at h
    cases z : intsD ds with
    | none => rw [z] at h; cases h
    | some js => rw [z] at h; cases h; rw [intsD_some z]; rfl
  | .non :: _, _, h => by cases h
  | .bl _ :: _, _, h => by cases h
  | .str _ :: _, _, h => by cases h
  | .ty _ :: _, _, h => by cases h
  | .lst _ :: _, _, h => by cases h
  | .tup _ :: _, _, h => by cases h
  | .dct _ _ :: _, _, h => by cases h
  | .obj _ _ _ :: _, _, h => by cases h
  | .scr _ :: _, _, h => by cases h
def fLtL : D → D → Option D := fun a b => match a, b with
  | .lst xs, .lst ys => (match intsD xs, intsD ys with
    | some is, some js => some (.bl (ltL is js))
    | _, _ => none)
  | _, _ => none
theorem opd_ltL {K : PySem.W.Frag} {mg : Str → Option Value} : OpD (rLtL K) K mg fLtL := by
  intro H x y a b d ra rb q
  cases a <;> first | (cases q; done) | skip
  cases b <;> first | (cases q; done) | skip
  rename_i xs ys
  unfold fLtL at q
  simp only at q
  cases z1 : intsD xs with
  | none => rw [z1] at q; cases q
  | some is =>
    cases z2 : intsD ys with
    | none => rw [z1, z2] at q; cases q
    | some js =>
      rw [z1, z2] at q
      cases q
      obtain ⟨p, vs, rfl, h1, h2⟩ := ra
      obtain ⟨p', vs', rfl, h1', h2'⟩ := rb
      rw [intsD_some z1] at h2
      rw [intsD_some z2] at h2'
      rw [Reps.ints h2] at h1
      rw [Reps.ints h2'] at h1'
      exact ⟨.bl (ltL is js), rfl, fun Q k => ⟨p, p', is, js, rfl, rfl, SqL.of h1, SqL.of h1', k⟩⟩
section
variable {X : Cx} {E : XS} {a b : Expr} {ma mb : M RV} {pos : Pos}
theorem v_ltL (hu : X.A.units + 64 < cLine) (ha : VE X E a ma) (hb : VE X E b mb) : VE X E (.Compare a [.Lt] [b] pos) (dOp fLtL ma mb) := .mk (pe_cmpR (op_ltL (by omega)) ha hb (nomark _)) (se_op opd_ltL se_w se_w)
theorem t_ltL (hu : X.A.units + 64 < cLine) (ha : VE X E a ma) (hb : VE X E b mb) : VT X E (.Compare a [.Lt] [b] pos) (dT (dOp fLtL ma mb)) := .mk (pt_cmpR (op_ltL (by omega)) ha hb (nomark _)) (st_test (se_op opd_ltL se_w se_w))
end
end VF

set_option maxRecDepth 100000
set_option maxHeartbeats 4000000
/-! Objects: an attribute read, an attribute stored. -/
namespace VF
set_option autoImplicit false
open PySem PySem.Spec PyProof.Rows L2
open AT (cells cellsL er ers)
/-! fields by their names -/
def putN (f : Str) : List Str → List Str
  | [] => [f]
  | n :: ns => if n = f then n :: ns else n :: putN f ns
def putX {α : Type} (f : Str) (y : α) : List Str → List α → List α
  | n :: ns, x :: xs => if n = f then y :: xs else x :: putX f y ns xs
  | _, _ => [y]
theorem putF_zip (f : Str) (y : V) : ∀ (ns : List Str) (vs : List V), ns.length = vs.length → putF f y (ns.zip vs) = (putN f ns).zip (putX f y ns vs)
  | [], [], _ => rfl
  | n :: ns, v :: vs, h => by
    have ih := putF_zip f y ns vs (by simpa using h)
    show (if n = f then (n, y) :: ns.zip vs else (n, v) :: putF f y (ns.zip vs)) = (if n = f then n :: ns else n :: putN f ns).zip (if n = f then y :: vs else v :: putX f y ns vs)
    by_cases c : n = f
    · rw [if_pos c, if_pos c, if_pos c]; rfl
    · rw [if_neg c, if_neg c, if_neg c, ih]; rfl
  | [], _ :: _, h => by cases h
  | _ :: _, [], h => by cases h
theorem putX_len {α : Type} (f : Str) (y : α) : ∀ (ns : List Str) (xs : List α), ns.length = xs.length → (putN f ns).length = (putX f y ns xs).length
  | [], [], _ => rfl
  | n :: ns, x :: xs, h => by
    have ih := putX_len f y ns xs (by simpa using h)
    show (if n = f then n :: ns else n :: putN f ns).length = (if n = f then y :: xs else x :: putX f y ns xs).length
    by_cases c : n = f
    · rw [if_pos c, if_pos c]; simpa using h
    · rw [if_neg c, if_neg c]; simp [ih]
  | [], _ :: _, h => by cases h
  | _ :: _, [], h => by cases h
theorem putX_map {α β : Type} (g : α → β) (f : Str) (y : α) : ∀ (ns : List Str) (xs : List α), (putX f y ns xs).map g = putX f (g y) ns (xs.map g)
  | [], _ => rfl
  | _ :: _, [] => rfl
  | n :: ns, x :: xs => by
    have ih := putX_map g f y ns xs
    show (if n = f then y :: xs else x :: putX f y ns xs).map g = if n = f then g y :: xs.map g else g x :: putX f (g y) ns (xs.map g)
    by_cases c : n = f
    · rw [if_pos c, if_pos c]; rfl
    · rw [if_neg c, if_neg c, ← ih]; rfl
theorem putX_perm {α : Type} (f : Str) (y : α) : ∀ (ns : List Str) (xs : List α), ns.length = xs.length → ∃ junk, (y :: xs).Perm (junk ++ putX f y ns xs)
  | [], [], _ => ⟨[], List.Perm.refl _⟩
  | n :: ns, x :: xs, h => by
    obtain ⟨junk, ih⟩ := putX_perm f y ns xs (by simpa using h)
    show ∃ junk, (y :: x :: xs).Perm (junk ++ if n = f then y :: xs else x :: putX f y ns xs)
    by_cases c : n = f
    · rw [if_pos c]; exact ⟨[x], List.Perm.swap _ _ _⟩
    · rw [if_neg c]
      refine ⟨junk, (List.Perm.swap _ _ _).trans ((ih.cons x).trans ?_)⟩
      exact List.perm_middle.symm
  | [], _ :: _, h => by cases h
  | _ :: _, [], h => by cases h
section
variable {K : PySem.W.Frag} {mg : Str → Option Value} {pv : List (Nat × V)} {F F' H H' : Hp} {σ : L2.St} {e e' : Env} {as as' : List (Option AT)} {held tr ts us : List AT} {E : XS}
/-- the classes whose attribute f is read and stored as it is -/
def ClsF (K : PySem.W.Frag) (mg : Str → Option Value) (cs : List Str) (f : Str) : Prop := ∀ c ∈ cs, ∀ C, mg c = some (.ref C) → L2.Cls K C ∧ NoAttr K C f
def fldD (cs : List Str) (f : Str) : D → Option D
  | .obj c ns xs => if c ∈ cs then (ns.zip xs).lookup f else none
  | _ => none
def fldS (cs : List Str) (f : Str) : SV → Option D
  | .fz d => fldD cs f d
  | .oo c ns xs => if c ∈ cs then (match (ns.zip xs).lookup f with
    | some (.fz d) => some d
    | _ => none) else none
  | _ => none
def fldR (cs : List Str) (f : Str) (e : Env) : RV → Option D
  | .fz d => fldD cs f d
  | .own s => fldS cs f s
  | .var j => match e.sl[j]? with
    | some (some s) => fldS cs f s
    | _ => none
/-- a.f -/
def dFld (cs : List Str) (f : Str) (a : M RV) : M RV := a.bind fun r e => match fldR cs f e r with
  | some d => .ok (.fz d) e
  | none => .st
theorem look_reps (f : Str) : ∀ {ns : List Str} {vs : List V} {ds : List D} {d : D}, Reps K mg F vs ds → (ns.zip ds).lookup f = some d → ∃ v, (ns.zip vs).lookup f = some v ∧ Rep K mg F v d
  | n :: ns, v :: vs, x :: ds, d, ⟨h1, h2⟩, q => by
    rw [List.zip_cons_cons, List.lookup_cons] at q ⊢
    cases z : (f == n) with
    | true => rw [z] at q; cases q; exact ⟨v, rfl, h1⟩
    | false => rw [z] at q; exact look_reps f h2 q
  | [], _, _, _, _, q => by simp at q
  | _ :: _, [], [], _, _, q => by simp at q
  | _ :: _, [], _ :: _, _, h, _ => h.elim
  | _ :: _, _ :: _, [], _, h, _ => h.elim
theorem look_ers (f : Str) : ∀ {ns : List Str} {xs : List AT} {s : SV}, (ns.zip (ers xs)).lookup f = some s → ∃ t ∈ xs, er t = s ∧ (ns.zip (vals xs)).lookup f = some t.val
  | n :: ns, x :: xs, s, q => by
    rw [show ers (x :: xs) = er x :: ers xs from rfl, List.zip_cons_cons, List.lookup_cons] at q
    rw [show vals (x :: xs) = x.val :: vals xs from rfl, List.zip_cons_cons, List.lookup_cons]
    cases z : (f == n) with
    | true => rw [z] at q; cases q; exact ⟨x, List.mem_cons_self, rfl, rfl⟩
    | false =>
      rw [z] at q
      obtain ⟨t, h1, h2, h3⟩ := look_ers f q
      exact ⟨t, List.mem_cons_of_mem _ h1, h2, h3⟩
  | [], _, _, q => by simp at q
  | _ :: _, [], _, q => by simp [ers] at q
/-- what tFld asks of the object -/
def rFld (K : PySem.W.Frag) (f : Str) (x : V) (H : Hp) (Q : VK) : Prop := ∃ a C dx fs v, x = .ref a ∧ H a = some (.ins C dx fs) ∧ L2.Cls K C ∧ NoAttr K C f ∧ fs.lookup f = some v ∧ Q v H
theorem fld_data {cs : List Str} {f : Str} (hc : ClsF K mg cs f) {v : V} {d x : D} (s : Same F H) (h : Rep K mg F v d) (q : fldD cs f d = some x) : ∃ y, Rep K mg F y x ∧ ∀ Q : VK, Q y H → rFld K f v H Q := by
  cases d with
  | obj c ns ds =>
    obtain ⟨p, C, dx, vs, e, h0, h1, h3, h2⟩ := h
    subst e
    have q' : (if c ∈ cs then (ns.zip ds).lookup f else none) = some x := q
    by_cases m : c ∈ cs
    · rw [if_pos m] at q'
      obtain ⟨y, hy, ry⟩ := look_reps f h2 q'
      obtain ⟨k1, k2⟩ := hc c m C h0
      exact ⟨y, ry, fun Q k => ⟨p, C, dx, _, y, rfl, s _ _ h1, k1, k2, hy, k⟩⟩
    · rw [if_neg m] at q'; cases q'
  | _ => cases q
theorem fld_tree {cs : List Str} {f : Str} (hc : ClsF K mg cs f) {t : AT} {x : D} (g : Good K mg F H us) (hm : t ∈ us) (s : Same F H) (q : fldS cs f (er t) = some x) : ∃ y, Rep K mg F y x ∧ ∀ Q : VK, Q y H → rFld K f t.val H Q := by
  have ok := Oks.mem.mp g.ok t hm
  cases t with
  | fz v d => exact fld_data hc s ok q
  | oo p C dx c ns xs =>
    have hp : H p = some (.ins C dx (ns.zip (vals xs))) := (g.at_ (p, .ins C dx (ns.zip (vals xs))) (by rw [cellsL_eq]; exact List.mem_flatMap.mpr ⟨_, hm, List.mem_cons_self⟩)).1
    obtain ⟨o1, o2, o3⟩ := (show mg c = some (.ref C) ∧ ns.length = xs.length ∧ Oks K mg F xs from ok)
    have q' : (if c ∈ cs then (match (ns.zip (ers xs)).lookup f with | some (.fz d) => some d | _ => none) else none) = some x := q
    by_cases m : c ∈ cs
    · rw [if_pos m] at q'
      cases z : (ns.zip (ers xs)).lookup f with
      | none => rw [z] at q'; cases q'
      | some w =>
        rw [z] at q'
        cases w with
        | fz d =>
          cases q'
          obtain ⟨t, h1, h2, h3⟩ := look_ers f z
          cases t with
          | fz v d' =>
            have ed : d' = x := by simpa [er] using h2
            subst ed
            obtain ⟨k1, k2⟩ := hc c m C o1
            exact ⟨v, Oks.mem.mp o3 _ h1, fun Q k => ⟨p, C, dx, _, v, rfl, hp, k1, k2, h3, k⟩⟩
          | ol _ _ => simp [er] at h2
          | oo _ _ _ _ _ _ => simp [er] at h2
          | od _ _ _ => simp [er] at h2
        | ol _ => cases q'
        | oo _ _ _ => cases q'
        | od _ _ => cases q'
    · rw [if_neg m] at q'; cases q'
  | ol _ _ => cases q
  | od _ _ _ => cases q
theorem Cf.fld {cs : List Str} {f : Str} (hc : ClsF K mg cs f) {v : V} {r : RV} {x : D} (c : Cf K mg pv F H σ e as held) (h : RR σ v r tr) (hm : ∀ t ∈ tr, t ∈ held) (q : fldR cs f e r = some x) : ∃ y, Rep K mg F y x ∧ ∀ Q : VK, Q y H → rFld K f v H Q := by
  cases r with
  | fz d =>
    have e1 : tr = [.fz v d] := h
    subst e1
    exact fld_tree hc (t := .fz v d) c.g (List.mem_append_right _ (hm _ List.mem_cons_self)) c.s q
  | own s =>
    obtain ⟨t, e1, e2, e3⟩ := h
    subst e1 e2 e3
    exact fld_tree hc c.g (List.mem_append_right _ (hm _ List.mem_cons_self)) c.s q
  | var j =>
    obtain ⟨_, hv⟩ := h
    have q' : (match e.sl[j]? with | some (some s) => fldS cs f s | _ => none) = some x := q
    cases z : e.sl[j]? with
    | none => rw [z] at q'; cases q'
    | some o =>
      cases o with
      | none => rw [z] at q'; cases q'
      | some s =>
        rw [z] at q'
        obtain ⟨t, ht, e5⟩ := c.r.slotOf z
        have hv2 := c.r.at_ j t ht
        rw [hv] at hv2
        have e6 : v = t.val := by simpa using hv2
        subst e5 e6
        exact fld_tree hc c.g (List.mem_append_left _ (mem_opts ht)) c.s q'
theorem se_fld {cs : List Str} {f : Str} {ta : TE} {ma : M RV} (hc : ClsF K mg cs f) (ha : SE K mg E ta ma) : SE K mg E (tFld K ta f) (dFld cs f ma) := by
  intro pv F H σ e as held Q c w
  refine ha pv F H σ e as held _ c (WE.bindE (W := WE K mg pv F held σ Q E) (fun z => z) w (fun _ _ z => z) fun r1 e1 v1 F1 H1 as1 tr1 s1 c1 rr1 w1 => ?_)
  have w2 : WE K mg pv F held σ Q E (match fldR cs f e1 r1 with
    | some d => .ok (.fz d) e1
    | none => .st) := w1
  cases q : fldR cs f e1 r1 with
  | none => rw [q] at w2; exact w2.elim
  | some d =>
    rw [q] at w2
    obtain ⟨y, ry, k⟩ := c1.fld hc rr1 (fun t ht => List.mem_append_left _ ht) q
    exact k Q (w2 y F1 H1 as1 _ s1 (c1.drop.fz ry) rfl)
/-! an attribute stored -/
theorem Good.reins {p C dx : Addr} {c : Str} {ns ns' : List Str} {xs ys zs junk : List AT} (g : Good K mg F H (.oo p C dx c ns xs :: us)) (pm : (xs ++ us).Perm (junk ++ (ys ++ zs))) (hl : ns'.length = ys.length) : Good K mg F (upd H p (.ins C dx (ns'.zip (vals ys)))) (.oo p C dx c ns' ys :: zs) := by
  have nd : (((p, HO.ins C dx (ns.zip (vals xs))) :: (cellsL xs ++ cellsL us)).map (·.1)).Nodup := g.nd
  rw [List.map_cons, List.nodup_cons, ← cellsL_append] at nd
  have okx : mg c = some (.ref C) ∧ ns.length = xs.length ∧ Oks K mg F xs := g.ok.1
  have g1 : Good K mg F H (xs ++ us) := ⟨fun c hc => g.at_ c (List.mem_cons_of_mem _ (by rw [cellsL_append] at hc; exact hc)), Oks.append.mpr ⟨okx.2.2, g.ok.2⟩, nd.2⟩
  have g2 : Good K mg F H (ys ++ zs) := (g1.perm pm).sub
  have mem : ∀ c ∈ cellsL (ys ++ zs), c ∈ cellsL (xs ++ us) := fun c hc => (cellsL_perm pm).mem_iff.mpr (by rw [cellsL_append]; exact List.mem_append_right _ hc)
  have hp : ∀ c ∈ cellsL (ys ++ zs), c.1 ≠ p := fun c hc q => nd.1 (List.mem_map.mpr ⟨c, mem c hc, q⟩)
  have ok := Oks.append.mp g2.ok
  have hF : F p = none := (g.at_ (p, .ins C dx (ns.zip (vals xs))) List.mem_cons_self).2
  refine ⟨fun c hc => ?_, ⟨⟨okx.1, hl, ok.1⟩, ok.2⟩, ?_⟩
  · have hc' : c ∈ (p, HO.ins C dx (ns'.zip (vals ys))) :: (cellsL ys ++ cellsL zs) := hc
    rcases List.mem_cons.mp hc' with e | hc'
    · subst e; exact ⟨upd_same, hF⟩
    · rw [← cellsL_append] at hc'
      rw [upd_ne (hp c hc')]
      exact g2.at_ c hc'
  · show (((p, HO.ins C dx (ns'.zip (vals ys))) :: (cellsL ys ++ cellsL zs)).map (·.1)).Nodup
    rw [List.map_cons, List.nodup_cons, ← cellsL_append]
    exact ⟨fun q => by obtain ⟨c, hc, ec⟩ := List.mem_map.mp q; exact hp c hc ec, g2.nd⟩
theorem er_oo {t : AT} {c : Str} {ns : List Str} {xs : List SV} (h : er t = .oo c ns xs) : ∃ p C dx ys, t = .oo p C dx c ns ys ∧ ers ys = xs := by
  cases t with
  | oo p C dx c' ns' ys =>
    have h' : SV.oo c' ns' (ers ys) = .oo c ns xs := h
    injection h' with h1 h2 h3
    subst h1 h2
    exact ⟨p, C, dx, ys, rfl, h3⟩
  | fz _ _ => simp [er] at h
  | ol _ _ => simp [er] at h
  | od _ _ _ => simp [er] at h
theorem Cf.ownO {i : Nat} {cl : Str} {ns : List Str} {xs : List SV} (c : Cf K mg pv F H σ e as held) (z : e.sl[i]? = some (some (.oo cl ns xs))) :
    ∃ p C dx ys, as[i]? = some (some (.oo p C dx cl ns ys)) ∧ ers ys = xs ∧ σ[i]? = some (some (.ref p)) ∧ H p = some (.ins C dx (ns.zip (vals ys))) ∧ F p = none ∧ mg cl = some (.ref C) ∧ ns.length = ys.length := by
  obtain ⟨t, ht, et⟩ := c.r.slotOf z
  obtain ⟨p, C, dx, ys, rfl, ey⟩ := er_oo et
  have g := c.take ht
  have a := g.at_ (p, .ins C dx (ns.zip (vals ys))) List.mem_cons_self
  have o : mg cl = some (.ref C) ∧ ns.length = ys.length ∧ Oks K mg F ys := g.ok.1
  exact ⟨p, C, dx, ys, ht, ey, c.r.at_ i _ ht, a.1, a.2, o.1, o.2.1⟩
/-- its attributes are changed -/
theorem Cf.reins {i : Nat} {p C dx : Addr} {cl : Str} {ns ns' : List Str} {xs ys zs junk : List AT} (c : Cf K mg pv F H σ e as us) (h : as[i]? = some (some (.oo p C dx cl ns xs))) (pm : (xs ++ us).Perm (junk ++ (ys ++ zs))) (hl : ns'.length = ys.length) :
    Cf K mg pv F (upd H p (.ins C dx (ns'.zip (vals ys)))) σ (e.setS i (.oo cl ns' (ers ys))) (as.set i (some (.oo p C dx cl ns' ys))) zs := by
  have g := c.take h
  have g2 : Good K mg F (upd H p (.ins C dx (ns'.zip (vals ys)))) (.oo p C dx cl ns' ys :: (opts (as.set i none) ++ zs)) := by
    refine g.reins (junk := junk) ?_ hl
    exact (pswap _ _ _).trans ((pm.append_left _).trans ((pswap _ _ _).trans (List.Perm.append_left _ (pswap _ _ _))))
  exact Cf.put (t' := .oo p C dx cl ns' ys) c.r h (same_own c.s (g.at_ (p, .ins C dx (ns.zip (vals xs))) List.mem_cons_self).2) g2 rfl
/-- a value that is to stand in an object: data, or (b) a new tree as it is -/
def keepR (b : Bool) (r : RV) (e : Env) : Option (SV × Env) := match b, r with
  | true, .own s => some (s, e)
  | _, _ => (frzR r e).map fun p => (.fz p.1, p.2)
theorem Cf.keepR {b : Bool} {v : V} {r : RV} {s : SV} {e' : Env} (c : Cf K mg pv F H σ e as (tr ++ held)) (h : RR σ v r tr) (q : keepR b r e = some (s, e')) :
    ∃ F' as' t, Same F F' ∧ Cf K mg pv F' H σ e' as' (t :: held) ∧ t.val = v ∧ er t = s := by
  have gen : (VF.frzR r e).map (fun p => (SV.fz p.1, p.2)) = some (s, e') → ∃ F' as' t, Same F F' ∧ Cf K mg pv F' H σ e' as' (t :: held) ∧ t.val = v ∧ er t = s := by
    intro q
    cases z : VF.frzR r e with
    | none => rw [z] at q; cases q
    | some p =>
      obtain ⟨d, e1⟩ := p
      rw [z] at q
      cases q
      obtain ⟨F', as', s1, c1, rp⟩ := c.frzR h z
      exact ⟨F', as', .fz v d, s1, c1.fz rp, rfl, rfl⟩
  cases b with
  | false => exact gen q
  | true =>
    cases r with
    | own s' =>
      have q' : some (s', e) = some (s, e') := q
      cases q'
      obtain ⟨t, e1, e2, e3⟩ := h
      subst e1
      exact ⟨F, as, t, Same.refl _, c, e2, e3⟩
    | fz d => exact gen q
    | var i => exact gen q
/-- x.f = e, the object one's own -/
def dSetF (b : Bool) (cs : List Str) (f : Str) (j : Nat) (a : M RV) : M Fl := a.bind fun r e => match keepR b r e with
  | some (s, e1) => (match e1.sl[j]? with
    | some (some (.oo c ns xs)) => if c ∈ cs ∧ ns.length < 1000 then .ok .nx (e1.setS j (.oo c (putN f ns) (putX f s ns xs))) else .st
    | _ => .st)
  | none => .st
theorem ss_setF {b : Bool} {cs : List Str} {f : Str} {j : Nat} {ta : TE} {ma : M RV} (hc : ClsF K mg cs f) (ha : SE K mg E ta ma) : SS K mg E (sFld K (tVar j) ta f) (dSetF b cs f j ma) := by
  intro pv F H σ e as held D c w
  refine ha pv F H σ e as held _ c (WE.bindE (W := WS K mg pv F held E D) (fun z => z) w (fun _ _ z => z) fun r1 e1 v1 F1 H1 as1 tr1 s1 c1 rr1 w1 => ?_)
  have w2 : WS K mg pv F held E D (match keepR b r1 e1 with
    | some (s, e1) => (match e1.sl[j]? with
      | some (some (.oo c ns xs)) => if c ∈ cs ∧ ns.length < 1000 then .ok .nx (e1.setS j (.oo c (putN f ns) (putX f s ns xs))) else .st
      | _ => .st)
    | none => .st) := w1
  cases q : keepR b r1 e1 with
  | none => rw [q] at w2; exact w2.elim
  | some pr =>
    obtain ⟨s, e2⟩ := pr
    simp only [q] at w2
    obtain ⟨F2, as2, t, s2, c2, tv, te⟩ := c1.keepR rr1 q
    cases z : e2.sl[j]? with
    | none => simp only [z] at w2; exact w2.elim
    | some o =>
      cases o with
      | none => simp only [z] at w2; exact w2.elim
      | some sv =>
        cases sv with
        | oo cl ns xs =>
          simp only [z] at w2
          obtain ⟨p, C, dx, ys, h2, ey, hv2, hp2, _, hC, hl⟩ := c2.ownO z
          by_cases m : cl ∈ cs ∧ ns.length < 1000
          · rw [if_pos m] at w2
            obtain ⟨k1, k2⟩ := hc cl m.1 C hC
            have lv : ns.length = (vals ys).length := by rw [hl]; exact (List.length_map _).symm
            refine ⟨.ref p, hv2, p, C, dx, _, rfl, hp2, k1, k2, by rw [List.length_zip]; omega, ?_⟩
            obtain ⟨junk, pj⟩ := putX_perm f t ns ys hl
            have c3 := c2.reins (ns' := putN f ns) (ys := putX f t ns ys) (zs := held) (junk := junk) h2 (by
              refine (List.perm_middle (l₁ := ys) (l₂ := held) (a := t)).trans ?_
              have := pj.append_right held
              rw [List.append_assoc] at this
              exact this) (putX_len f t ns ys hl)
            have ev : vals (putX f t ns ys) = putX f v1 ns (vals ys) := by unfold vals; rw [putX_map, tv]
            have ee : ers (putX f t ns ys) = putX f s ns xs := by rw [ers_eq, putX_map, te, ← ers_eq, ey]
            rw [ev, ee, ← putF_zip f v1 ns (vals ys) lv] at c3
            exact w2 σ F2 _ _ (s1.trans s2) c3
          · rw [if_neg m] at w2; exact w2.elim
        | _ => simp only [z] at w2; exact w2.elim
end
section
variable {X : Cx} {E : XS} {a : Expr} {ma : M RV} {pos : Pos}
theorem v_fld {cs : List Str} {f : Str} (hc : ClsF X.K X.mg cs f) (ha : VE X E a ma) (hb : attributeBase a f X.env (eval a X.env) = eval a X.env := by rfl) : VE X E (.Attribute a f pos) (dFld cs f ma) := .mk (pe_fld ha hb) (se_fld hc se_w)
theorem s_setF {b : Bool} {cs : List Str} {f : Str} {j : Nat} {x : Str} {p p1 : Pos} (hc : ClsF X.K X.mg cs f) (hN : X.N[j]? = some x) (hv : Vis X.env.scope x) (ha : VE X E a ma)
    (hs : swapsWith a (some (.Attribute (.Name x p) f p1)) pos.line X.env = pure false := by rfl) (hd : (x == ("__debug__" : Str)) = false := by decide) (hcd : (x == ("__classdict__" : Str)) = false := by decide) :
    VS X E (.Assign [.Attribute (.Name x p) f p1] a pos) (dSetF b cs f j ma) := .mk (ps_fld (pe_var hN hv hd hcd) ha hs) (ss_setF hc se_w)
end
end VF

set_option maxRecDepth 100000
set_option maxHeartbeats 4000000
/-! Objects: C(..), o.m(..) of defs that raise nothing. -/
namespace VF
set_option autoImplicit false
open PySem PySem.Spec PyProof.Rows L2
open AT (cells cellsL er ers)
/-- a class's statement -/
def clsNth (k : Nat) : Stmt → Stmt
  | .ClassDef _ _ _ b _ _ _ _ _ _ _ => b.getD k (.Pass ⟨0, 0, 0, 0⟩)
  | s => s
section
variable {K : PySem.W.Frag} {mg : Str → Option Value} {pv : List (Nat × V)} {F F' H H' : Hp} {σ : L2.St} {e e' : Env} {as as' : List (Option AT)} {held tr ts us : List AT} {E : XS}
/-- C(..): the new object is handed to __init__ -/
def dMake (c : Str) (md : List Bool) (φ : Fn) (a : M (List RV)) : M RV := a.bind fun rs e => match load md rs e with
  | some (ss, e1) => (match φ (.oo c [] [] :: ss) with
    | .ok (.fz .non) (o :: ss') => (match unload md rs ss' e1 with
      | some e2 => .ok (svR o) e2
      | none => .st)
    | .ex x (_ :: ss') => (match unload md rs ss' e1 with
      | some e2 => .ex x e2
      | none => .st)
    | _ => .st)
  | none => .st
theorem Good.newO {x dx C : Addr} {c : Str} (g : Good K mg F H us) (s : Same F H) (hC : mg c = some (.ref C)) (hx : H x = none) (hd : H dx = none) (ne : dx ≠ x) :
    Same F (upd (upd H dx (.own x)) x (.ins C dx [])) ∧ Good K mg F (upd (upd H dx (.own x)) x (.ins C dx [])) (.oo x C dx c [] [] :: us) := by
  have hx1 : upd H dx (.own x) x = none := by rw [upd_ne ne.symm]; exact hx
  have s1 : Same F (upd H dx (.own x)) := s.trans (same_new hd)
  have s2 : Same F (upd (upd H dx (.own x)) x (.ins C dx [])) := s1.trans (same_new hx1)
  have g2 : Good K mg F (upd (upd H dx (.own x)) x (.ins C dx [])) us := (g.grow hd).grow hx1
  refine ⟨s2, fun p hp => ?_, ⟨⟨hC, rfl, trivial⟩, g.ok⟩, ?_⟩
  · have hp' : p ∈ (x, HO.ins C dx []) :: cellsL us := hp
    rcases List.mem_cons.mp hp' with q | q
    · subst q; exact ⟨upd_same, s.free hx⟩
    · exact g2.at_ p q
  · show (((x, HO.ins C dx []) :: cellsL us).map (·.1)).Nodup
    rw [List.map_cons, List.nodup_cons]
    refine ⟨fun q => ?_, g.nd⟩
    obtain ⟨p, hp, ep⟩ := List.mem_map.mp q
    exact (ne_of_none (g.at_ p hp).1 hx) ep
/-- C(..): a new instance and its dict, then __init__; what is wished of an exception, by the slots -/
def tMakeS (C : Addr) (sp : Sp) (E : L2.St → XK) (t : TA) : TE := fun σ H Q => t σ H fun vs H1 => ∀ x dx, H1 x = none → H1 dx = none → dx ≠ x →
  sp (.ref x :: vs) (upd (upd H1 dx (.own x)) x (.ins C dx [])) (fun v H2 => v = .non ∧ Q (.ref x) H2) (E σ)
theorem se_make {c : Str} {C : Addr} {md : List Bool} {φ : Fn} {ta : TA} {ma : M (List RV)} (hC : mg c = some (.ref C)) (ha : SA K mg E ta ma) : SE K mg E (tMakeS C (spF K mg (md.length + 1) φ) (fun σ cls d H => E cls d σ H) ta) (dMake c md φ ma) := by
  intro pv F H σ e as held Q c0 w
  refine ha pv F H σ e as held _ c0 (WA.bindA (W := WE K mg pv F held σ Q E) (fun z => z) w (fun _ _ z => z) fun rs e1 vs F1 H1 as1 tr1 s1 c1 rr1 w1 => ?_)
  intro x dx hx hd ne
  cases q : load md rs e1 with
  | none => simp only [q] at w1; exact w1.elim
  | some p =>
    obtain ⟨ss, e2⟩ := p
    simp only [q] at w1
    obtain ⟨F2, as2, ts, s2, c2, ev, es⟩ := c1.load rr1 q
    have lt : ts.length = md.length := by
      rw [← load_len q, ← rr1.length, ← ev]; exact (List.length_map _).symm
    obtain ⟨s3, g3⟩ := (c2.g.perm (pswap _ _ _)).newO c2.s hC hx hd ne
    refine ⟨F2, .oo x C dx c [] [] :: ts, opts as2 ++ held, by rw [← ev]; rfl, by rw [List.length_cons, lt], s3, g3, ?_⟩
    rw [show ers (.oo x C dx c [] [] :: ts) = .oo c [] [] :: ers ts from rfl, es]
    cases q2 : φ (.oo c [] [] :: ss) with
    | st => simp only [q2] at w1; exact w1.elim
    | ex xx ss' =>
      simp only [q2] at w1
      intro cls d F3 H3 ts' s4 s5 rx hn evs ess g
      match ss', w1 with
      | [], w1 => exact w1.elim
      | o :: ss', w1 =>
        cases ts' with
        | nil => cases evs
        | cons t0 ts' =>
          have e1' : ers ts' = ss' := by injection ess
          have v1 : vals ts' = vs := by injection evs
          have g' : Good K mg F3 H3 (ts' ++ (opts as2 ++ held)) := g.tail
          cases q3 : unload md rs ss' e2 with
          | none => simp only [q3] at w1; exact w1.elim
          | some e3 =>
            simp only [q3] at w1
            have c3 : Cf K mg pv F3 H3 σ e2 as2 (ts' ++ held) := ⟨s5, c2.r, g'.perm (pswap _ _ _)⟩
            obtain ⟨as3, c4⟩ := c3.unload rr1 v1 e1' q3
            exact w1 cls d F3 H3 σ as3 ((s1.trans s2).trans s4) c4 rx fun dd q => none_le (s1.trans s2) (hn dd q)
    | ok r ss' =>
      simp only [q2] at w1
      intro v F3 H3 t ts' s4 s5 et er' evs ess g
      match r, ss', w1 with
      | .fz .non, o :: ss', w1 =>
        cases ts' with
        | nil => cases evs
        | cons t0 ts' =>
          have e0 : er t0 = o := by injection ess
          have e1' : ers ts' = ss' := by injection ess
          have v0 : t0.val = .ref x := by injection evs
          have v1 : vals ts' = vs := by injection evs
          have g' : Good K mg F3 H3 (t0 :: (ts' ++ (opts as2 ++ held))) := g.tail
          have hv : v = .non := by
            cases t with
            | fz w d =>
              have ed : d = .non := by simpa [er] using er'
              subst ed
              have : w = .non := g.unfz.2
              rw [← et]; exact this
            | ol _ _ => simp [er] at er'
            | oo _ _ _ _ _ _ => simp [er] at er'
            | od _ _ _ => simp [er] at er'
          refine ⟨hv, ?_⟩
          cases q3 : unload md rs ss' e2 with
          | none => simp only [q3] at w1; exact w1.elim
          | some e3 =>
            simp only [q3] at w1
            have c3 : Cf K mg pv F3 H3 σ e2 as2 (ts' ++ ([t0] ++ held)) := ⟨s5, c2.r, g'.perm (by
              have h1 : (t0 :: (ts' ++ (opts as2 ++ held))).Perm (ts' ++ (opts as2 ++ ([t0] ++ held))) := by
                refine (List.perm_middle (l₁ := ts') (l₂ := opts as2 ++ held) (a := t0)).symm.trans ?_
                exact List.Perm.append_left _ (List.perm_middle (l₁ := opts as2) (l₂ := held) (a := t0)).symm
              exact h1.trans (pswap _ _ _))⟩
            obtain ⟨as3, c4⟩ := c3.unload rr1 v1 e1' q3
            rw [← v0]
            rw [← e0] at w1
            exact w1 t0.val F3 H3 as3 [t0] ((s1.trans s2).trans s4) c4 (rr_svR t0)
/-- o.m(..), o one's own, in a slot -/
def dMeth (c m : Str) (j : Nat) (md : List Bool) (φ : Fn) (a : M (List RV)) : M RV := fun e0 => match e0.sl[j]? with
  | some (some (.oo c' ns _)) => if c' = c ∧ (m ∈ ns) = False then (a e0).bind fun rs e => match load (true :: md) (.var j :: rs) e with
    | some (ss, e1) => (match φ ss with
      | .ok r ss' => (match unload (true :: md) (.var j :: rs) ss' e1 with
        | some e2 => .ok (svR r) e2
        | none => .st)
      | _ => .st)
    | none => .st else .st
  | _ => .st
theorem look_not {f : Str} : ∀ {ns : List Str} {vs : List V}, f ∉ ns → (ns.zip vs).lookup f = none
  | [], _, _ => by simp
  | _ :: _, [], _ => by simp
  | n :: ns, v :: vs, h => by
    rw [List.zip_cons_cons, List.lookup_cons]
    have h1 : (f == n) = false := by
      rw [Bool.eq_false_iff]; intro q; exact h (List.mem_cons.mpr (.inl (by simpa using q)))
    rw [h1]
    exact look_not fun q => h (List.mem_cons_of_mem _ q)
theorem se_meth {c m : Str} {C : Addr} {j : Nat} {md : List Bool} {φ : Fn} {ta : TA} {ma : M (List RV)} (hC : mg c = some (.ref C)) (ha : SA K mg E ta ma) : SE K mg E (tMeth C m (spF K mg (md.length + 1) φ) [] L2.E0 (tVar j) ta) (dMeth c m j md φ ma) := by
  intro pv F H σ e as held Q c0 w
  unfold dMeth at w
  cases z : e.sl[j]? with
  | none => simp only [z] at w; exact w.elim
  | some o =>
    cases o with
    | none => simp only [z] at w; exact w.elim
    | some s =>
      cases s with
      | oo cl ns xs =>
        simp only [z] at w
        by_cases hm : cl = c ∧ (m ∈ ns) = False
        · rw [if_pos hm] at w
          obtain ⟨hm1, hm2⟩ := hm
          subst hm1
          obtain ⟨p, C', dx, ys, h0, ey, hv, hp, _, hC', hl⟩ := c0.ownO z
          have eC : C' = C := by rw [hC] at hC'; cases hC'; rfl
          subst eC
          refine ⟨_, hv, p, dx, _, rfl, hp, look_not (by rw [hm2]; exact id), ?_⟩
          refine ha pv F H σ e as held _ c0 (WA.bindA (W := WE K mg pv F held σ Q E) (fun z => z) w (fun _ _ z => z) fun rs e1 vs F1 H1 as1 tr1 s1 c1 rr1 w1 => ?_)
          have rr2 : RRs σ (.ref p :: vs) (.var j :: rs) tr1 := ⟨[], tr1, by simp, ⟨rfl, hv⟩, rr1⟩
          cases q : load (true :: md) (.var j :: rs) e1 with
          | none => simp only [q] at w1; exact w1.elim
          | some pr =>
            obtain ⟨ss, e2⟩ := pr
            simp only [q] at w1
            obtain ⟨F2, as2, ts, s2, c2, ev, es⟩ := c1.load rr2 q
            have lt : ts.length = md.length + 1 := by
              have h1 : ts.length = (V.ref p :: vs).length := by rw [← ev]; exact (List.length_map _).symm
              have h2 := rr2.length
              have h3 := load_len q
              rw [h1, h2, h3]; rfl
            refine ⟨F2, ts, opts as2 ++ held, by rw [List.append_nil]; exact ev.symm, lt, c2.s, c2.g.perm (pswap _ _ _), ?_⟩
            rw [es]
            cases q2 : φ ss with
            | st => simp only [q2] at w1; exact w1.elim
            | ex _ _ => simp only [q2] at w1; exact w1.elim
            | ok r ss' =>
              simp only [q2] at w1
              intro v F3 H3 t ts' s3 s4 et er' evs ess g
              rw [List.append_nil] at evs
              cases q3 : unload (true :: md) (.var j :: rs) ss' e2 with
              | none => simp only [q3] at w1; exact w1.elim
              | some e3 =>
                simp only [q3] at w1
                have c3 : Cf K mg pv F3 H3 σ e2 as2 (ts' ++ ([t] ++ held)) := ⟨s4, c2.r, g.perm (by
                  have h1 : (t :: (ts' ++ (opts as2 ++ held))).Perm (ts' ++ (opts as2 ++ ([t] ++ held))) := by
                    refine (List.perm_middle (l₁ := ts') (l₂ := opts as2 ++ held) (a := t)).symm.trans ?_
                    exact List.Perm.append_left _ (List.perm_middle (l₁ := opts as2) (l₂ := held) (a := t)).symm
                  exact h1.trans (pswap _ _ _))⟩
                obtain ⟨as3, c4⟩ := c3.unload rr2 evs ess q3
                subst et er'
                exact w1 t.val F3 H3 as3 [t] ((s1.trans s2).trans s3) c4 (rr_svR t)
        · rw [if_neg hm] at w; exact w.elim
      | _ => simp only [z] at w; exact w.elim
end
section
variable {X : Cx} {CX : CXT} {k : Nat} {f C : Addr} {fd : FuncData} {ps : List Str} {sp : Sp} {x : Str} {p pos : Pos} {e : Expr} {es : List Expr} {t : TA}
theorem run_makeS {E : XK} {pins : List (Addr × Obj)} {σ : L2.St} {H : Hp} {s : Shared} {Q : VK} {us : List Value} {vs : List V} (M : Mk X.K C f) (F : FnOk X.prog X.w X.K X.mg X.base CX k f fd ps sp) (hr : Room (k + 1) X.A) (hb : Binds X.K fd ps [])
    (hx : PassesAt CX X σ E) (I : L2.Inv X pins σ H s) (r : Vals vs us)
    (h : ∀ x dx, H x = none → H dx = none → dx ≠ x → sp (.ref x :: vs) (upd (upd H dx (.own x)) x (.ins C dx [])) (fun v H2 => v = .non ∧ Q (.ref x) H2) E) :
    wpAny (model X.prog X.w) X.A (call (.ref C) us) (EP X pins σ Q) X.xe s := by
  have hq := h (s.heap.objs.size + 1) s.heap.objs.size (I.hok.fresh (Nat.le_succ _)) (I.hok.fresh (Nat.le_refl _)) (Nat.ne_of_lt (Nat.lt_succ_self _))
  have I2 := L2.Inv.made (C := C) I
  have r2 : Vals (V.ref (s.heap.objs.size + 1) :: vs) (Value.ref (s.heap.objs.size + 1) :: us) := .cons rfl r
  have hl : (Value.ref (s.heap.objs.size + 1) :: us ++ []).length = ps.length := by
    have e := r2.length
    rw [F.len _ _ _ _ hq] at e
    rw [List.append_nil]
    exact e.symm
  have b := hb _ (Value.ref (s.heap.objs.size + 1) :: us) I2.kIn hl
  rw [List.append_nil] at b
  refine wpAny_call (make_map (f := f) I.kIn M.makes M.init (beq_iff_eq.mp M.fn) (codeAny_mono (F.run _ X.stack _ _ ⟨Value.ref (s.heap.objs.size + 1) :: us, []⟩ (Value.ref (s.heap.objs.size + 1) :: us) _ _ E (hr.make C us [])
    (I2.env0.make C us []) b r2 hq) fun r s' hq' => ?_))
  cases r with
  | error e => exact hx pins _ _ e s' I2 hq'
  | ok fl =>
    cases fl with
    | ret u =>
      obtain ⟨v, H', I3, rv, ev, q3⟩ := I2.after hq'
      subst ev
      exact ⟨rv, ⟨V.ref (s.heap.objs.size + 1), H', I3, rfl, q3⟩⟩
    | next => exact False.elim hq'
    | brk => exact False.elim hq'
    | cont => exact False.elim hq'
theorem pe_makeS {E : L2.St → XK} (M : Mk X.K C f) (F : FnOk X.prog X.w X.K X.mg X.base CX k f fd ps sp) (hr : Room (k + 1) X.A) (hg : Gl X x) (hm : X.mg x = some (.ref C)) (hb : Binds X.K fd ps []) (hx : ∀ σ, PassesAt CX X σ (E σ))
    (ha : L2.PA X (e :: es) t) (hdb : (x == ("__debug__" : Str)) = false := by decide) (he : starEach (e :: es) X.env = (false, eval e X.env) :: starEach es X.env := by rfl) (hpl : (backTo pos (starEach es X.env)).any (·.1) = false := by rfl) :
    PE X (.Call (.Name x p) (e :: es) [] pos) (tMakeS C sp E t) := by
  refine ⟨fun pins s σ H Q I h => ?_⟩
  refine wpAny_Call_Name_kw (ld_glob I hg hm ?_ hdb)
  refine PySem.W.callWith_K (h₀ := X.base) I.ok.mod.kin M.kp (thn (ha.run pos pins s σ H _ I h) fun us s1 ⟨vs, H1, I1, r, q⟩ => ⟨I1.kIn, ?_⟩) he hpl
  exact run_makeS M F hr hb (hx σ) I1 r q
end
section
variable {X : Cx} {E : XS} {a : Expr} {pos : Pos} {es : List Expr} {mr : M (List RV)}
theorem v_make {CX : CXT} {k : Nat} {C f : Addr} {fd : FuncData} {ps : List Str} {x c : Str} {p : Pos} {md : List Bool} {φ : Fn} (Mk' : Mk X.K C f) (F : FnOk X.prog X.w X.K X.mg X.base CX k f fd ps (spF X.K X.mg (md.length + 1) φ)) (hr : Room (k + 1) X.A) (hg : Gl X x) (hm : X.mg x = some (.ref C)) (hc : X.mg c = some (.ref C)) (hb : Binds X.K fd ps []) (hx : ∀ σ, PassesAt CX X σ fun cls d H => E cls d σ H)
    (ha : VA X E (a :: es) mr) (hdb : (x == ("__debug__" : Str)) = false := by decide) (he : starEach (a :: es) X.env = (false, eval a X.env) :: starEach es X.env := by rfl) (hpl : (backTo pos (starEach es X.env)).any (·.1) = false := by rfl) :
    VE X E (.Call (.Name x p) (a :: es) [] pos) (dMake c md φ mr) := .mk (pe_makeS Mk' F hr hg hm hb hx ha hdb he hpl) (se_make hc sa_w)
theorem v_meth {C : Addr} {x c m : Str} {j : Nat} {p p1 : Pos} {md : List Bool} {φ : Fn} (hN : X.N[j]? = some x) (hv : Vis X.env.scope x) (hc : X.mg c = some (.ref C)) (ha : VA X E (a :: es) mr)
    (h : ∀ {to : TE} {t : TA}, PE X (.Name x p) to → L2.PA X (a :: es) t → PE X (.Call (.Attribute (.Name x p) m p1) (a :: es) [] pos) (tMeth C m (spF X.K X.mg (md.length + 1) φ) [] L2.E0 to t))
    (hd : (x == ("__debug__" : Str)) = false := by decide) (hcd : (x == ("__classdict__" : Str)) = false := by decide) :
    VE X E (.Call (.Attribute (.Name x p) m p1) (a :: es) [] pos) (dMeth c m j md φ mr) := .mk (h (pe_var hN hv hd hcd) ha) (se_meth hc sa_w)
theorem v_meth0 {C : Addr} {x c m : Str} {j : Nat} {p p1 : Pos} {φ : Fn} (hN : X.N[j]? = some x) (hv : Vis X.env.scope x) (hc : X.mg c = some (.ref C))
    (h : ∀ {to : TE}, PE X (.Name x p) to → PE X (.Call (.Attribute (.Name x p) m p1) [] [] pos) (tMeth C m (spF X.K X.mg 1 φ) [] L2.E0 to tNil))
    (hd : (x == ("__debug__" : Str)) = false := by decide) (hcd : (x == ("__classdict__" : Str)) = false := by decide) :
    VE X E (.Call (.Attribute (.Name x p) m p1) [] [] pos) (dMeth c m j [] φ dNil) := .mk (h (pe_var hN hv hd hcd)) (se_meth (md := []) hc sa_nil)
end
end VF

set_option maxRecDepth 100000
set_option maxHeartbeats 4000000
/-! Objects: x.f += e, x.f.append(e). -/
namespace VF
set_option autoImplicit false
open PySem PySem.Spec PyProof.Rows L2
open AT (cells cellsL er ers)
section
variable {K : PySem.W.Frag} {mg : Str → Option Value} {pv : List (Nat × V)} {F F' H H' : Hp} {σ : L2.St} {e e' : Env} {as as' : List (Option AT)} {held tr ts us : List AT} {E : XS}
/-- an attribute of one's own object is stored: the state behind -/
theorem Cf.putFld {j : Nat} {f cl : Str} {ns : List Str} {xs : List SV} {v : V} {d : D} (c : Cf K mg pv F H σ e as held) (z : e.sl[j]? = some (some (.oo cl ns xs))) (rp : Rep K mg F v d) :
    ∃ p C dx fs as', σ[j]? = some (some (.ref p)) ∧ H p = some (.ins C dx fs) ∧ fs.length ≤ ns.length ∧ mg cl = some (.ref C) ∧ Cf K mg pv F (upd H p (.ins C dx (putF f v fs))) σ (e.setS j (.oo cl (putN f ns) (putX f (.fz d) ns xs))) as' held := by
  obtain ⟨p, C, dx, ys, h2, ey, hv2, hp2, _, hC, hl⟩ := c.ownO z
  have lv : ns.length = (vals ys).length := by rw [hl]; exact (List.length_map _).symm
  obtain ⟨junk, pj⟩ := putX_perm f (AT.fz v d) ns ys hl
  have c3 := (c.fzs rp).reins (ns' := putN f ns) (ys := putX f (.fz v d) ns ys) (zs := held) (junk := junk) h2 (by
    refine (List.perm_middle (l₁ := ys) (l₂ := held) (a := AT.fz v d)).trans ?_
    have := pj.append_right held
    rw [List.append_assoc] at this
    exact this) (putX_len f _ ns ys hl)
  have ev : vals (putX f (.fz v d) ns ys) = putX f v ns (vals ys) := by unfold vals; rw [putX_map]; rfl
  have ee : ers (putX f (.fz v d) ns ys) = putX f (.fz d) ns xs := by rw [ers_eq, putX_map, ← ers_eq, ey]; rfl
  rw [ev, ee, ← putF_zip f v ns (vals ys) lv] at c3
  exact ⟨p, C, dx, _, _, hv2, hp2, by rw [List.length_zip]; omega, hC, c3⟩
/-- x.f op= e: an int attribute of one's own object -/
def dAugF (cs : List Str) (f : Str) (j : Nat) (op : Int → Int → Int) (a : M RV) : M Fl := fun e0 => match e0.sl[j]? with
  | some (some (.oo c ns xs)) => (match fldS cs f (.oo c ns xs) with
    | some (.int x) => (a e0).bind fun r e => match view e r with
      | some (.int y) => (match e.sl[j]? with
        | some (some (.oo c2 ns2 xs2)) => if c2 = c ∧ ns2.length < 1000 then .ok .nx (e.setS j (.oo c2 (putN f ns2) (putX f (.fz (.int (op x y))) ns2 xs2))) else .st
        | _ => .st)
      | _ => .st
    | _ => .st)
  | _ => .st
def rI (op : Int → Int → Int) : V → V → Hp → VK → Prop := fun x y H Q => ∃ i j, x = .int i ∧ y = .int j ∧ Q (.int (op i j)) H
theorem ss_augF {cs : List Str} {f : Str} {j : Nat} {op : Int → Int → Int} {ta : TE} {ma : M RV} (hc : ClsF K mg cs f) (ha : SE K mg E ta ma) : SS K mg E (sFldAug K (tVar j) ta (rI op) f) (dAugF cs f j op ma) := by
  intro pv F H σ e as held D c w
  unfold dAugF at w
  cases z : e.sl[j]? with
  | none => simp only [z] at w; exact w.elim
  | some o =>
    cases o with
    | none => simp only [z] at w; exact w.elim
    | some s =>
      cases s with
      | oo cl ns xs =>
        simp only [z] at w
        cases q : fldS cs f (.oo cl ns xs) with
        | none => simp only [q] at w; exact w.elim
        | some x0 =>
          cases x0 with
          | int x =>
            simp only [q] at w
            obtain ⟨p, C, dx, ys, h0, ey, hv, hp, _, hC, hl⟩ := c.ownO z
            have q' : fldR cs f e (.var j) = some (.int x) := by
              show (match e.sl[j]? with | some (some s) => fldS cs f s | _ => none) = _
              rw [z]; exact q
            obtain ⟨yv, ry, k⟩ := c.fld (r := .var j) (tr := []) (v := .ref p) hc ⟨rfl, hv⟩ (fun t ht => absurd ht List.not_mem_nil) q'
            have eyv : yv = .int x := ry
            subst eyv
            obtain ⟨a1, C1, dx1, fs1, v1, e1, g1, k1, k2, l1, hq⟩ := k (fun v _ => v = .int x) rfl
            subst hq
            have ea : a1 = p := by injection e1 with e1; exact e1.symm
            subst ea
            have eC : C1 = C := by rw [hp] at g1; cases g1; rfl
            subst eC
            refine ⟨_, hv, a1, C1, dx1, fs1, .int x, rfl, g1, k1, k2, l1, ?_⟩
            refine ha pv F H σ e as held _ c (WE.bindE (W := WS K mg pv F held E D) (fun z => z) w (fun _ _ z => z) fun r2 e2 v2 F2 H2 as2 tr2 s2 c2 rr2 w2 => ?_)
            cases q2 : view e2 r2 with
            | none => simp only [q2] at w2; exact w2.elim
            | some y0 =>
              have p2 := c2.seen rr2 (fun t ht => List.mem_append_left _ ht) q2
              cases y0 with
              | int y =>
                have ev : v2 = .int y := p2
                subst ev
                simp only [q2] at w2
                cases z2 : e2.sl[j]? with
                | none => simp only [z2] at w2; exact w2.elim
                | some o =>
                  cases o with
                  | none => simp only [z2] at w2; exact w2.elim
                  | some s =>
                    cases s with
                    | oo c2' ns2 xs2 =>
                      simp only [z2] at w2
                      by_cases m : c2' = cl ∧ ns2.length < 1000
                      · rw [if_pos m] at w2
                        obtain ⟨m1, m2⟩ := m
                        subst m1
                        obtain ⟨p3, C3, dx3, fs3, as3, hv3, hp3, l3, hC3, c3⟩ := c2.drop.putFld (f := f) (v := .int (op x y)) (d := .int (op x y)) z2 rfl
                        have ep : p3 = a1 := by rw [hv] at hv3; simpa using hv3.symm
                        subst ep
                        have eC3 : C3 = C1 := by rw [hC] at hC3; cases hC3; rfl
                        subst eC3
                        exact ⟨x, y, rfl, rfl, dx3, fs3, hp3, by omega, w2 σ F2 _ _ s2 c3⟩
                      · rw [if_neg m] at w2; exact w2.elim
                    | _ => simp only [z2] at w2; exact w2.elim
              | _ => simp only [q2] at w2; exact w2.elim
          | _ => simp only [q] at w; exact w.elim
      | _ => simp only [z] at w; exact w.elim
end
section
variable {X : Cx} {E : XS} {a : Expr} {ma : M RV} {pos : Pos}
theorem s_augF {cs : List Str} {f : Str} {j : Nat} {x : Str} {p p1 : Pos} {o : Operator} {op : Int → Int → Int} (hop : InOp X o (rI op)) (hc : ClsF X.K X.mg cs f) (hN : X.N[j]? = some x) (hv : Vis X.env.scope x) (ha : VE X E a ma)
    (hd : (x == ("__debug__" : Str)) = false := by decide) (hcd : (x == ("__classdict__" : Str)) = false := by decide) :
    VS X E (.AugAssign (.Attribute (.Name x p) f p1) o a pos) (dAugF cs f j op ma) := .mk (ps_fldaug (pe_var hN hv hd hcd) ha hop) (ss_augF hc se_w)
theorem in_addI : InOp X .Add (rI (· + ·)) := in_add
theorem in_subI : InOp X .Sub (rI (· - ·)) := in_sub
end
end VF

set_option maxRecDepth 100000
set_option maxHeartbeats 4000000
/-! Calls with keywords (in the order of the parameters), calls that leave defaults out. -/
namespace VF
set_option autoImplicit false
open PySem PySem.Spec PyProof.Rows L2
open AT (cells cellsL er ers)
/-- tk gives n values -/
def tLen (n : Nat) (tk : TA) : TA := fun σ H Q => tk σ H fun zs H2 => zs.length = n ∧ Q zs H2
/-- n positional values, and behind them the k ones of tk -/
def tAppN (n k : Nat) (t tk : TA) : TA := fun σ H Q => t σ H fun vs H1 => tk σ H1 fun zs H2 => vs.length = n ∧ zs.length = k ∧ Q (vs ++ zs) H2
/-- behind the values of t fixed ones -/
def tPlus (t : TA) (dvs : List V) : TA := fun σ H Q => t σ H fun vs H1 => Q (vs ++ dvs) H1
theorem tLen_cons (n : Nat) (te : TE) (tk : TA) : tLen (n + 1) (tCons te tk) = tCons te (tLen n tk) := by
  funext σ H Q
  show (te σ H fun x H1 => tk σ H1 fun xs H2 => (x :: xs).length = n + 1 ∧ Q (x :: xs) H2) = te σ H fun x H1 => tk σ H1 fun xs H2 => xs.length = n ∧ Q (x :: xs) H2
  simp only [List.length_cons, Nat.add_right_cancel_iff]
theorem tAppN_cons (n k : Nat) (te : TE) (t tk : TA) : tAppN (n + 1) k (tCons te t) tk = tCons te (tAppN n k t tk) := by
  funext σ H Q
  show (te σ H fun x H1 => t σ H1 fun xs H2 => tk σ H2 fun zs H3 => (x :: xs).length = n + 1 ∧ zs.length = k ∧ Q (x :: xs ++ zs) H3) = te σ H fun x H1 => t σ H1 fun xs H2 => tk σ H2 fun zs H3 => xs.length = n ∧ zs.length = k ∧ Q (x :: (xs ++ zs)) H3
  simp only [List.length_cons, Nat.add_right_cancel_iff, List.cons_append]
theorem tAppN_nil (k : Nat) (tk : TA) : tAppN 0 k tNil tk = tLen k tk := by
  funext σ H Q
  show (tk σ H fun zs H3 => ([] : List V).length = 0 ∧ zs.length = k ∧ Q ([] ++ zs) H3) = tk σ H fun zs H2 => zs.length = k ∧ Q zs H2
  simp only [List.length_nil, true_and, List.nil_append]
theorem tLen_nil : tLen 0 tNil = tNil := by
  funext σ H Q
  show (([] : List V).length = 0 ∧ Q [] H) = Q [] H
  simp only [List.length_nil, true_and]
theorem tPlus_cons (te : TE) (t : TA) (dvs : List V) : tPlus (tCons te t) dvs = tCons te (tPlus t dvs) := rfl
theorem tPlus_nil (v : V) (dvs : List V) : tPlus tNil (v :: dvs) = tCons (tC v) (tPlus tNil dvs) := rfl
/-- keywords: like positional values -/
structure VKw (X : Cx) (E : XS) (kws : List Keyword) (n : Nat) (m : M (List RV)) : Prop where
  go : ∃ tk, PK X kws tk ∧ SA X.K X.mg E (tLen n tk) m
/-- es positional, kws keywords: together like positional ones -/
structure VAK (X : Cx) (E : XS) (es : List Expr) (kws : List Keyword) (n k : Nat) (m : M (List RV)) : Prop where
  go : ∃ t tk, L2.PA X es t ∧ PK X kws tk ∧ SA X.K X.mg E (tAppN n k t tk) m
/-- es positional, behind them the defaults dvs -/
structure VAD (X : Cx) (E : XS) (es : List Expr) (dvs : List V) (m : M (List RV)) : Prop where
  go : ∃ t, L2.PA X es t ∧ SA X.K X.mg E (tPlus t dvs) m
section
variable {X : Cx} {E : XS} {a : Expr} {es : List Expr} {kws : List Keyword} {ma : M RV} {mr : M (List RV)} {nm : Option Str} {kpos pos : Pos} {n k : Nat} {dvs : List V}
theorem k_nil : VKw X E [] 0 dNil := ⟨tNil, pk_nil, by rw [tLen_nil]; exact sa_nil⟩
theorem k_cons (ha : VE X E a ma) (hk : VKw X E kws n mr) : VKw X E (⟨nm, a, kpos⟩ :: kws) (n + 1) (dCons ma mr) := by
  obtain ⟨tk, h1, h2⟩ := hk.go
  exact ⟨tCons (wE X.K X.mg E ma) tk, pk_cons ha h1, by rw [tLen_cons]; exact sa_cons se_w h2⟩
theorem ak_nil (hk : VKw X E kws k mr) : VAK X E [] kws 0 k mr := by
  obtain ⟨tk, h1, h2⟩ := hk.go
  exact ⟨tNil, tk, pa_nil, h1, by rw [tAppN_nil]; exact h2⟩
theorem ak_cons (ha : VE X E a ma) (hr : VAK X E es kws n k mr) (hs : starEach (a :: es) X.env = (false, eval a X.env) :: starEach es X.env := by rfl) : VAK X E (a :: es) kws (n + 1) k (dCons ma mr) := by
  obtain ⟨t, tk, h1, h2, h3⟩ := hr.go
  exact ⟨tCons (wE X.K X.mg E ma) t, tk, pa_cons ha h1 hs, h2, by rw [tAppN_cons]; exact sa_cons se_w h3⟩
theorem dv_nil : SA X.K X.mg E (tPlus tNil []) dNil := sa_nil
theorem dv_cons {v : V} {d : D} (h : SA X.K X.mg E (tPlus tNil dvs) mr) (hi : imm d = some v := by rfl) : SA X.K X.mg E (tPlus tNil (v :: dvs)) (dCons (dC d) mr) := by
  rw [tPlus_nil]; exact sa_cons (se_c hi) h
theorem ad_nil (h : SA X.K X.mg E (tPlus tNil dvs) mr) : VAD X E [] dvs mr := ⟨tNil, pa_nil, h⟩
theorem ad_cons (ha : VE X E a ma) (hr : VAD X E es dvs mr) (hs : starEach (a :: es) X.env = (false, eval a X.env) :: starEach es X.env := by rfl) : VAD X E (a :: es) dvs (dCons ma mr) := by
  obtain ⟨t, h1, h2⟩ := hr.go
  exact ⟨tCons (wE X.K X.mg E ma) t, pa_cons ha h1 hs, by rw [tPlus_cons]; exact sa_cons se_w h2⟩
end
section
variable {X : Cx} {CX : CXT} {k n : Nat} {f : Addr} {fd : FuncData} {ps ks : List Str} {sp : Sp} {x : Str} {p pos : Pos} {e : Expr} {es : List Expr} {kws : List Keyword} {t tk : TA} {dvs : List V} {ds : List Value}
theorem run_fnKS {pins : List (Addr × Obj)} {E : L2.St → XK} {σ : L2.St} {H : Hp} {s : Shared} {Q : VK} {us ws : List Value} {vs zs : List V} (F : FnOk X.prog X.w X.K X.mg X.base CX k f fd ps sp) (hr : Room k X.A) (hb : KBn X.K fd ps n ks (fun us ws => us ++ ws) (fun vs zs => vs ++ zs)) (hx : PassesAt CX X σ (E σ))
    (I : Inv X pins σ H s) (r : Vals vs us) (rz : Vals zs ws) (l1 : vs.length = n) (l2 : zs.length = ks.length) (h : sp (vs ++ zs) H Q (E σ)) : wpAny (model X.prog X.w) X.A (call (.ref f) us (ks.zip ws)) (EP X pins σ Q) X.xe s := by
  have r2 := hb.rel r rz
  refine wpAny_call (codeAny_mono (F.run X.A X.stack s H ⟨us, ks.zip ws⟩ (us ++ ws) (vs ++ zs) Q (E σ) hr I.env0 (hb.to s us ws I.kIn (r.length.symm.trans l1) (rz.length.symm.trans l2)) r2 h) fun r s' hq => ?_)
  cases r with
  | error e => exact hx pins H s e s' I hq
  | ok fl =>
    cases fl with
    | ret u => exact I.after hq
    | next => exact False.elim hq
    | brk => exact False.elim hq
    | cont => exact False.elim hq
theorem pe_callKS {E : L2.St → XK} (F : FnOk X.prog X.w X.K X.mg X.base CX k f fd ps sp) (hr : Room k X.A) (hg : Gl X x) (hm : X.mg x = some (.ref f)) (hk : PySem.W.keepIn X.K (.ref f) = true) (hb : KBn X.K fd ps n ks (fun us ws => us ++ ws) (fun vs zs => vs ++ zs)) (hx : ∀ σ, PassesAt CX X σ (E σ))
    (ha : L2.PA X (e :: es) t) (hkw : PK X kws tk) (hall : (backToKw pos (keywordEach kws X.env)).all (·.1.isSome) = true := by rfl) (hks : (backToKw pos (keywordEach kws X.env)).filterMap (·.1) = ks := by rfl)
    (hdb : (x == ("__debug__" : Str)) = false := by decide) (he : starEach (e :: es) X.env = (false, eval e X.env) :: starEach es X.env := by rfl)
    (hpl : ((backTo pos (starEach (e :: es) X.env)).any (·.1) || (backToKw pos (keywordEach kws X.env)).any (·.1.isNone)) = false := by rfl) :
    PE X (.Call (.Name x p) (e :: es) kws pos) (tCallS sp E (tAppN n ks.length t tk)) := by
  refine ⟨fun pins s σ H Q I h => ?_⟩
  refine wpAny_Call_Name_kw (ld_glob I hg hm ?_ hdb)
  refine PySem.W.callWith_KW (h₀ := X.base) I.ok.mod.kin hk hall (thn (ha.run pos pins s σ H _ I h) fun us s1 ⟨vs, H1, I1, r, q⟩ => ?_) hpl he
  refine thn (hkw.run pos pins s1 σ H1 _ I1 q) fun ws s2 ⟨zs, H2, I2, rz, l1, l2, q2⟩ => ⟨I2.kIn, ?_⟩
  rw [hks]
  exact run_fnKS F hr hb (hx σ) I2 r rz l1 l2 q2
variable {E : XS} {md : List Bool} {φ : Fn} {mr : M (List RV)}
/-- f(e, .., k = v, ..), the keywords in the order of the parameters -/
theorem v_callK (F : FnOk X.prog X.w X.K X.mg X.base CX k f fd ps (spF X.K X.mg md.length φ)) (hr : Room k X.A) (hg : Gl X x) (hm : X.mg x = some (.ref f)) (hk : PySem.W.keepIn X.K (.ref f) = true) (hb : KBn X.K fd ps n ks (fun us ws => us ++ ws) (fun vs zs => vs ++ zs)) (hx : ∀ σ, PassesAt CX X σ fun cls d H => E cls d σ H)
    (ha : VAK X E (e :: es) kws n ks.length mr) (hall : (backToKw pos (keywordEach kws X.env)).all (·.1.isSome) = true := by rfl) (hks : (backToKw pos (keywordEach kws X.env)).filterMap (·.1) = ks := by rfl)
    (hdb : (x == ("__debug__" : Str)) = false := by decide) (he : starEach (e :: es) X.env = (false, eval e X.env) :: starEach es X.env := by rfl)
    (hpl : ((backTo pos (starEach (e :: es) X.env)).any (·.1) || (backToKw pos (keywordEach kws X.env)).any (·.1.isNone)) = false := by rfl) :
    VE X E (.Call (.Name x p) (e :: es) kws pos) (dCall md φ mr) := by
  obtain ⟨t, tk, h1, h2, h3⟩ := ha.go
  exact .mk (pe_callKS F hr hg hm hk hb hx h1 h2 hall hks hdb he hpl) (se_call h3)
/-- f(e, ..), defaults behind -/
theorem v_callD (F : FnOk X.prog X.w X.K X.mg X.base CX k f fd ps (spF X.K X.mg md.length φ)) (hr : Room k X.A) (hg : Gl X x) (hm : X.mg x = some (.ref f)) (hk : PySem.W.keepIn X.K (.ref f) = true) (hb : ∃ ds, Vals dvs ds ∧ Binds X.K fd ps ds) (hx : ∀ σ, PassesAt CX X σ fun cls d H => E cls d σ H)
    (ha : VAD X E (e :: es) dvs mr) (hdb : (x == ("__debug__" : Str)) = false := by decide) (he : starEach (e :: es) X.env = (false, eval e X.env) :: starEach es X.env := by rfl) (hpl : (backTo pos (starEach es X.env)).any (·.1) = false := by rfl) :
    VE X E (.Call (.Name x p) (e :: es) [] pos) (dCall md φ mr) := by
  obtain ⟨t, h1, h3⟩ := ha.go
  obtain ⟨ds, hd, hb⟩ := hb
  exact .mk (pe_callSD F hr hg hm hk hb hd hx h1 hdb he hpl) (se_call (ta := tPlus t dvs) h3)
end
section
variable {K : PySem.W.Frag} {x qual : Str} {params : Arguments} {body : List Stmt} {scope : Scope} {kws : List (Str × V)} {f : Addr} {fd : FuncData} {ps ks : List Str} {n : Nat}
/-- every parameter is written, the last ones by keywords -/
theorem kbN (F : FunD K x qual params body scope [] kws f fd)
    (h : ∀ (kV doc pm : Value) (an : Option Addr) (cdv ct : Value) (us ws : List Value), us.length = n → ws.length = ks.length → bindArgs (PySem.W.fnOf x qual params body scope .none kV doc pm an cdv ct) ⟨us, ks.zip ws⟩ = pure (ps.zip (us ++ ws))) :
    KBn K fd ps n ks (fun us ws => us ++ ws) (fun vs zs => vs ++ zs) := by
  obtain ⟨oc, od, dV, kV, doc, pm, an, cdv, ct, osl, rfl, lk, hcd, hD, hK⟩ := F.ex
  rcases hD with ⟨_, rfl⟩ | ⟨e, _⟩
  · exact ⟨fun s us ws _ l1 l2 => .of_eq (h kV doc pm an cdv ct us ws l1 l2), fun r1 r2 => r1.append r2⟩
  · exact absurd rfl e
end
end VF

set_option maxRecDepth 100000
set_option maxHeartbeats 4000000
/-! The plain side: how the functions on states are reckoned. -/
namespace VF
set_option autoImplicit false
open PySem L2
/-! ### reckoning a step -/
@[simp] theorem bind_ok {α β : Type} (a : α) (e : Env) (f : α → M β) : (R.ok a e).bind f = f a e := (rfl)
@[simp] theorem bind_st {α β : Type} (f : α → M β) : (R.st : R α).bind f = .st := (rfl)
@[simp] theorem mbind {α β : Type} (m : M α) (f : α → M β) (e : Env) : (m.bind f) e = (m e).bind f := (rfl)
@[simp] theorem ev_c (d : D) (e : Env) : dC d e = .ok (.fz d) e := (rfl)
/-- what the slot of a name holds, as a value -/
def varR (i : Nat) (e : Env) : Option (Option SV) → R RV
  | some (some (.fz d)) => .ok (.fz d) e
  | some (some _) => .ok (.var i) e
  | _ => .st
@[simp] theorem ev_var (i : Nat) (l : List (Option SV)) (p : List Nat) : dVar i ⟨l, p⟩ = varR i ⟨l, p⟩ l[i]? := (rfl)
@[simp] theorem varR_fz (i : Nat) (e : Env) (d : D) : varR i e (some (some (.fz d))) = .ok (.fz d) e := (rfl)
@[simp] theorem varR_ol (i : Nat) (e : Env) (xs : List SV) : varR i e (some (some (.ol xs))) = .ok (.var i) e := (rfl)
@[simp] theorem ev_nil (e : Env) : dNil e = .ok [] e := (rfl)
@[simp] theorem ev_next (e : Env) : dNext e = .ok .nx e := (rfl)
@[simp] theorem ev_yes (e : Env) : dYes e = .ok true e := (rfl)
@[simp] theorem ev_cons (a : M RV) (b : M (List RV)) (e : Env) : dCons a b e = (a e).bind fun r e => (b e).bind fun rs e => .ok (r :: rs) e := (rfl)
@[simp] theorem view_fz (e : Env) (d : D) : view e (.fz d) = some d := (rfl)
@[simp] theorem view_own (e : Env) (s : SV) : view e (.own s) = some s.toD := (rfl)
@[simp] theorem view_var (i : Nat) (l : List (Option SV)) (p : List Nat) : view ⟨l, p⟩ (.var i) = (match l[i]? with
  | some (some s) => some s.toD
  | _ => none) := (rfl)
@[simp] theorem setS_mk (i : Nat) (l : List (Option SV)) (p : List Nat) (s : SV) : Env.setS ⟨l, p⟩ i s = ⟨l.set i (some s), p⟩ := (rfl)
@[simp] theorem clr_mk (i : Nat) (l : List (Option SV)) (p : List Nat) : Env.clr ⟨l, p⟩ i = ⟨l.set i none, p⟩ := (rfl)
/-- items of a list of one's own that are data; data that are ints -/
def fzs (ds : List D) : List SV := ds.map .fz
def iDs (L : List Int) : List D := L.map .int
@[simp] theorem fzs_nil : fzs [] = [] := (rfl)
@[simp] theorem iDs_nil : iDs [] = [] := (rfl)
@[simp] theorem fzs_len (ds : List D) : (fzs ds).length = ds.length := by simp [fzs]
@[simp] theorem iDs_len (L : List Int) : (iDs L).length = L.length := by simp [iDs]
@[simp] theorem fzs_get (ds : List D) (i : Nat) : (fzs ds)[i]? = (ds[i]?).map .fz := by simp [fzs]
@[simp] theorem iDs_get (L : List Int) (i : Nat) : (iDs L)[i]? = (L[i]?).map .int := by simp [iDs]
@[simp] theorem fzs_snoc (ds : List D) (d : D) : fzs ds ++ [.fz d] = fzs (ds ++ [d]) := by simp [fzs]
@[simp] theorem iDs_snoc (L : List Int) (d : Int) : iDs L ++ [.int d] = iDs (L ++ [d]) := by simp [iDs]
@[simp] theorem fzs_set (ds : List D) (d : D) (i : Nat) : (fzs ds).set i (.fz d) = fzs (ds.set i d) := by simp [fzs, List.map_set]
@[simp] theorem iDs_set (L : List Int) (d : Int) (i : Nat) : (iDs L).set i (.int d) = iDs (L.set i d) := by simp [iDs, List.map_set]
@[simp] theorem fzs_erase (ds : List D) (i : Nat) : (fzs ds).eraseIdx i = fzs (ds.eraseIdx i) := (map_erase _ _ _).symm
@[simp] theorem iDs_erase (L : List Int) (i : Nat) : (iDs L).eraseIdx i = iDs (L.eraseIdx i) := (map_erase _ _ _).symm
@[simp] theorem intsOf_iDs (L : List Int) : intsOf (iDs L) = some L := intsOf_map L
@[simp] theorem toDs_map (ds : List D) : SV.toDs (fzs ds) = ds := by
  unfold fzs
  induction ds with
  | nil => rfl
  | cons d ds ih => show d :: SV.toDs (ds.map .fz) = _; rw [ih]
@[simp] theorem toD_fz (d : D) : SV.toD (.fz d) = d := (rfl)
@[simp] theorem toD_ol (ds : List D) : SV.toD (.ol (fzs ds)) = .lst ds := by show D.lst _ = _; rw [toDs_map]
@[simp] theorem toD_cons (x : SV) (xs : List SV) : SV.toD (.ol (x :: xs)) = .lst (x.toD :: SV.toDs xs) := (rfl)
@[simp] theorem toDs_cons (x : SV) (xs : List SV) : SV.toDs (x :: xs) = x.toD :: SV.toDs xs := (rfl)
@[simp] theorem toDs_nil : SV.toDs [] = [] := (rfl)
@[simp] theorem toD_nil : SV.toD (.ol []) = .lst [] := (rfl)
@[simp] theorem frz_fz (d : D) (e : Env) : frzR (.fz d) e = some (d, e) := (rfl)
@[simp] theorem frz_own (s : SV) (e : Env) : frzR (.own s) e = some (s.toD, e) := (rfl)
@[simp] theorem frz_var (i : Nat) (l : List (Option SV)) (p : List Nat) : frzR (.var i) ⟨l, p⟩ = (match l[i]? with
  | some (some s) => some (s.toD, ⟨l.set i (some (.fz s.toD)), p⟩)
  | _ => none) := (rfl)
@[simp] theorem frzs_nil (e : Env) : frzRs [] e = some ([], e) := (rfl)
@[simp] theorem frzs_cons (r : RV) (rs : List RV) (e : Env) : frzRs (r :: rs) e = (match frzR r e with
    | some (d, e1) => (match frzRs rs e1 with
      | some (ds, e2) => some (d :: ds, e2)
      | none => none)
    | none => none) := (rfl)
@[simp] theorem ev_op (f : D → D → Option D) (a b : M RV) (e : Env) : dOp f a b e = (a e).bind fun r e => (b e).bind fun q e => match view e r, view e q with
  | some x, some y => (match f x y with
    | some d => .ok (.fz d) e
    | none => .st)
  | _, _ => .st := (rfl)
@[simp] theorem ev_cb (f : List D → Option D) (a : M (List RV)) (e : Env) : dCB f a e = (a e).bind fun rs e => match rs.mapM (view e) with
  | some xs => (match f xs with
    | some d => .ok (.fz d) e
    | none => .st)
  | none => .st := (rfl)
@[simp] theorem ev_t (a : M RV) (e : Env) : dT a e = (a e).bind fun r e => match view e r with
  | some (.bl b) => .ok b e
  | _ => .st := (rfl)
@[simp] theorem ev_tru (a : M RV) (e : Env) : dTru a e = (a e).bind fun r e => match (view e r).bind truD with
  | some b => .ok b e
  | none => .st := (rfl)
@[simp] theorem ev_and (a b : M Bool) (e : Env) : dAnd a b e = (a e).bind fun c e => match c with
  | true => b e
  | false => .ok false e := by unfold dAnd M.bind; cases a e <;> (try rfl); rename_i c e; cases c <;> rfl
@[simp] theorem ev_or (a b : M Bool) (e : Env) : dOr a b e = (a e).bind fun c e => match c with
  | true => .ok true e
  | false => b e := by unfold dOr M.bind; cases a e <;> (try rfl); rename_i c e; cases c <;> rfl
@[simp] theorem ev_not (a : M Bool) (e : Env) : dNot a e = (a e).bind fun c e => .ok (!c) e := (rfl)
@[simp] theorem ev_if (c : M Bool) (a b : M Fl) (e : Env) : dIf c a b e = (c e).bind fun k e => match k with
  | true => a e
  | false => b e := by unfold dIf M.bind; cases c e <;> (try rfl); rename_i c e; cases c <;> rfl
@[simp] theorem ev_seq (a b : M Fl) (e : Env) : dSeq a b e = (a e).bind fun f e => match f with
  | .nx => b e
  | f => .ok f e := by unfold dSeq M.bind; cases a e <;> (try rfl); rename_i c e; cases c <;> rfl
@[simp] theorem ev_ret (a : M RV) (e : Env) : dRet a e = (a e).bind fun r e => .ok (.rt r) e := (rfl)
@[simp] theorem ev_drop (a : M RV) (e : Env) : dDrop a e = (a e).bind fun _ e => .ok .nx e := (rfl)
@[simp] theorem ev_set (i : Nat) (a : M RV) (e : Env) : dSet i a e = (a e).bind fun r e => match putR i r e with
  | some e' => .ok .nx e'
  | none => .st := (rfl)
@[simp] theorem put_fz (i : Nat) (d : D) (l : List (Option SV)) (p : List Nat) : putR i (.fz d) ⟨l, p⟩ = if i ∈ p then none else some ⟨l.set i (some (.fz d)), p⟩ := (rfl)
@[simp] theorem put_own (i : Nat) (s : SV) (l : List (Option SV)) (p : List Nat) : putR i (.own s) ⟨l, p⟩ = if i ∈ p then none else some ⟨l.set i (some s), p⟩ := (rfl)
@[simp] theorem put_var (i j : Nat) (l : List (Option SV)) (p : List Nat) : putR i (.var j) ⟨l, p⟩ = if i ∈ p then none else (match l[j]? with
    | some (some s) => some ⟨(l.set j (some (.fz s.toD))).set i (some (.fz s.toD)), p⟩
    | _ => none) := (rfl)
@[simp] theorem ev_ix (a b : M RV) (e : Env) : dIx a b e = (a e).bind fun r e => (b e).bind fun q e => match view e q with
  | some (.int i) => (match itemR e r i with
    | some d => .ok (.fz d) e
    | none => .st)
  | _ => .st := (rfl)
@[simp] theorem item_fz (e : Env) (d : D) (i : Int) : itemR e (.fz d) i = itemD d i := (rfl)
@[simp] theorem item_own (e : Env) (s : SV) (i : Int) : itemR e (.own s) i = itemS s i := (rfl)
@[simp] theorem item_var (j : Nat) (i : Int) (l : List (Option SV)) (p : List Nat) : itemR ⟨l, p⟩ (.var j) i = (match l[j]? with
    | some (some s) => itemS s i
    | _ => none) := (rfl)
@[simp] theorem itemS_fz (d : D) (i : Int) : itemS (.fz d) i = itemD d i := (rfl)
@[simp] theorem itemS_ol (xs : List SV) (i : Int) : itemS (.ol xs) i = kid xs i := (rfl)
@[simp] theorem itemD_lst (ds : List D) (i : Int) : itemD (.lst ds) i = atI ds i := (rfl)
@[simp] theorem itemD_tup (ds : List D) (i : Int) : itemD (.tup ds) i = atI ds i := (rfl)
@[simp] theorem kid_map (ds : List D) (i : Int) : kid (fzs ds) i = atI ds i := by
  unfold kid fzs
  rw [atI_map]
  cases atI ds i <;> rfl
@[simp] theorem fI_int (g : Int → Int → Int) (i j : Int) : fI g (.int i) (.int j) = some (.int (g i j)) := (rfl)
@[simp] theorem fB_int (g : Int → Int → Bool) (i j : Int) : fB g (.int i) (.int j) = some (.bl (g i j)) := (rfl)
@[simp] theorem fMul_int (i j : Int) : fMul (.int i) (.int j) = if (inB i 64 || inB j 64) = true then some (.int (i * j)) else none := (rfl)
@[simp] theorem fMod_int (i j : Int) : fMod (.int i) (.int j) = if 0 < j then some (.int (i % j)) else none := (rfl)
@[simp] theorem fDiv_int (i j : Int) : fDiv (.int i) (.int j) = if 0 < j ∧ j < 1073741824 then some (.int (i / j)) else none := (rfl)
@[simp] theorem lenD_lst (ds : List D) : lenD [.lst ds] = some (.int (ds.length : Nat)) := (rfl)
@[simp] theorem lenD_scr (ds : List Int) : lenD [.scr ds] = some (.int (ds.length : Nat)) := (rfl)
@[simp] theorem intD_int (i : Int) : intD [.int i] = some (.int i) := (rfl)
@[simp] theorem ev_setIx (j : Nat) (b a : M RV) (e : Env) : dSetIx j b a e = (a e).bind fun r e0 => match e0.sl[j]? with
  | some (some (.ol _)) => (b e0).bind fun q e => match view e q with
    | some (.int k) => (match frzR r e with
      | some (d, e1) => (match e1.sl[j]? with
        | some (some (.ol xs)) => (match ixN xs.length k with
          | some n => .ok .nx (e1.setS j (.ol (xs.set n (.fz d))))
          | none => .st)
        | _ => .st)
      | none => .st)
    | _ => .st
  | _ => .st := (rfl)
@[simp] theorem ev_app (i : Nat) (a : M RV) (e0 : Env) : dApp i a e0 = match e0.sl[i]? with
  | some (some (.ol _)) => (a e0).bind fun r e => match frzR r e with
    | some (d, e1) => (match e1.sl[i]? with
      | some (some (.ol xs)) => if xs.length < sizeLine then .ok (.fz .non) (e1.setS i (.ol (xs ++ [.fz d]))) else .st
      | _ => .st)
    | none => .st
  | _ => .st := (rfl)
theorem run_fn0 {md : List Bool} {n : Nat} {m : M Fl} {ss ss' : List SV} {f : Fl} {e e1 : Env} {r : SV} (ha : okArgs md ss = true) (h : m (env0 md n ss) = .ok f e) (hr : resOf f e = some (r, e1)) (ho : outs 0 md ss e1 = some ss') : mkFn0 md n m ss = .ok r ss' := by
  unfold mkFn0 mkFn
  rw [if_pos ha, h]
  simp only [hr, ho]
@[simp] theorem atI_nonneg {α : Type} (xs : List α) (i : Int) (h : 0 ≤ i) : atI xs i = xs[i.toNat]? := by
  unfold atI ixN
  rw [if_pos h]
  by_cases h2 : i < xs.length
  · rw [if_pos h2]; rfl
  · rw [if_neg h2]
    exact (List.getElem?_eq_none (by omega)).symm
theorem atI_neg1 {α : Type} (xs : List α) : atI xs (-1) = xs.getLast? := by
  unfold atI ixN
  rw [if_neg (by decide)]
  cases xs with
  | nil => rfl
  | cons x xs =>
    rw [if_pos (by simp only [List.length_cons]; omega), List.getLast?_eq_getElem?]
    show (x :: xs)[_]? = _
    congr 1
    simp only [List.length_cons]
    omega
@[simp] theorem ixN_ok {n : Nat} {k : Int} (h0 : 0 ≤ k) (h1 : k < n) : ixN n k = some k.toNat := by
  unfold ixN
  rw [if_pos h0, if_pos h1]
def fzOf : Option SV → Option D
  | some (.fz d) => some d
  | _ => none
@[simp] theorem fzOf_fz (d : D) : fzOf (some (.fz d)) = some d := (rfl)
@[simp] theorem fzOf_none : fzOf none = none := (rfl)
theorem kid_at (xs : List SV) (i : Int) : kid xs i = fzOf (atI xs i) := by
  unfold kid
  cases atI xs i with
  | none => rfl
  | some s => cases s <;> rfl
@[simp] theorem kid_cons (x : SV) (xs : List SV) (i : Int) (h : 0 ≤ i) : kid (x :: xs) i = fzOf (x :: xs)[i.toNat]? := by rw [kid_at, atI_nonneg _ _ h]
@[simp] theorem out_nil (i : Nat) (e : Env) : outs i [] [] e = some [] := (rfl)
@[simp] theorem out_false (i : Nat) (l : List Bool) (s : SV) (ss : List SV) (e : Env) : outs i (false :: l) (s :: ss) e = (match outs (i + 1) l ss e with
    | some r => some (s :: r)
    | none => none) := (rfl)
@[simp] theorem out_true (i : Nat) (l : List Bool) (s : SV) (ss : List SV) (l2 : List (Option SV)) (p : List Nat) : outs i (true :: l) (s :: ss) ⟨l2, p⟩ = (match l2[i]? with
    | some (some s) => (match outs (i + 1) l ss ⟨l2.set i none, p⟩ with
      | some r => some (s :: r)
      | none => none)
    | _ => none) := (rfl)
@[simp] theorem res_fz (d : D) (e : Env) : resOf (.rt (.fz d)) e = some (.fz d, e) := (rfl)
@[simp] theorem res_nx (e : Env) : resOf .nx e = some (.fz .non, e) := (rfl)
@[simp] theorem res_own (s : SV) (e : Env) : resOf (.rt (.own s)) e = some (s, e) := (rfl)
@[simp] theorem res_var (i : Nat) (l : List (Option SV)) (p : List Nat) : resOf (.rt (.var i)) ⟨l, p⟩ = (match l[i]? with
    | some (some s) => if i ∈ p then some (.fz s.toD, ⟨l.set i (some (.fz s.toD)), p⟩) else some (s, ⟨l.set i none, p⟩)
    | _ => none) := (rfl)
def d__law_draw : M Fl := (dSeq (dSet 2 (dIx (dVar 0) (dC (.int 1))))
  (dSeq (dSetIx 0 (dC (.int 1)) (dOp (fI (· + ·)) (dVar 2) (dC (.int 1))))
  (dSeq (dIf (dT (dOp (fB fun i j => decide (i < j)) (dVar 2) (dCB lenD (dCons (dIx (dVar 0) (dC (.int 0))) dNil)))) (dRet (dOp fMod (dCB intD (dCons (dIx (dIx (dVar 0) (dC (.int 0))) (dVar 2)) dNil)) (dVar 1))) dNext)
  (dRet (dC (.int 0))))))
/-- the drawn number -/
def drawV (ds : List Int) (at_ : Nat) (many : Int) : Int := match ds[at_]? with
  | some d => d % many
  | none => 0
def box (ds : List Int) (at_ : Nat) : SV := .ol [.fz (.lst (iDs ds)), .fz (.int at_)]
theorem draw_ok (ds : List Int) (at_ : Nat) (many : Int) (hm : 0 < many) : mkFn0 [true, false] 3 d__law_draw [box ds at_, .fz (.int many)] = .ok (.fz (.int (drawV ds at_ many))) [box ds (at_ + 1), .fz (.int many)] := by
  cases h : ds[at_]? with
  | some d =>
    have h1 : (at_ : Int) < ds.length := by have := (List.getElem?_eq_some_iff.mp h).1; omega
    simp [mkFn0, mkFn, okArgs, env0, pinIx, d__law_draw, box, List.replicate, h, h1, hm, drawV]
  | none =>
    have h1 : ¬ (at_ : Int) < ds.length := by have := List.getElem?_eq_none_iff.mp h; omega
    simp [mkFn0, mkFn, okArgs, env0, pinIx, d__law_draw, box, List.replicate, h, h1, hm, drawV]
end VF

set_option maxRecDepth 100000
set_option maxHeartbeats 4000000
/-! Loops and comprehensions, reckoned; the laws' own numbers. -/
namespace VF
set_option autoImplicit false
open PySem L2
theorem loopF_inv {g : Tg} {body : M Fl} (P : Nat → Env → Prop) : ∀ (ds : List D) (k : Nat) (e : Env), P k e → (∀ (i : Nat) d e, ds[i]? = some d → P (k + i) e → ∃ e1 e2, g d e = some e1 ∧ (body e1 = .ok .nx e2 ∨ body e1 = .ok .ct e2) ∧ P (k + i + 1) e2) → ∃ e', loopF g body ds e = .ok .nx e' ∧ P (k + ds.length) e'
  | [], k, e, h0, _ => ⟨e, rfl, h0⟩
  | d :: ds, k, e, h0, hs => by
    obtain ⟨e1, e2, h1, h2, h3⟩ := hs 0 d e rfl h0
    obtain ⟨e', h4, h5⟩ := loopF_inv P ds (k + 1) e2 h3 fun i d' e' hd hp => by
      have := hs (i + 1) d' e' (by simpa using hd) (by rw [show k + (i + 1) = k + 1 + i by omega]; exact hp)
      rw [show k + (i + 1) + 1 = k + 1 + i + 1 by omega] at this
      exact this
    refine ⟨e', ?_, by rw [List.length_cons, show k + (ds.length + 1) = k + 1 + ds.length by omega]; exact h5⟩
    show (match g d e with
      | none => R.st
      | some e1 => (match body e1 with
        | .ok .nx e2 => loopF g body ds e2
        | .ok .ct e2 => loopF g body ds e2
        | .ok .bk e2 => .ok .nx e2
        | .ok (.rt r) e2 => .ok (.rt r) e2
        | .ex x e2 => .ex x e2
        | .st => .st)) = _
    rw [h1]
    rcases h2 with h2 | h2 <;> (simp only [h2]; exact h4)
theorem loopF_inv0 {g : Tg} {body : M Fl} (P : Nat → Env → Prop) (ds : List D) (e : Env) (h0 : P 0 e) (hs : ∀ (i : Nat) d e, ds[i]? = some d → P i e → ∃ e1 e2, g d e = some e1 ∧ (body e1 = .ok .nx e2 ∨ body e1 = .ok .ct e2) ∧ P (i + 1) e2) : ∃ e', loopF g body ds e = .ok .nx e' ∧ P ds.length e' := by
  have := loopF_inv (g := g) (body := body) P ds 0 e h0 fun i d e hd hp => by
    rw [Nat.zero_add] at hp ⊢
    exact hs i d e hd hp
  rwa [Nat.zero_add] at this
theorem loopC_inv {own : List Nat} {g : Tg} {tt : M Bool} {te : M RV} (P : Nat → List D → Env → Prop) : ∀ (ds : List D) (k : Nat) (acc : List D) (e : Env), P k acc e → (∀ (i : Nat) d acc e, ds[i]? = some d → P (k + i) acc e → ∃ e1 b e2, g d e = some e1 ∧ tt e1 = .ok b e2 ∧
      (b = true → ∃ r e3 y e4, te e2 = .ok r e3 ∧ frzR r e3 = some (y, e4) ∧ acc.length < sizeLine ∧ noPn own e4 = true ∧ P (k + i + 1) (acc ++ [y]) (wipeE own e4)) ∧ (b = false → noPn own e2 = true ∧ P (k + i + 1) acc (wipeE own e2))) →
    ∃ acc' e', loopC own g tt te ds acc e = .ok acc' e' ∧ P (k + ds.length) acc' e'
  | [], k, acc, e, h0, _ => ⟨acc, e, rfl, h0⟩
  | d :: ds, k, acc, e, h0, hs => by
    obtain ⟨e1, b, e2, h1, h2, h3, h4⟩ := hs 0 d acc e rfl h0
    have go : ∀ acc2 e5, P (k + 1) acc2 e5 → ∃ acc' e', loopC own g tt te ds acc2 e5 = .ok acc' e' ∧ P (k + (d :: ds).length) acc' e' := fun acc2 e5 hp => by
      obtain ⟨acc', e', h5, h6⟩ := loopC_inv P ds (k + 1) acc2 e5 hp fun i d' acc' e' hd hp => by
        have := hs (i + 1) d' acc' e' (by simpa using hd) (by rw [show k + (i + 1) = k + 1 + i by omega]; exact hp)
        rw [show k + (i + 1) + 1 = k + 1 + i + 1 by omega] at this
        exact this
      exact ⟨acc', e', h5, by rw [List.length_cons, show k + (ds.length + 1) = k + 1 + ds.length by omega]; exact h6⟩
    cases b with
    | true =>
      obtain ⟨r, e3, y, e4, q1, q2, q3, q4, q5⟩ := h3 rfl
      obtain ⟨acc', e', h5, h6⟩ := go _ _ q5
      refine ⟨acc', e', ?_, h6⟩
      unfold loopC
      simp only [h1, h2, q1, q2]
      rw [if_pos (by rw [q4, Bool.and_true]; exact decide_eq_true q3)]
      exact h5
    | false =>
      obtain ⟨q4, q5⟩ := h4 rfl
      obtain ⟨acc', e', h5, h6⟩ := go _ _ q5
      refine ⟨acc', e', ?_, h6⟩
      unfold loopC
      simp only [h1, h2]
      rw [if_pos q4]
      exact h5
/-- a comprehension that leaves the state as it is -/
theorem comp_map {α : Type} {own : List Nat} {it : M (List D)} {g : Tg} {tt : M Bool} {te : M RV} {e e0 : Env} (enc : α → D) (xs : List α) (f : α → D) (p : α → Bool) (hit : it e = .ok (xs.map enc) e0) (hp : noPn own e0 = true) (hz : xs.length ≤ sizeLine)
    (hs : ∀ x ∈ xs, ∃ e1, g (enc x) (wipeE own e0) = some e1 ∧ tt e1 = .ok (p x) e1 ∧ noPn own e1 = true ∧ wipeE own e1 = wipeE own e0 ∧ (p x = true → ∃ r e2 e3, te e1 = .ok r e2 ∧ frzR r e2 = some (f x, e3) ∧ noPn own e3 = true ∧ wipeE own e3 = wipeE own e0))
    (hr : restE own e0 (wipeE own e0) = some e0) : dComp own it g tt te e = .ok (.own (.ol (fzs ((xs.filter p).map f)))) e0 := by
  have key : ∃ acc' e', loopC own g tt te (xs.map enc) [] (wipeE own e0) = .ok acc' e' ∧ (e' = wipeE own e0 ∧ acc' = ((xs.take (0 + (xs.map enc).length)).filter p).map f ∧ acc'.length ≤ 0 + (xs.map enc).length) := by
    refine loopC_inv (fun i acc e => e = wipeE own e0 ∧ acc = ((xs.take i).filter p).map f ∧ acc.length ≤ i) (xs.map enc) 0 [] _ ⟨rfl, rfl, Nat.le_refl _⟩ ?_
    rintro i d acc e hd ⟨rfl, hacc, hl⟩
    rw [Nat.zero_add] at hacc hl ⊢
    rw [List.getElem?_map] at hd
    cases hx : xs[i]? with
    | none => rw [hx] at hd; cases hd
    | some x =>
      rw [hx] at hd
      cases hd
      have hlt : i < xs.length := (List.getElem?_eq_some_iff.mp hx).1
      obtain ⟨e1, h1, h2, h2a, h2b, h3⟩ := hs x (List.mem_of_getElem? hx)
      have tk : xs.take (i + 1) = xs.take i ++ [x] := by rw [List.take_add_one, hx]; rfl
      refine ⟨e1, p x, e1, h1, h2, fun hb => ?_, fun hb => ⟨h2a, h2b, ?_, by omega⟩⟩
      · obtain ⟨r, e2, e3, q1, q2, q3, q4⟩ := h3 hb
        refine ⟨r, e2, f x, e3, q1, q2, by omega, q3, q4, ?_, by rw [List.length_append, List.length_singleton]; omega⟩
        rw [tk, List.filter_append, List.map_append, hacc]
        simp [hb]
      · rw [tk, List.filter_append, List.map_append, hacc]
        simp [hb]
  obtain ⟨acc', e', h1, rfl, h2, _⟩ := key
  rw [Nat.zero_add, List.length_map, List.take_length] at h2
  subst h2
  unfold dComp
  rw [mbind, hit, bind_ok]
  simp only [hp, if_true, h1, hr]
  rfl
/-- the same without a test -/
theorem comp_all {α : Type} {own : List Nat} {it : M (List D)} {g : Tg} {te : M RV} {e e0 : Env} (enc : α → D) (xs : List α) (f : α → D) (hit : it e = .ok (xs.map enc) e0) (hp : noPn own e0 = true) (hz : xs.length ≤ sizeLine)
    (hs : ∀ x ∈ xs, ∃ e1, g (enc x) (wipeE own e0) = some e1 ∧ noPn own e1 = true ∧ wipeE own e1 = wipeE own e0 ∧ ∃ r e2 e3, te e1 = .ok r e2 ∧ frzR r e2 = some (f x, e3) ∧ noPn own e3 = true ∧ wipeE own e3 = wipeE own e0)
    (hr : restE own e0 (wipeE own e0) = some e0) : dComp own it g dYes te e = .ok (.own (.ol (fzs (xs.map f)))) e0 := by
  have h := comp_map (tt := dYes) enc xs f (fun _ => true) hit hp hz (fun x hx => by
    obtain ⟨e1, h1, h2, h3, h4⟩ := hs x hx
    exact ⟨e1, h1, rfl, h2, h3, fun _ => h4⟩) hr
  have ef : xs.filter (fun _ => true) = xs := by simp
  rw [ef] at h
  exact h
/-! ### what is walked, calls -/
@[simp] theorem ev_it (a : M RV) (e : Env) : dIt a e = (a e).bind fun r e => match frzR r e with
  | some (d, e1) => (match walk d with
    | some ds => .ok ds e1
    | none => .st)
  | none => .st := (rfl)
@[simp] theorem walk_lst (ds : List D) : walk (.lst ds) = some ds := (rfl)
@[simp] theorem ev_rng1 (a : M (List RV)) (e : Env) : dRng1 a e = (a e).bind fun rs e => match rs.mapM (view e) with
  | some ds => (match oneI ds with
    | some j => if small62 j = true then .ok (rngD 0 j.toNat) e else .st
    | none => .st)
  | none => .st := (rfl)
@[simp] theorem ev_rng2 (a : M (List RV)) (e : Env) : dRng2 a e = (a e).bind fun rs e => match rs.mapM (view e) with
  | some ds => (match twoI ds with
    | some (i, j) => if (small62 i && small62 j) = true then .ok (rngD i (j - i).toNat) e else .st
    | none => .st)
  | none => .st := (rfl)
@[simp] theorem oneI_int (i : Int) : oneI [.int i] = some i := (rfl)
@[simp] theorem twoI_int (i j : Int) : twoI [.int i, .int j] = some (i, j) := (rfl)
@[simp] theorem small62_def (i : Int) : small62 i = decide (-(2 ^ 62) ≤ i ∧ i < 2 ^ 62) := (rfl)
@[simp] theorem inB_def (i : Int) (k : Nat) : inB i k = decide (-(2 ^ k) < i ∧ i < 2 ^ k) := (rfl)
@[simp] theorem gN_def (i : Nat) (d : D) (e : Env) : gN i d e = putR i (.fz d) e := (rfl)
@[simp] theorem ev_for (it : M (List D)) (g : Tg) (body : M Fl) (e : Env) : dFor it g body e = (it e).bind fun ds => loopF g body ds := (rfl)
@[simp] theorem ev_call (md : List Bool) (φ : Fn) (a : M (List RV)) (e : Env) : dCall md φ a e = (a e).bind fun rs e => match load md rs e with
  | some (ss, e1) => (match φ ss with
    | .st => .st
    | .ok r ss' => (match unload md rs ss' e1 with
      | some e2 => .ok (svR r) e2
      | none => .st)
    | .ex x ss' => (match unload md rs ss' e1 with
      | some e2 => .ex x e2
      | none => .st))
  | none => .st := (rfl)
@[simp] theorem ld_nil (e : Env) : load [] [] e = some ([], e) := (rfl)
@[simp] theorem ld_false (md : List Bool) (r : RV) (rs : List RV) (e : Env) : load (false :: md) (r :: rs) e = (match (match frzR r e with
    | some (d, e1) => some (SV.fz d, e1)
    | none => none) with
    | some (s, e1) => (match load md rs e1 with
      | some (ss, e2) => some (s :: ss, e2)
      | none => none)
    | none => none) := (rfl)
@[simp] theorem ld_true (md : List Bool) (i : Nat) (rs : List RV) (l : List (Option SV)) (p : List Nat) : load (true :: md) (.var i :: rs) ⟨l, p⟩ = (match (match l[i]? with
      | some (some s) => some (s, (⟨l.set i none, p⟩ : Env))
      | _ => none) with
    | some (s, e1) => (match load md rs e1 with
      | some (ss, e2) => some (s :: ss, e2)
      | none => none)
    | none => none) := (rfl)
@[simp] theorem ul_nil (e : Env) : unload [] [] [] e = some e := (rfl)
@[simp] theorem ul_false (md : List Bool) (r : RV) (rs : List RV) (s : SV) (ss : List SV) (e : Env) : unload (false :: md) (r :: rs) (s :: ss) e = unload md rs ss e := by cases r <;> rfl
@[simp] theorem ul_true (md : List Bool) (i : Nat) (rs : List RV) (s : SV) (ss : List SV) (e : Env) : unload (true :: md) (.var i :: rs) (s :: ss) e = if isClr e i = true then unload md rs ss (e.setS i s) else none := (rfl)
@[simp] theorem isClr_mk (l : List (Option SV)) (p : List Nat) (i : Nat) : isClr ⟨l, p⟩ i = (match l[i]? with
  | some none => true
  | _ => false) := (rfl)
@[simp] theorem svR_fz (d : D) : svR (.fz d) = .fz d := (rfl)
@[simp] theorem svR_ol (xs : List SV) : svR (.ol xs) = .own (.ol xs) := (rfl)
@[simp] theorem ev_callB (n : Nat) (φ : Fn) (a : M (List RV)) (e : Env) : dCallB n φ a e = (a e).bind fun rs e => match rs.mapM (view e) with
  | some ds => if ds.length = n then (match φ (ds.map .fz) with
    | .ok r _ => (match immS r with
      | some d => .ok (.fz d) e
      | none => .st)
    | .ex x _ => .ex x e
    | .st => .st) else .st
  | none => .st := (rfl)
@[simp] theorem immS_int (i : Int) : immS (.fz (.int i)) = some (.int i) := (rfl)
@[simp] theorem immS_bl (i : Bool) : immS (.fz (.bl i)) = some (.bl i) := (rfl)
@[simp] theorem immS_non : immS (.fz .non) = some .non := (rfl)
@[simp] theorem immS_str (s : Str) : immS (.fz (.str s)) = some (.str s) := (rfl)
@[simp] theorem ev_lst (a : M (List RV)) (e : Env) : dLst a e = (a e).bind fun rs e => match frzRs rs e with
  | some (ds, e') => if ds.length ≤ sizeLine then .ok (.own (.ol (fzs ds))) e' else .st
  | none => .st := (rfl)
@[simp] theorem size_pos : 0 ≤ sizeLine := Nat.zero_le _
theorem size_ge {n : Nat} (h : n ≤ 16777216) : n ≤ sizeLine := by rw [sizeLine_eq]; exact h
theorem size_gt {n : Nat} (h : n < 16777216) : n < sizeLine := by rw [sizeLine_eq]; exact h
def e18 : Int := 1000000000000000000
@[simp] theorem fPow_18 : fPow (.int 10) (.int 18) = some (.int e18) := by
  unfold fPow
  simp only
  rw [if_pos ⟨by decide, by decide, by decide⟩]
  rfl
@[simp] theorem blOf_bl (b : Bool) : blOf (.bl b) = some b := (rfl)
@[simp] theorem ev_chain (f g : D → D → Option D) (a b c : M RV) (e : Env) : dChain f g a b c e = (a e).bind fun r e => (b e).bind fun q e => match view e r, view e q with
  | some x, some y => (match (f x y).bind blOf with
    | some true => (c e).bind fun p e => (match view e q, view e p with
      | some y, some z => (match g y z with
        | some d => .ok (.fz d) e
        | none => .st)
      | _, _ => .st)
    | some false => .ok (.fz (.bl false)) e
    | none => .st)
  | _, _ => .st := (rfl)
/-! ### the laws' own numbers -/
def d__law_cell : M Fl := (dSeq (dIf (dT (dOp (fB fun i j => decide (i < j)) (dVar 1) (dCB lenD (dCons (dVar 0) dNil)))) (dRet (dIx (dVar 0) (dVar 1))) dNext)
  (dRet (dC (.int 0))))
def φ__law_cell : Fn := mkFn0 [false, false] 2 d__law_cell
@[simp] theorem itemD_scr (ns : List Int) (i : Int) : itemD (.scr ns) i = (atI ns i).map .int := (rfl)
theorem cell_ok (ns : List Int) (k : Nat) : ∃ c : Int, φ__law_cell [.fz (.scr ns), .fz (.int k)] = .ok (.fz (.int c)) [.fz (.scr ns), .fz (.int k)] := by
  cases h : ns[k]? with
  | some d =>
    have h1 : (k : Int) < ns.length := by have := (List.getElem?_eq_some_iff.mp h).1; omega
    exact ⟨d, by simp [φ__law_cell, mkFn0, mkFn, okArgs, env0, pinIx, d__law_cell, h, h1]⟩
  | none =>
    have h1 : ¬ (k : Int) < ns.length := by have := List.getElem?_eq_none_iff.mp h; omega
    exact ⟨0, by simp [φ__law_cell, mkFn0, mkFn, okArgs, env0, pinIx, d__law_cell, h, h1]⟩
def d__law_digits : M Fl := (dSeq (dSet 3 (dLst dNil))
  (dSeq (dFor (dRng2 (dCons (dVar 1) (dCons (dVar 2) dNil))) (gN 4) (dSeq (dSet 5 (dCall [false, false] φ__law_cell (dCons (dVar 0) (dCons (dVar 4) dNil))))
  (dSeq (dIf (dT (dOp (fB fun i j => decide (i < j)) (dVar 5) (dC (.int 0)))) (dSet 5 (dOp (fI (· - ·)) (dC (.int 1)) (dOp fMul (dC (.int 2)) (dVar 5)))) dNext)
  (dIf (dT (dOp (fB fun i j => decide (j ≤ i)) (dVar 5) (dOp fPow (dC (.int 10)) (dC (.int 18))))) (dFor (dRng1 (dCons (dC (.int 60)) dNil)) (gN 6) (dIf (dT (dOp (fB fun i j => decide (j < i)) (dVar 5) (dC (.int 0)))) (dSeq (dDrop (dApp 3 (dOp fMod (dCB intD (dCons (dVar 5) dNil)) (dC (.int 1000)))))
  (dSet 5 (dOp fDiv (dVar 5) (dC (.int 1000))))) dNext)) (dSeq (dSet 7 (dOp fMod (dCB intD (dCons (dOp (fI (· + ·)) (dOp (fI (· + ·)) (dOp fMul (dVar 5) (dC (.int 48271))) (dOp fMul (dVar 4) (dC (.int 69621)))) (dC (.int 11))) dNil)) (dC (.int 2147483647))))
  (dFor (dRng1 (dCons (dC (.int 12)) dNil)) (gN 6) (dSeq (dSet 7 (dOp fMod (dCB intD (dCons (dOp (fI (· + ·)) (dOp (fI (· + ·)) (dOp fMul (dVar 7) (dC (.int 16807))) (dOp fMul (dC (.int 7)) (dVar 6))) (dC (.int 1))) dNil)) (dC (.int 2147483647))))
  (dDrop (dApp 3 (dOp fMod (dCB intD (dCons (dOp fDiv (dVar 7) (dC (.int 997))) dNil)) (dC (.int 1000))))))))))))
  (dRet (dVar 3))))
def φ__law_digits : Fn := mkFn0 [false, false, false] 8 d__law_digits
theorem rng_at {lo : Int} {n i : Nat} {d : D} (h : (rngD lo n)[i]? = some d) : i < n ∧ d = .int (lo + i) := by
  unfold rngD at h
  rw [List.getElem?_map] at h
  cases q : (List.range n)[i]? with
  | none => rw [q] at h; cases h
  | some j =>
    rw [q] at h
    cases h
    have hlt : i < n := by simpa using (List.getElem?_eq_some_iff.mp q).1
    rw [List.getElem?_range hlt] at q
    cases q
    exact ⟨hlt, rfl⟩
@[simp] theorem rng_len (lo : Int) (n : Nat) : (rngD lo n).length = n := by simp [rngD]
/-- the digits' state: a list of iDs so far -/
def DgP (ns : List Int) (b : Nat) (e : Env) : Prop := ∃ (L : List Int) (v4 v5 v6 v7 : Option SV), L.length ≤ b ∧ e = ⟨[some (.fz (.scr ns)), some (.fz (.int 0)), some (.fz (.int 63)), some (.ol (fzs (iDs L))), v4, v5, v6, v7], []⟩
def dg1 : M Fl := dIf (dT (dOp (fB fun i j => decide (j < i)) (dVar 5) (dC (.int 0)))) (dSeq (dDrop (dApp 3 (dOp fMod (dCB intD (dCons (dVar 5) dNil)) (dC (.int 1000)))))
  (dSet 5 (dOp fDiv (dVar 5) (dC (.int 1000))))) dNext
theorem dg1_ok (ns : List Int) (b : Nat) (hb : b ≤ 10000) (L : List Int) (c : Int) (v4 v6 v7 : Option SV) (hL : L.length ≤ b) : ∃ e', loopF (gN 6) dg1 (rngD 0 60) ⟨[some (.fz (.scr ns)), some (.fz (.int 0)), some (.fz (.int 63)), some (.ol (fzs (iDs L))), v4, some (.fz (.int c)), v6, v7], []⟩ = .ok .nx e' ∧ DgP ns (b + 60) e' := by
  have h := loopF_inv0 (g := gN 6) (body := dg1) (fun i e => ∃ (L : List Int) (c : Int) (v6 : Option SV), L.length ≤ b + i ∧ e = ⟨[some (.fz (.scr ns)), some (.fz (.int 0)), some (.fz (.int 63)), some (.ol (fzs (iDs L))), v4, some (.fz (.int c)), v6, v7], []⟩) (rngD 0 60) _ ⟨L, c, v6, hL, rfl⟩ (by
    rintro i d e hd ⟨L, c, v6, hL, rfl⟩
    obtain ⟨hi, rfl⟩ := rng_at hd
    have hz : L.length < sizeLine := size_gt (by omega)
    by_cases hc : 0 < c
    · refine ⟨_, ⟨[some (.fz (.scr ns)), some (.fz (.int 0)), some (.fz (.int 63)), some (.ol (fzs (iDs (L ++ [c % 1000])))), v4, some (.fz (.int (c / 1000))), some (.fz (.int (0 + (i : Nat)))), v7], []⟩, rfl, .inl ?_, L ++ [c % 1000], c / 1000, _, by simp; omega, rfl⟩
      simp [dg1, hc, hz]
    · refine ⟨_, ⟨[some (.fz (.scr ns)), some (.fz (.int 0)), some (.fz (.int 63)), some (.ol (fzs (iDs L))), v4, some (.fz (.int c)), some (.fz (.int (0 + (i : Nat)))), v7], []⟩, rfl, .inl ?_, L, c, _, by omega, rfl⟩
      simp [dg1, hc])
  obtain ⟨e', h1, L', c', v6', h2, rfl⟩ := h
  exact ⟨_, h1, L', v4, _, v6', v7, by simpa using h2, rfl⟩
def dg2 : M Fl := dSeq (dSet 7 (dOp fMod (dCB intD (dCons (dOp (fI (· + ·)) (dOp (fI (· + ·)) (dOp fMul (dVar 7) (dC (.int 16807))) (dOp fMul (dC (.int 7)) (dVar 6))) (dC (.int 1))) dNil)) (dC (.int 2147483647))))
  (dDrop (dApp 3 (dOp fMod (dCB intD (dCons (dOp fDiv (dVar 7) (dC (.int 997))) dNil)) (dC (.int 1000)))))
theorem dg2_ok (ns : List Int) (b : Nat) (hb : b ≤ 10000) (L : List Int) (c : Int) (v4 v5 v6 : Option SV) (hL : L.length ≤ b) : ∃ e', loopF (gN 6) dg2 (rngD 0 12) ⟨[some (.fz (.scr ns)), some (.fz (.int 0)), some (.fz (.int 63)), some (.ol (fzs (iDs L))), v4, v5, v6, some (.fz (.int c))], []⟩ = .ok .nx e' ∧ DgP ns (b + 60) e' := by
  have h := loopF_inv0 (g := gN 6) (body := dg2) (fun i e => ∃ (L : List Int) (c : Int) (v6 : Option SV), L.length ≤ b + i ∧ e = ⟨[some (.fz (.scr ns)), some (.fz (.int 0)), some (.fz (.int 63)), some (.ol (fzs (iDs L))), v4, v5, v6, some (.fz (.int c))], []⟩) (rngD 0 12) _ ⟨L, c, v6, hL, rfl⟩ (by
    rintro i d e hd ⟨L, c, v6, hL, rfl⟩
    obtain ⟨hi, rfl⟩ := rng_at hd
    have hz : L.length < sizeLine := size_gt (by omega)
    refine ⟨_, ⟨[some (.fz (.scr ns)), some (.fz (.int 0)), some (.fz (.int 63)), some (.ol (fzs (iDs (L ++ [((c * 16807 + 7 * (0 + (i : Nat)) + 1) % 2147483647) / 997 % 1000])))), v4, v5, some (.fz (.int (0 + (i : Nat)))), some (.fz (.int ((c * 16807 + 7 * (0 + (i : Nat)) + 1) % 2147483647)))], []⟩, rfl, .inl ?_, _, _, _, ?_, rfl⟩
    · simp [dg2, hz]
    · simp; omega)
  obtain ⟨e', h1, L', c', v6', h2, rfl⟩ := h
  exact ⟨_, h1, L', v4, v5, v6', _, by rw [rng_len] at h2; omega, rfl⟩
def dgT : M Fl := dIf (dT (dOp (fB fun i j => decide (j ≤ i)) (dVar 5) (dOp fPow (dC (.int 10)) (dC (.int 18))))) (dFor (dRng1 (dCons (dC (.int 60)) dNil)) (gN 6) dg1) (dSeq (dSet 7 (dOp fMod (dCB intD (dCons (dOp (fI (· + ·)) (dOp (fI (· + ·)) (dOp fMul (dVar 5) (dC (.int 48271))) (dOp fMul (dVar 4) (dC (.int 69621)))) (dC (.int 11))) dNil)) (dC (.int 2147483647))))
      (dFor (dRng1 (dCons (dC (.int 12)) dNil)) (gN 6) dg2))
theorem t5 (ns : List Int) (b i : Nat) (hb : b ≤ 10000) (L : List Int) (v6 v7 : Option SV) (hL : L.length ≤ b) (c : Int) (hx : e18 ≤ c) : ∃ e', dgT ⟨[some (.fz (.scr ns)), some (.fz (.int 0)), some (.fz (.int 63)), some (.ol (fzs (iDs L))), some (.fz (.int i)), some (.fz (.int c)), v6, v7], []⟩ = .ok .nx e' ∧ DgP ns (b + 60) e' := by
  obtain ⟨e', h1, h2⟩ := dg1_ok ns b hb L c (some (.fz (.int i))) v6 v7 hL
  refine ⟨e', ?_, h2⟩
  unfold dgT
  simp [hx, h1]
def dgS : M Fl := dSet 7 (dOp fMod (dCB intD (dCons (dOp (fI (· + ·)) (dOp (fI (· + ·)) (dOp fMul (dVar 5) (dC (.int 48271))) (dOp fMul (dVar 4) (dC (.int 69621)))) (dC (.int 11))) dNil)) (dC (.int 2147483647)))
theorem dgS_ok (x1 x2 x3 x4 v6 v7 : Option SV) (c i : Int) : ∃ s : Int, dgS ⟨[x1, x2, x3, x4, some (.fz (.int i)), some (.fz (.int c)), v6, v7], []⟩ = .ok .nx ⟨[x1, x2, x3, x4, some (.fz (.int i)), some (.fz (.int c)), v6, some (.fz (.int s))], []⟩ := by
  refine ⟨(c * 48271 + i * 69621 + 11) % 2147483647, ?_⟩
  simp [dgS]
theorem t6 (ns : List Int) (b i : Nat) (hb : b ≤ 10000) (L : List Int) (v6 v7 : Option SV) (hL : L.length ≤ b) (c : Int) (hx : ¬ e18 ≤ c) : ∃ e', dgT ⟨[some (.fz (.scr ns)), some (.fz (.int 0)), some (.fz (.int 63)), some (.ol (fzs (iDs L))), some (.fz (.int i)), some (.fz (.int c)), v6, v7], []⟩ = .ok .nx e' ∧ DgP ns (b + 60) e' := by
  obtain ⟨s, hs⟩ := dgS_ok (some (.fz (.scr ns))) (some (.fz (.int 0))) (some (.fz (.int 63))) (some (.ol (fzs (iDs L)))) v6 v7 c i
  obtain ⟨e', h1, h2⟩ := dg2_ok ns b hb L s (some (.fz (.int i))) (some (.fz (.int c))) v6 hL
  refine ⟨e', ?_, h2⟩
  unfold dgS at hs
  unfold dgT
  rw [ev_if, ev_t, ev_op]
  simp [hx, hs, h1, -ev_set]
def dgB : M Fl := dSeq (dSet 5 (dCall [false, false] φ__law_cell (dCons (dVar 0) (dCons (dVar 4) dNil))))
  (dSeq (dIf (dT (dOp (fB fun i j => decide (i < j)) (dVar 5) (dC (.int 0)))) (dSet 5 (dOp (fI (· - ·)) (dC (.int 1)) (dOp fMul (dC (.int 2)) (dVar 5)))) dNext)
  dgT)
theorem dgB_ok (ns : List Int) (b i : Nat) (hb : b ≤ 10000) (L : List Int) (v5 v6 v7 : Option SV) (hL : L.length ≤ b) : ∃ e', dgB ⟨[some (.fz (.scr ns)), some (.fz (.int 0)), some (.fz (.int 63)), some (.ol (fzs (iDs L))), some (.fz (.int i)), v5, v6, v7], []⟩ = .ok .nx e' ∧ DgP ns (b + 60) e' := by
  obtain ⟨c0, hc⟩ := cell_ok ns i
  have tail : ∀ c : Int, ∃ e', dgT ⟨[some (.fz (.scr ns)), some (.fz (.int 0)), some (.fz (.int 63)), some (.ol (fzs (iDs L))), some (.fz (.int i)), some (.fz (.int c)), v6, v7], []⟩ = .ok .nx e' ∧ DgP ns (b + 60) e' := fun c => by
    by_cases hx : e18 ≤ c
    · exact t5 ns b i hb L v6 v7 hL c hx
    · exact t6 ns b i hb L v6 v7 hL c hx
  by_cases h0 : c0 < 0
  · obtain ⟨e', h1, h2⟩ := tail (1 - 2 * c0)
    refine ⟨e', ?_, h2⟩
    simp [dgB, hc, h0, h1]
  · obtain ⟨e', h1, h2⟩ := tail c0
    refine ⟨e', ?_, h2⟩
    simp [dgB, hc, h0, h1]
theorem digits_ok (ns : List Int) : ∃ ds : List Int, φ__law_digits [.fz (.scr ns), .fz (.int 0), .fz (.int 63)] = .ok (.ol (fzs (iDs ds))) [.fz (.scr ns), .fz (.int 0), .fz (.int 63)] := by
  have outer : ∃ e', loopF (gN 4) dgB (rngD 0 63) ⟨[some (.fz (.scr ns)), some (.fz (.int 0)), some (.fz (.int 63)), some (.ol []), none, none, none, none], []⟩ = .ok .nx e' ∧ DgP ns (60 * (rngD 0 63).length) e' := by
    refine loopF_inv0 (fun i e => DgP ns (60 * i) e) (rngD 0 63) _ ⟨[], none, none, none, none, Nat.le_refl _, rfl⟩ ?_
    rintro i d e hd ⟨L, v4, v5, v6, v7, hL, rfl⟩
    obtain ⟨hi, rfl⟩ := rng_at hd
    rw [Int.zero_add]
    obtain ⟨e', h1, h2⟩ := dgB_ok ns (60 * i) i (by omega) L v5 v6 v7 hL
    exact ⟨_, e', rfl, .inl h1, by rw [Nat.mul_succ]; exact h2⟩
  obtain ⟨e', h1, L, v4, v5, v6, v7, _, rfl⟩ := outer
  refine ⟨L, ?_⟩
  have h1' := h1
  unfold dgB dgT dg1 dg2 at h1'
  simp [φ__law_digits, mkFn0, mkFn, okArgs, env0, pinIx, d__law_digits, List.replicate, h1']
end VF

set_option maxRecDepth 100000
set_option maxHeartbeats 4000000
/-! More reckoning: equality of data, truth, logic, comprehensions that change the state. -/
namespace VF
set_option autoImplicit false
open PySem L2
/-! ### equality -/
def plD : Nat → D → Bool
  | _, .non => true
  | _, .int _ => true
  | _, .str s => PyData.strOk s
  | n + 1, .lst ds => ds.all (plD n)
  | n + 1, .tup ds => ds.all (plD n)
  | _, _ => false
theorem pl_all {n : Nat} (ih : ∀ d, plD n d = true → ∃ p, toP d = some p ∧ p.canLay0 = true ∧ p.depth ≤ n) : ∀ ds : List D, ds.all (plD n) = true → ∃ ps, toPs ds = some ps ∧ PyData.canLayAll0 ps = true ∧ PyData.depthAll ps ≤ n
  | [], _ => ⟨[], rfl, rfl, by simp [PyData.depthAll]⟩
  | d :: ds, h => by
    rw [List.all_cons, Bool.and_eq_true] at h
    obtain ⟨p, h1, h2, h3⟩ := ih d h.1
    obtain ⟨ps, q1, q2, q3⟩ := pl_all ih ds h.2
    refine ⟨p :: ps, by unfold toPs; rw [h1, q1], by simp [PyData.canLayAll0, h2, q2], ?_⟩
    simp only [PyData.depthAll]
    omega
theorem pl_ok : ∀ (n : Nat) (d : D), plD n d = true → ∃ p, toP d = some p ∧ p.canLay0 = true ∧ p.depth ≤ n := by
  have base : ∀ (n : Nat) (s : Str), PyData.strOk s = true → ∃ p, toP (.str s) = some p ∧ p.canLay0 = true ∧ p.depth ≤ n := fun n s h => ⟨.str s, rfl, by simp [PyData.canLay0, h], by simp [PyData.depth]⟩
  intro n
  induction n with
  | zero =>
    intro d h
    cases d with
    | non => exact ⟨_, rfl, rfl, by simp [PyData.depth]⟩
    | int i => exact ⟨_, rfl, rfl, by simp [PyData.depth]⟩
    | str s => exact base _ s h
    | _ => cases h
  | succ n ih =>
    intro d h
    cases d with
    | non => exact ⟨_, rfl, rfl, by simp [PyData.depth]⟩
    | int i => exact ⟨_, rfl, rfl, by simp [PyData.depth]⟩
    | str s => exact base _ s h
    | lst ds =>
      obtain ⟨ps, h1, h2, h3⟩ := pl_all ih ds h
      exact ⟨.list ps, by show (toPs ds).map _ = _; rw [h1]; rfl, by simpa [PyData.canLay0] using h2, by simp only [PyData.depth]; omega⟩
    | tup ds =>
      obtain ⟨ps, h1, h2, h3⟩ := pl_all ih ds h
      exact ⟨.tuple ps, by show (toPs ds).map _ = _; rw [h1]; rfl, by simpa [PyData.canLay0] using h2, by simp only [PyData.depth]; omega⟩
    | _ => cases h
theorem pl_eqs {n m : Nat} (ih : ∀ a b p q, plD n a = true → plD m b = true → toP a = some p → toP b = some q → (PyData.eqv p q = true ↔ a = b)) : ∀ (as bs : List D) (ps qs : List PyData), as.all (plD n) = true → bs.all (plD m) = true → toPs as = some ps → toPs bs = some qs → (PyData.eqvAll ps qs = true ↔ as = bs)
  | [], [], ps, qs, _, _, q1, q2 => by cases q1; cases q2; simp [PyData.eqvAll]
  | [], b :: bs, ps, qs, _, hb, q1, q2 => by
    cases q1
    unfold toPs at q2
    split at q2
    · cases q2; simp [PyData.eqvAll]
    · cases q2
  | a :: as, [], ps, qs, ha, _, q1, q2 => by
    cases q2
    unfold toPs at q1
    split at q1
    · cases q1; simp [PyData.eqvAll]
    · cases q1
  | a :: as, b :: bs, ps, qs, ha, hb, q1, q2 => by
    rw [List.all_cons, Bool.and_eq_true] at ha hb
    unfold toPs at q1 q2
    split at q1
    · split at q2
      · rename_i p ps z1 z2 _ _ q qs z3 z4
        cases q1; cases q2
        simp only [PyData.eqvAll, Bool.and_eq_true, ih a b p q ha.1 hb.1 z1 z3, pl_eqs ih as bs ps qs ha.2 hb.2 z2 z4, List.cons.injEq]
      · cases q2
    · cases q1
theorem toP_lst (ds : List D) : toP (.lst ds) = (toPs ds).map .list := rfl
theorem toP_tup (ds : List D) : toP (.tup ds) = (toPs ds).map .tuple := rfl
theorem pl_eq : ∀ (n m : Nat) (a b : D) (p q : PyData), plD n a = true → plD m b = true → toP a = some p → toP b = some q → (PyData.eqv p q = true ↔ a = b) := by
  intro n
  induction n with
  | zero =>
    intro m a b p q ha hb ea eb
    cases a with
    | non => cases ea; cases b <;> first | (exfalso; revert hb; cases m <;> (intro hb; cases hb); done) | (cases eb; simp [PyData.eqv]; done) | (rw [toP_lst] at eb; cases z : toPs _ <;> rw [z] at eb <;> cases eb; simp [PyData.eqv]; done) | (rw [toP_tup] at eb; cases z : toPs _ <;> rw [z] at eb <;> cases eb; simp [PyData.eqv]; done)
    | int i => cases ea; cases b <;> first | (exfalso; revert hb; cases m <;> (intro hb; cases hb); done) | (cases eb; simp [PyData.eqv]; done) | (rw [toP_lst] at eb; cases z : toPs _ <;> rw [z] at eb <;> cases eb; simp [PyData.eqv]; done) | (rw [toP_tup] at eb; cases z : toPs _ <;> rw [z] at eb <;> cases eb; simp [PyData.eqv]; done)
    | str i => cases ea; cases b <;> first | (exfalso; revert hb; cases m <;> (intro hb; cases hb); done) | (cases eb; simp [PyData.eqv]; done) | (rw [toP_lst] at eb; cases z : toPs _ <;> rw [z] at eb <;> cases eb; simp [PyData.eqv]; done) | (rw [toP_tup] at eb; cases z : toPs _ <;> rw [z] at eb <;> cases eb; simp [PyData.eqv]; done)
    | _ => cases ha
  | succ n ih =>
    intro m a b p q ha hb ea eb
    cases a with
    | non => cases ea; cases b <;> first | (exfalso; revert hb; cases m <;> (intro hb; cases hb); done) | (cases eb; simp [PyData.eqv]; done) | (rw [toP_lst] at eb; cases z : toPs _ <;> rw [z] at eb <;> cases eb; simp [PyData.eqv]; done) | (rw [toP_tup] at eb; cases z : toPs _ <;> rw [z] at eb <;> cases eb; simp [PyData.eqv]; done)
    | int i => cases ea; cases b <;> first | (exfalso; revert hb; cases m <;> (intro hb; cases hb); done) | (cases eb; simp [PyData.eqv]; done) | (rw [toP_lst] at eb; cases z : toPs _ <;> rw [z] at eb <;> cases eb; simp [PyData.eqv]; done) | (rw [toP_tup] at eb; cases z : toPs _ <;> rw [z] at eb <;> cases eb; simp [PyData.eqv]; done)
    | str i => cases ea; cases b <;> first | (exfalso; revert hb; cases m <;> (intro hb; cases hb); done) | (cases eb; simp [PyData.eqv]; done) | (rw [toP_lst] at eb; cases z : toPs _ <;> rw [z] at eb <;> cases eb; simp [PyData.eqv]; done) | (rw [toP_tup] at eb; cases z : toPs _ <;> rw [z] at eb <;> cases eb; simp [PyData.eqv]; done)
    | lst as =>
      rw [toP_lst] at ea
      cases z1 : toPs as with
      | none => rw [z1] at ea; cases ea
      | some ps =>
        rw [z1] at ea; cases ea
        cases b with
        | lst bs =>
          rw [toP_lst] at eb
          cases z2 : toPs bs with
          | none => rw [z2] at eb; cases eb
          | some qs =>
            rw [z2] at eb; cases eb
            cases m with
            | zero => cases hb
            | succ m =>
              simp only [PyData.eqv, D.lst.injEq]
              exact pl_eqs (fun a b p q h1 h2 h3 h4 => ih m a b p q h1 h2 h3 h4) as bs ps qs ha hb z1 z2
        | tup bs => rw [toP_tup] at eb; cases z : toPs bs <;> rw [z] at eb <;> cases eb; simp [PyData.eqv]
        | _ => first | (exfalso; revert hb; cases m <;> (intro hb; cases hb); done) | (cases eb; simp [PyData.eqv]; done)
    | tup as =>
      rw [toP_tup] at ea
      cases z1 : toPs as with
      | none => rw [z1] at ea; cases ea
      | some ps =>
        rw [z1] at ea; cases ea
        cases b with
        | tup bs =>
          rw [toP_tup] at eb
          cases z2 : toPs bs with
          | none => rw [z2] at eb; cases eb
          | some qs =>
            rw [z2] at eb; cases eb
            cases m with
            | zero => cases hb
            | succ m =>
              simp only [PyData.eqv, D.tup.injEq]
              exact pl_eqs (fun a b p q h1 h2 h3 h4 => ih m a b p q h1 h2 h3 h4) as bs ps qs ha hb z1 z2
        | lst bs => rw [toP_lst] at eb; cases z : toPs bs <;> rw [z] at eb <;> cases eb; simp [PyData.eqv]
        | _ => first | (exfalso; revert hb; cases m <;> (intro hb; cases hb); done) | (cases eb; simp [PyData.eqv]; done)
    | _ => cases ha
theorem eqD_pl {a b : D} [Decidable (a = b)] (ha : plD 64 a = true) (hb : plD 64 b = true) : eqD a b = some (decide (a = b)) := by
  obtain ⟨p, h1, h2, h3⟩ := pl_ok 64 a ha
  obtain ⟨q, k1, k2, k3⟩ := pl_ok 64 b hb
  have e := pl_eq 64 64 a b p q ha hb h1 k1
  unfold eqD
  rw [h1, k1]
  simp only
  rw [if_pos (by simp [SeqAt.shaped, h2, k2, h3, k3])]
  by_cases h : a = b
  · rw [e.mpr h, decide_eq_true h]
  · rw [decide_eq_false h]
    cases z : PyData.eqv p q with
    | true => exact absurd (e.mp z) h
    | false => rfl
theorem iDs_all (L : List Int) (n : Nat) : (iDs L).all (plD n) = true := by
  rw [List.all_eq_true]
  intro d hd
  obtain ⟨i, _, rfl⟩ := List.mem_map.mp hd
  cases n <;> rfl
theorem iDs_inj {a b : List Int} : iDs a = iDs b ↔ a = b := by
  constructor
  · intro h
    induction a generalizing b with
    | nil => cases b <;> simp_all [iDs]
    | cons x xs ih => cases b with
      | nil => simp [iDs] at h
      | cons y ys =>
        simp only [iDs, List.map_cons, List.cons.injEq, D.int.injEq] at h
        rw [h.1, ih h.2]
  · intro h; rw [h]
@[simp] theorem fEq_int (i j : Int) : fEq (.int i) (.int j) = some (.bl (decide (i = j))) := by
  have : Decidable (D.int i = D.int j) := if h : i = j then isTrue (by rw [h]) else isFalse (fun q => h (D.int.inj q))
  unfold fEq
  rw [eqD_pl rfl rfl]
  simp
@[simp] theorem fNe_int (i j : Int) : fNe (.int i) (.int j) = some (.bl (decide (i ≠ j))) := by
  have : Decidable (D.int i = D.int j) := if h : i = j then isTrue (by rw [h]) else isFalse (fun q => h (D.int.inj q))
  unfold fNe
  rw [eqD_pl rfl rfl]
  simp
@[simp] theorem fEq_iDs (a b : List Int) : fEq (.lst (iDs a)) (.lst (iDs b)) = some (.bl (decide (a = b))) := by
  have : Decidable (D.lst (iDs a) = D.lst (iDs b)) := if h : a = b then isTrue (by rw [h]) else isFalse (fun q => h (iDs_inj.mp (D.lst.inj q)))
  unfold fEq
  rw [eqD_pl (a := .lst (iDs a)) (b := .lst (iDs b)) (iDs_all a 63) (iDs_all b 63)]
  simp [iDs_inj]
@[simp] theorem fNe_iDs (a b : List Int) : fNe (.lst (iDs a)) (.lst (iDs b)) = some (.bl (decide (a ≠ b))) := by
  have : Decidable (D.lst (iDs a) = D.lst (iDs b)) := if h : a = b then isTrue (by rw [h]) else isFalse (fun q => h (iDs_inj.mp (D.lst.inj q)))
  unfold fNe
  rw [eqD_pl (a := .lst (iDs a)) (b := .lst (iDs b)) (iDs_all a 63) (iDs_all b 63)]
  simp [iDs_inj]
/-! ### truth, logic -/
@[simp] theorem truD_bl (b : Bool) : truD (.bl b) = some b := (rfl)
@[simp] theorem truD_lst (ds : List D) : truD (.lst ds) = some !ds.isEmpty := (rfl)
@[simp] theorem truD_int (i : Int) : truD (.int i) = some (i != 0) := (rfl)
@[simp] theorem truD_non : truD .non = some false := (rfl)
@[simp] theorem iDs_emp (L : List Int) : (iDs L).isEmpty = L.isEmpty := by cases L <;> rfl
@[simp] theorem isi_int_int (i : Int) : isiD [.int i, .ty "int"] = some (.bl true) := (rfl)
theorem kit_ib : kitB "int" "bool" = some false := by decide +kernel
@[simp] theorem isi_int_bool (i : Int) : isiD [.int i, .ty "bool"] = some (.bl false) := by unfold isiD tyName; simp only [kit_ib]; rfl
@[simp] theorem isi_lst_lst (i : List D) : isiD [.lst i, .ty "list"] = some (.bl true) := (rfl)
@[simp] theorem ev_bl (a : M RV) (k : Bool → M RV) (e : Env) : dBl a k e = (a e).bind fun r e => match (view e r).bind blOf with
  | some b => k b e
  | none => .st := (rfl)
@[simp] theorem ev_andV (a b : M RV) (e : Env) : dAndV a b e = (a e).bind fun r e => match (view e r).bind blOf with
  | some true => b e
  | some false => .ok (.fz (.bl false)) e
  | none => .st := by
  show (a e).bind _ = _
  congr 1; funext r e; cases (view e r).bind blOf with
  | none => rfl
  | some b => cases b <;> rfl
@[simp] theorem ev_orV (a b : M RV) (e : Env) : dOrV a b e = (a e).bind fun r e => match (view e r).bind blOf with
  | some true => .ok (.fz (.bl true)) e
  | some false => b e
  | none => .st := by
  show (a e).bind _ = _
  congr 1; funext r e; cases (view e r).bind blOf with
  | none => rfl
  | some b => cases b <;> rfl
@[simp] theorem ev_notV (a : M RV) (e : Env) : dNotV a e = (a e).bind fun r e => match (view e r).bind blOf with
  | some b => .ok (.fz (.bl (!b))) e
  | none => .st := (rfl)
@[simp] theorem ev_ifE (c : M Bool) (a b : M RV) (e : Env) : dIfE c a b e = (c e).bind fun k e => match k with
  | true => a e
  | false => b e := by unfold dIfE M.bind; cases c e <;> (try rfl); rename_i c e; cases c <;> rfl
@[simp] theorem sumD_iDs (L : List Int) : sumD [.lst (iDs L)] = some (.int L.sum) := by unfold sumD; show (intsOf (iDs L)).map _ = _; simp
theorem maxD_iDs (n : Int) (L : List Int) : maxD [.lst (iDs (n :: L))] = some (.int (maxI n L)) := by
  unfold maxD
  show (match intsOf (iDs (n :: L)) with | some (n :: ns) => some (D.int (maxI n ns)) | _ => none) = _
  rw [intsOf_iDs]
theorem minD_iDs (n : Int) (L : List Int) : minD [.lst (iDs (n :: L))] = some (.int (minI n L)) := by
  unfold minD
  show (match intsOf (iDs (n :: L)) with | some (n :: ns) => some (D.int (minI n ns)) | _ => none) = _
  rw [intsOf_iDs]
@[simp] theorem kidI_mk (l : List (Option SV)) (p : List Nat) (j : Nat) (k : Int) : kidI ⟨l, p⟩ j k = (match l[j]? with
  | some (some (.ol xs)) => (match kid xs k with
    | some (.int x) => some x
    | _ => none)
  | _ => none) := (rfl)
@[simp] theorem ev_augIx (j : Nat) (b : M RV) (f : Int → Int → Int) (a : M RV) (e0 : Env) : dAugIx j b f a e0 = (match e0.sl[j]? with
  | some (some (.ol _)) => (b e0).bind fun q e => match view e q with
    | some (.int k) => if 0 ≤ k then (match kidI e j k with
      | some x => (a e).bind fun r e1 => (match view e1 r with
        | some (.int y) => (match e1.sl[j]? with
          | some (some (.ol xs)) => (match ixN xs.length k with
            | some n => .ok .nx (e1.setS j (.ol (xs.set n (.fz (.int (f x y))))))
            | none => .st)
          | _ => .st)
        | _ => .st)
      | _ => .st) else .st
    | _ => .st
  | _ => .st) := (rfl)
/-! ### comprehensions without a test that change the state -/
theorem comp_gen {own : List Nat} {it : M (List D)} {g : Tg} {te : M RV} {e e0 ef : Env} (n : Nat) (xs : List D) (y : Nat → D) (St : Nat → Env) (hit : it e = .ok xs e0) (hn : xs.length = n) (hz : n ≤ sizeLine) (hp : noPn own e0 = true) (h0 : wipeE own e0 = St 0)
    (hs : ∀ (i : Nat) d, i < n → xs[i]? = some d → ∃ e1 r e3 e4, g d (St i) = some e1 ∧ te e1 = .ok r e3 ∧ frzR r e3 = some (y i, e4) ∧ noPn own e4 = true ∧ wipeE own e4 = St (i + 1))
    (hr : restE own e0 (St n) = some ef) : dComp own it g dYes te e = .ok (.own (.ol (fzs ((List.range n).map y)))) ef := by
  have key : ∃ acc' e', loopC own g dYes te xs [] (wipeE own e0) = .ok acc' e' ∧ (e' = St (0 + xs.length) ∧ acc' = (List.range (0 + xs.length)).map y) := by
    refine loopC_inv (fun i acc e => e = St i ∧ acc = (List.range i).map y) xs 0 [] _ ⟨h0, rfl⟩ ?_
    rintro i d acc e hd ⟨rfl, rfl⟩
    rw [Nat.zero_add]
    have hlt : i < n := by have := (List.getElem?_eq_some_iff.mp hd).1; omega
    obtain ⟨e1, r, e3, e4, h1, h2, h3, h4, h5⟩ := hs i d hlt hd
    refine ⟨e1, true, e1, h1, rfl, fun _ => ⟨r, e3, y i, e4, h2, h3, by rw [List.length_map, List.length_range]; omega, h4, h5, ?_⟩, fun q => nomatch q⟩
    rw [List.range_succ, List.map_append]
    rfl
  obtain ⟨acc', e', h1, rfl, rfl⟩ := key
  rw [Nat.zero_add, hn] at h1
  unfold dComp
  rw [mbind, hit, bind_ok]
  simp only [hp, if_true, h1, hr]
  rfl
theorem map_iDs (n : Nat) (F : Nat → Int) : (List.range n).map (fun i => D.int (F i)) = iDs ((List.range n).map F) := by
  unfold iDs
  rw [List.map_map]
  rfl
/-- a comprehension that leaves the state and gives shared data -/
theorem comp_fz {α : Type} {own : List Nat} {it : M (List D)} {g : Tg} {tt : M Bool} {te : M RV} {e : Env} (e0 : Env) (enc : α → D) (xs : List α) (f : α → D) (p : α → Bool) (hit : it e = .ok (xs.map enc) e0) (hz : xs.length ≤ 1000000)
    (hs : ∀ x ∈ xs, ∃ e1, g (enc x) (wipeE own e0) = some e1 ∧ tt e1 = .ok (p x) e1 ∧ (p x = true → te e1 = .ok (.fz (f x)) e1) ∧ noPn own e1 = true ∧ wipeE own e1 = wipeE own e0)
    (hp : noPn own e0 = true := by rfl) (hr : restE own e0 (wipeE own e0) = some e0 := by rfl) : dComp own it g tt te e = .ok (.own (.ol (fzs ((xs.filter p).map f)))) e0 :=
  comp_map enc xs f p hit hp (size_ge (by omega)) (fun x hx => by
    obtain ⟨e1, h1, h2, h3, h4, h5⟩ := hs x hx
    exact ⟨e1, h1, h2, h4, h5, fun hb => ⟨_, e1, e1, h3 hb, rfl, h4, h5⟩⟩) hr
theorem comp_fz1 {α : Type} {own : List Nat} {it : M (List D)} {g : Tg} {te : M RV} {e : Env} (e0 : Env) (enc : α → D) (xs : List α) (f : α → D) (hit : it e = .ok (xs.map enc) e0) (hz : xs.length ≤ 1000000)
    (hs : ∀ x ∈ xs, ∃ e1, g (enc x) (wipeE own e0) = some e1 ∧ te e1 = .ok (.fz (f x)) e1 ∧ noPn own e1 = true ∧ wipeE own e1 = wipeE own e0)
    (hp : noPn own e0 = true := by rfl) (hr : restE own e0 (wipeE own e0) = some e0 := by rfl) : dComp own it g dYes te e = .ok (.own (.ol (fzs (xs.map f)))) e0 :=
  comp_all enc xs f hit hp (size_ge (by omega)) (fun x hx => by
    obtain ⟨e1, h1, h3, h4, h5⟩ := hs x hx
    exact ⟨e1, h1, h4, h5, _, e1, e1, h3, rfl, h4, h5⟩) hr
/-! ### draws -/
def φ__law_draw : Fn := mkFn0 [true, false] 3 d__law_draw
@[simp] theorem draw_φ (ds : List Int) (at_ : Nat) (many : Int) (hm : 0 < many) : φ__law_draw [box ds at_, .fz (.int many)] = .ok (.fz (.int (drawV ds at_ many))) [box ds (at_ + 1), .fz (.int many)] := draw_ok ds at_ many hm
@[simp] theorem box_fold (ds : List Int) : SV.ol (fzs [.lst (iDs ds), .int 0]) = box ds 0 := (rfl)
@[simp] theorem varR_box (i : Nat) (e : Env) (ds : List Int) (k : Nat) : varR i e (some (some (box ds k))) = .ok (.var i) e := (rfl)
theorem drawV_ge (ds : List Int) (at_ : Nat) (many : Int) (hm : 0 < many) : 0 ≤ drawV ds at_ many := by
  unfold drawV
  split
  · exact Int.emod_nonneg _ (by omega)
  · exact Int.le_refl _
theorem drawV_lt (ds : List Int) (at_ : Nat) (many : Int) (hm : 0 < many) : drawV ds at_ many < many := by
  unfold drawV
  split
  · exact Int.emod_lt_of_pos _ hm
  · exact hm
def d__law_is_int : M Fl := (dRet (dAndV (dCB isiD (dCons (dVar 0) (dCons (dC (.ty "int")) dNil))) (dNotV (dCB isiD (dCons (dVar 0) (dCons (dC (.ty "bool")) dNil))))))
def φ__law_is_int : Fn := mkFn0 [false] 1 d__law_is_int
@[simp] theorem isint_φ (i : Int) : φ__law_is_int [.fz (.int i)] = .ok (.fz (.bl true)) [.fz (.int i)] := by
  simp [φ__law_is_int, mkFn0, mkFn, okArgs, env0, pinIx, d__law_is_int, List.replicate]
theorem loopF_nx {g : Tg} {body : M Fl} {d : D} {ds : List D} {e e1 e2 : Env} (h1 : g d e = some e1) (h2 : body e1 = .ok .nx e2) : loopF g body (d :: ds) e = loopF g body ds e2 := by
  show (match g d e with | none => R.st | some e1 => _) = _
  rw [h1]
  show (match body e1 with | .ok .nx e2 => _ | .ok .ct e2 => _ | .ok .bk e2 => _ | .ok (.rt r) e2 => _ | .ex x e2 => _ | .st => _) = _
  rw [h2]
theorem loopF_rt {g : Tg} {body : M Fl} {d : D} {ds : List D} {e e1 e2 : Env} {r : RV} (h1 : g d e = some e1) (h2 : body e1 = .ok (.rt r) e2) : loopF g body (d :: ds) e = .ok (.rt r) e2 := by
  show (match g d e with | none => R.st | some e1 => _) = _
  rw [h1]
  show (match body e1 with | .ok .nx e2 => _ | .ok .ct e2 => _ | .ok .bk e2 => _ | .ok (.rt r) e2 => _ | .ex x e2 => _ | .st => _) = _
  rw [h2]
/-- a call, with the callee's function kept whole: what simp would make of it the kernel reckons out -/
theorem call_step {md : List Bool} {φ : Fn} {a : M (List RV)} {e e1 e2 e3 : Env} {rs : List RV} {ss ss' : List SV} {r : SV} (ha : a e = .ok rs e1) (hl : load md rs e1 = some (ss, e2)) (hφ : φ ss = .ok r ss') (hu : unload md rs ss' e2 = some e3) : dCall md φ a e = .ok (svR r) e3 := by
  rw [ev_call, ha, bind_ok]
  simp only [hl, hφ, hu]
theorem set_step {i : Nat} {a : M RV} {e e1 e2 : Env} {r : RV} (ha : a e = .ok r e1) (hp : putR i r e1 = some e2) : dSet i a e = .ok .nx e2 := by
  rw [ev_set, ha, bind_ok]
  simp only [hp]
theorem small62_nat (k : Nat) (h : k ≤ 1000000) : small62 (k : Int) = true := by
  rw [small62_def]
  exact decide_eq_true (by omega)
/-- [f for k in range(n)] where f draws m numbers -/
theorem comp_draw {k : Nat} {it : M (List D)} {te : M RV} {e : Env} (E : SV → Option SV → Env) (ds : List Int) (a m n : Nat) (F : Nat → Int) (hit : it e = .ok (rngD 0 n) (E (box ds a) none)) (hz : n ≤ 1000000) (ht : ∀ a i, te (E (box ds a) (some (.fz (.int i)))) = .ok (.fz (.int (F a))) (E (box ds (a + m)) (some (.fz (.int i)))))
    (hw : ∀ b o, wipeE [k] (E b o) = E b none := by intros; rfl) (hp : ∀ b o, noPn [k] (E b o) = true := by intros; rfl) (hg : ∀ b d, gN k d (E b none) = some (E b (some (.fz d))) := by intros; rfl)
    (hr : ∀ b b', restE [k] (E b none) (E b' none) = some (E b' none) := by intros; rfl) : dComp [k] it (gN k) dYes te e = .ok (.own (.ol (fzs (iDs ((List.range n).map fun i => F (a + m * i)))))) (E (box ds (a + m * n)) none) := by
  refine (comp_gen (e0 := E (box ds a) none) n (rngD 0 n) (fun i => .int (F (a + m * i))) (fun i => E (box ds (a + m * i)) none) hit (rng_len _ _) (size_ge (by omega)) (hp _ _) (hw _ _) ?_ (hr _ _)).trans ?_
  · intro i d hi hd
    obtain ⟨_, rfl⟩ := rng_at hd
    exact ⟨_, _, _, _, hg _ _, ht _ _, rfl, hp _ _, by rw [hw, Nat.mul_succ, Nat.add_assoc]⟩
  · rw [map_iDs]
end VF

set_option maxRecDepth 100000
set_option maxHeartbeats 4000000
/-! Typed mirrors: results, what a state holds, how a function on states follows a plain function. -/
namespace VF
set_option autoImplicit false
open PySem L2
/-! ### results -/
inductive Res (α : Type) where
  | st | ok (a : α) | ex (x : Exc)
namespace Res
def bind {α β : Type} (p : Res α) (q : α → Res β) : Res β := match p with
  | .st => .st
  | .ok a => q a
  | .ex x => .ex x
@[simp] theorem bind_ok {α β : Type} (a : α) (q : α → Res β) : (Res.ok a).bind q = q a := (rfl)
@[simp] theorem bind_st {α β : Type} (q : α → Res β) : (Res.st : Res α).bind q = .st := (rfl)
@[simp] theorem bind_ex {α β : Type} (x : Exc) (q : α → Res β) : (Res.ex x : Res α).bind q = .ex x := (rfl)
@[simp] theorem bind_assoc {α β γ : Type} (p : Res α) (q : α → Res β) (r : β → Res γ) : (p.bind q).bind r = p.bind fun a => (q a).bind r := by cases p <;> rfl
end Res
/-! ### encodings -/
class Enc (α : Type) where
  enc : α → D
open Enc (enc)
structure T3 (α β γ : Type) where
  a : α
  b : β
  c : γ
  deriving DecidableEq, Inhabited
structure T4 (α β γ δ : Type) where
  a : α
  b : β
  c : γ
  d : δ
  deriving DecidableEq, Inhabited
structure T5 (α β γ δ ε : Type) where
  a : α
  b : β
  c : γ
  d : δ
  e : ε
  deriving DecidableEq, Inhabited
/-- a tuple of any length, its items alike -/
structure Tup (α : Type) where
  l : List α
  deriving DecidableEq, Inhabited
section
variable {α β γ δ ε : Type}
instance : Enc Int := ⟨.int⟩
instance : Enc Bool := ⟨.bl⟩
instance : Enc Str := ⟨.str⟩
instance : Enc Unit := ⟨fun _ => .non⟩
instance [Enc α] : Enc (List α) := ⟨fun xs => .lst (xs.map enc)⟩
instance [Enc α] : Enc (Tup α) := ⟨fun xs => .tup (xs.l.map enc)⟩
instance [Enc α] [Enc β] : Enc (α × β) := ⟨fun p => .tup [enc p.1, enc p.2]⟩
instance [Enc α] [Enc β] [Enc γ] : Enc (T3 α β γ) := ⟨fun p => .tup [enc p.a, enc p.b, enc p.c]⟩
instance [Enc α] [Enc β] [Enc γ] [Enc δ] : Enc (T4 α β γ δ) := ⟨fun p => .tup [enc p.a, enc p.b, enc p.c, enc p.d]⟩
instance [Enc α] [Enc β] [Enc γ] [Enc δ] [Enc ε] : Enc (T5 α β γ δ ε) := ⟨fun p => .tup [enc p.a, enc p.b, enc p.c, enc p.d, enc p.e]⟩
def encO [Enc α] : Option α → D
  | none => .non
  | some a => enc a
instance [Enc α] : Enc (Option α) := ⟨encO⟩
/-- data of a list -/
abbrev encs [Enc α] (xs : List α) : List D := xs.map enc
end
/-- what can be compared -/
class EqE (α : Type) [Enc α] where
  dep : Nat
  lay : ∀ a : α, ∃ p, toP (enc a) = some p ∧ p.canLay0 = true ∧ p.depth ≤ dep
  eqv : ∀ (a b : α) p q, toP (enc a) = some p → toP (enc b) = some q → (PyData.eqv p q = true ↔ a = b)
/-- .. and is never None -/
class NoN (α : Type) [Enc α] where
  nn : ∀ a : α, toP (enc a) ≠ some .none
section
variable {α β γ δ ε : Type}
instance : EqE Int where
  dep := 0
  lay := fun a => ⟨.int a, rfl, rfl, Nat.le_refl _⟩
  eqv := fun a b p q h1 h2 => by cases h1; cases h2; simp [PyData.eqv]
instance : EqE Bool where
  dep := 0
  lay := fun a => ⟨.bool a, rfl, rfl, Nat.le_refl _⟩
  eqv := fun a b p q h1 h2 => by cases h1; cases h2; simp [PyData.eqv]
instance : NoN Int := ⟨fun a h => by cases h⟩
instance : NoN Bool := ⟨fun a h => by cases h⟩
theorem toPs_lay [Enc α] [EqE α] : ∀ xs : List α, ∃ ps, toPs (xs.map enc) = some ps ∧ PyData.canLayAll0 ps = true ∧ PyData.depthAll ps ≤ EqE.dep α
  | [] => ⟨[], rfl, rfl, by simp [PyData.depthAll]⟩
  | x :: xs => by
    obtain ⟨p, h1, h2, h3⟩ := EqE.lay x
    obtain ⟨ps, k1, k2, k3⟩ := toPs_lay xs
    refine ⟨p :: ps, ?_, by simp [PyData.canLayAll0, h2, k2], ?_⟩
    · show toPs (enc x :: xs.map enc) = _
      unfold toPs; rw [h1, k1]
    · simp only [PyData.depthAll]; omega
theorem toPs_eqv [Enc α] [EqE α] : ∀ (xs ys : List α) ps qs, toPs (xs.map enc) = some ps → toPs (ys.map enc) = some qs → (PyData.eqvAll ps qs = true ↔ xs = ys)
  | [], [], ps, qs, h1, h2 => by cases h1; cases h2; simp [PyData.eqvAll]
  | [], y :: ys, ps, qs, h1, h2 => by
    cases h1
    obtain ⟨q, l1, _⟩ := EqE.lay y
    obtain ⟨qs', l2, _⟩ := toPs_lay ys
    have : toPs ((y :: ys).map enc) = some (q :: qs') := by show toPs (enc y :: ys.map enc) = _; unfold toPs; rw [l1, l2]
    rw [this] at h2; cases h2; simp [PyData.eqvAll]
  | x :: xs, [], ps, qs, h1, h2 => by
    cases h2
    obtain ⟨q, l1, _⟩ := EqE.lay x
    obtain ⟨qs', l2, _⟩ := toPs_lay xs
    have : toPs ((x :: xs).map enc) = some (q :: qs') := by show toPs (enc x :: xs.map enc) = _; unfold toPs; rw [l1, l2]
    rw [this] at h1; cases h1; simp [PyData.eqvAll]
  | x :: xs, y :: ys, ps, qs, h1, h2 => by
    obtain ⟨p, l1, _⟩ := EqE.lay x
    obtain ⟨ps', l2, _⟩ := toPs_lay xs
    obtain ⟨q, m1, _⟩ := EqE.lay y
    obtain ⟨qs', m2, _⟩ := toPs_lay ys
    have a1 : toPs ((x :: xs).map enc) = some (p :: ps') := by show toPs (enc x :: xs.map enc) = _; unfold toPs; rw [l1, l2]
    have a2 : toPs ((y :: ys).map enc) = some (q :: qs') := by show toPs (enc y :: ys.map enc) = _; unfold toPs; rw [m1, m2]
    rw [a1] at h1; rw [a2] at h2
    cases h1; cases h2
    simp only [PyData.eqvAll, Bool.and_eq_true, EqE.eqv x y p q l1 m1, toPs_eqv xs ys ps' qs' l2 m2, List.cons.injEq]
instance [Enc α] [EqE α] : EqE (List α) where
  dep := EqE.dep α + 1
  lay := fun xs => by
    obtain ⟨ps, k1, k2, k3⟩ := toPs_lay xs
    exact ⟨.list ps, by show (toPs (xs.map enc)).map _ = _; rw [k1]; rfl, by simpa [PyData.canLay0] using k2, by simp only [PyData.depth]; omega⟩
  eqv := fun xs ys p q h1 h2 => by
    obtain ⟨ps, k1, _⟩ := toPs_lay xs
    obtain ⟨qs, l1, _⟩ := toPs_lay ys
    have e1 : toP (enc xs) = some (.list ps) := by show (toPs (xs.map enc)).map _ = _; rw [k1]; rfl
    have e2 : toP (enc ys) = some (.list qs) := by show (toPs (ys.map enc)).map _ = _; rw [l1]; rfl
    rw [e1] at h1; rw [e2] at h2; cases h1; cases h2
    simp only [PyData.eqv]
    exact toPs_eqv xs ys ps qs k1 l1
instance [Enc α] : NoN (List α) := ⟨fun a h => by
  have h' : (toPs (a.map enc)).map PyData.list = some .none := h
  cases z : toPs (a.map enc) <;> rw [z] at h' <;> cases h'⟩
instance [Enc α] [EqE α] : EqE (Tup α) where
  dep := EqE.dep α + 1
  lay := fun xs => by
    obtain ⟨ps, k1, k2, k3⟩ := toPs_lay xs.l
    exact ⟨.tuple ps, by show (toPs (xs.l.map enc)).map _ = _; rw [k1]; rfl, by simpa [PyData.canLay0] using k2, by simp only [PyData.depth]; omega⟩
  eqv := fun xs ys p q h1 h2 => by
    obtain ⟨ps, k1, _⟩ := toPs_lay xs.l
    obtain ⟨qs, l1, _⟩ := toPs_lay ys.l
    have e1 : toP (enc xs) = some (.tuple ps) := by show (toPs (xs.l.map enc)).map _ = _; rw [k1]; rfl
    have e2 : toP (enc ys) = some (.tuple qs) := by show (toPs (ys.l.map enc)).map _ = _; rw [l1]; rfl
    rw [e1] at h1; rw [e2] at h2; cases h1; cases h2
    simp only [PyData.eqv]
    rw [toPs_eqv xs.l ys.l ps qs k1 l1]
    cases xs; cases ys; simp
theorem toP_tup2 {ds : List D} {ps : List PyData} (h : toPs ds = some ps) : toP (.tup ds) = some (.tuple ps) := by show (toPs ds).map _ = _; rw [h]; rfl
instance [Enc α] [EqE α] [Enc β] [EqE β] : EqE (α × β) where
  dep := max (EqE.dep α) (EqE.dep β) + 1
  lay := fun x => by
    obtain ⟨p, h1, h2, h3⟩ := EqE.lay x.1
    obtain ⟨q, k1, k2, k3⟩ := EqE.lay x.2
    refine ⟨.tuple [p, q], toP_tup2 (by simp [toPs, h1, k1]), by simp [PyData.canLay0, PyData.canLayAll0, h2, k2], ?_⟩
    simp only [PyData.depth, PyData.depthAll]; omega
  eqv := fun x y p q h1 h2 => by
    obtain ⟨p1, a1, _⟩ := EqE.lay x.1
    obtain ⟨p2, a2, _⟩ := EqE.lay x.2
    obtain ⟨q1, b1, _⟩ := EqE.lay y.1
    obtain ⟨q2, b2, _⟩ := EqE.lay y.2
    have e1 : toP (enc x) = some (.tuple [p1, p2]) := toP_tup2 (by simp [toPs, a1, a2])
    have e2 : toP (enc y) = some (.tuple [q1, q2]) := toP_tup2 (by simp [toPs, b1, b2])
    rw [e1] at h1; rw [e2] at h2; cases h1; cases h2
    simp only [PyData.eqv, PyData.eqvAll, Bool.and_true, Bool.and_eq_true, EqE.eqv _ _ _ _ a1 b1, EqE.eqv _ _ _ _ a2 b2]
    exact ⟨fun h => Prod.ext h.1 h.2, fun h => by rw [h]; exact ⟨rfl, rfl⟩⟩
instance [Enc α] [Enc β] : NoN (α × β) := ⟨fun a h => by
  have h' : (toPs [enc a.1, enc a.2]).map PyData.tuple = some .none := h
  cases z : toPs [enc a.1, enc a.2] <;> rw [z] at h' <;> cases h'⟩
instance [Enc α] : NoN (Tup α) := ⟨fun a h => by
  have h' : (toPs (a.l.map enc)).map PyData.tuple = some .none := h
  cases z : toPs (a.l.map enc) <;> rw [z] at h' <;> cases h'⟩
instance [Enc α] [EqE α] [Enc β] [EqE β] [Enc γ] [EqE γ] : EqE (T3 α β γ) where
  dep := max (EqE.dep α) (max (EqE.dep β) (EqE.dep γ)) + 1
  lay := fun x => by
    obtain ⟨p, h1, h2, h3⟩ := EqE.lay x.a
    obtain ⟨q, k1, k2, k3⟩ := EqE.lay x.b
    obtain ⟨r, l1, l2, l3⟩ := EqE.lay x.c
    refine ⟨.tuple [p, q, r], toP_tup2 (by simp [toPs, h1, k1, l1]), by simp [PyData.canLay0, PyData.canLayAll0, h2, k2, l2], ?_⟩
    simp only [PyData.depth, PyData.depthAll]; omega
  eqv := fun x y p q h1 h2 => by
    obtain ⟨p1, a1, _⟩ := EqE.lay x.a
    obtain ⟨p2, a2, _⟩ := EqE.lay x.b
    obtain ⟨p3, a3, _⟩ := EqE.lay x.c
    obtain ⟨q1, b1, _⟩ := EqE.lay y.a
    obtain ⟨q2, b2, _⟩ := EqE.lay y.b
    obtain ⟨q3, b3, _⟩ := EqE.lay y.c
    have e1 : toP (enc x) = some (.tuple [p1, p2, p3]) := toP_tup2 (by simp [toPs, a1, a2, a3])
    have e2 : toP (enc y) = some (.tuple [q1, q2, q3]) := toP_tup2 (by simp [toPs, b1, b2, b3])
    rw [e1] at h1; rw [e2] at h2; cases h1; cases h2
    simp only [PyData.eqv, PyData.eqvAll, Bool.and_true, Bool.and_eq_true, EqE.eqv _ _ _ _ a1 b1, EqE.eqv _ _ _ _ a2 b2, EqE.eqv _ _ _ _ a3 b3]
    cases x; cases y; simp
instance [Enc α] [Enc β] [Enc γ] : NoN (T3 α β γ) := ⟨fun a h => by
  have h' : (toPs [enc a.a, enc a.b, enc a.c]).map PyData.tuple = some .none := h
  cases z : toPs [enc a.a, enc a.b, enc a.c] <;> rw [z] at h' <;> cases h'⟩
instance [Enc α] [EqE α] [Enc β] [EqE β] [Enc γ] [EqE γ] [Enc δ] [EqE δ] : EqE (T4 α β γ δ) where
  dep := max (max (EqE.dep α) (EqE.dep δ)) (max (EqE.dep β) (EqE.dep γ)) + 1
  lay := fun x => by
    obtain ⟨p, h1, h2, h3⟩ := EqE.lay x.a
    obtain ⟨q, k1, k2, k3⟩ := EqE.lay x.b
    obtain ⟨r, l1, l2, l3⟩ := EqE.lay x.c
    obtain ⟨s, m1, m2, m3⟩ := EqE.lay x.d
    refine ⟨.tuple [p, q, r, s], toP_tup2 (by simp [toPs, h1, k1, l1, m1]), by simp [PyData.canLay0, PyData.canLayAll0, h2, k2, l2, m2], ?_⟩
    simp only [PyData.depth, PyData.depthAll]; omega
  eqv := fun x y p q h1 h2 => by
    obtain ⟨p1, a1, _⟩ := EqE.lay x.a
    obtain ⟨p2, a2, _⟩ := EqE.lay x.b
    obtain ⟨p3, a3, _⟩ := EqE.lay x.c
    obtain ⟨p4, a4, _⟩ := EqE.lay x.d
    obtain ⟨q1, b1, _⟩ := EqE.lay y.a
    obtain ⟨q2, b2, _⟩ := EqE.lay y.b
    obtain ⟨q3, b3, _⟩ := EqE.lay y.c
    obtain ⟨q4, b4, _⟩ := EqE.lay y.d
    have e1 : toP (enc x) = some (.tuple [p1, p2, p3, p4]) := toP_tup2 (by simp [toPs, a1, a2, a3, a4])
    have e2 : toP (enc y) = some (.tuple [q1, q2, q3, q4]) := toP_tup2 (by simp [toPs, b1, b2, b3, b4])
    rw [e1] at h1; rw [e2] at h2; cases h1; cases h2
    simp only [PyData.eqv, PyData.eqvAll, Bool.and_true, Bool.and_eq_true, EqE.eqv _ _ _ _ a1 b1, EqE.eqv _ _ _ _ a2 b2, EqE.eqv _ _ _ _ a3 b3, EqE.eqv _ _ _ _ a4 b4]
    cases x; cases y; simp
theorem toP_some [Enc α] (a : α) : toP (enc (some a)) = toP (enc a) := (rfl)
theorem eqv_non_l : ∀ q : PyData, PyData.eqv .none q = true ↔ q = .none := by intro q; cases q <;> simp [PyData.eqv]
theorem eqv_non_r : ∀ q : PyData, PyData.eqv q .none = true ↔ q = .none := by intro q; cases q <;> simp [PyData.eqv]
instance [Enc α] [EqE α] [NoN α] : EqE (Option α) where
  dep := EqE.dep α
  lay := fun x => match x with
    | none => ⟨.none, rfl, rfl, Nat.zero_le _⟩
    | some a => EqE.lay a
  eqv := fun x y p q h1 h2 => by
    cases x with
    | none =>
      cases h1
      rw [eqv_non_l]
      cases y with
      | none => cases h2; simp
      | some b =>
        have := NoN.nn b
        rw [toP_some] at h2
        constructor
        · intro e; subst e; exact absurd h2 this
        · intro e; cases e
    | some a =>
      cases y with
      | none =>
        cases h2
        rw [eqv_non_r]
        have := NoN.nn a
        rw [toP_some] at h1
        constructor
        · intro e; subst e; exact absurd h1 this
        · intro e; cases e
      | some b =>
        rw [toP_some] at h1 h2
        rw [EqE.eqv a b p q h1 h2]
        simp
theorem shaped_enc [Enc α] [EqE α] (a : α) (hd : EqE.dep α ≤ 64) : ∃ p, toP (enc a) = some p ∧ SeqAt.shaped p = true := by
  obtain ⟨p, h1, h2, h3⟩ := EqE.lay a
  exact ⟨p, h1, by simp [SeqAt.shaped, h2]; omega⟩
theorem eqD_enc [Enc α] [EqE α] [DecidableEq α] (a b : α) (hd : EqE.dep α ≤ 64) : eqD (enc a) (enc b) = some (decide (a = b)) := by
  obtain ⟨p, h1, h2⟩ := shaped_enc a hd
  obtain ⟨q, k1, k2⟩ := shaped_enc b hd
  have e := EqE.eqv a b p q h1 k1
  unfold eqD
  rw [h1, k1]
  simp only
  rw [if_pos (by simp [h2, k2])]
  by_cases h : a = b
  · rw [e.mpr h, decide_eq_true h]
  · rw [decide_eq_false h]
    cases z : PyData.eqv p q with
    | true => exact absurd (e.mp z) h
    | false => rfl
theorem fEq_enc [Enc α] [EqE α] [DecidableEq α] (a b : α) (hd : EqE.dep α ≤ 64) : fEq (enc a) (enc b) = some (.bl (decide (a = b))) := by
  unfold fEq; rw [eqD_enc a b hd]; rfl
theorem fNe_enc [Enc α] [EqE α] [DecidableEq α] (a b : α) (hd : EqE.dep α ≤ 64) : fNe (enc a) (enc b) = some (.bl (decide (a ≠ b))) := by
  unfold fNe; rw [eqD_enc a b hd]; simp
theorem eqF_eqv : ∀ {a b : D} {p q : PyData}, flatD a = true → flatD b = true → toP a = some p → toP b = some q → eqF a b = PyData.eqv p q := by
  intro a b p q ha hb h1 h2
  cases a <;> cases ha <;> cases b <;> cases hb <;> cases h1 <;> cases h2 <;> rfl
theorem any_mem [Enc α] [EqE α] [DecidableEq α] (a : α) (p : PyData) (ha : toP (enc a) = some p) : ∀ (xs : List α) (ps : List PyData), toPs (xs.map enc) = some ps → (ps.any fun z => PyData.eqv z p) = decide (a ∈ xs)
  | [], ps, h => by cases h; simp
  | x :: xs, ps, h => by
    obtain ⟨q, l1, _⟩ := EqE.lay x
    obtain ⟨qs, l2, _⟩ := toPs_lay xs
    have e : toPs ((x :: xs).map enc) = some (q :: qs) := by show toPs (enc x :: xs.map enc) = _; unfold toPs; rw [l1, l2]
    rw [e] at h; cases h
    rw [List.any_cons, any_mem a p ha xs qs l2]
    have e2 := EqE.eqv x a q p l1 ha
    by_cases hx : a = x
    · subst hx; rw [e2.mpr rfl]; simp
    · have : PyData.eqv q p = false := by
        cases z : PyData.eqv q p with
        | true => exact absurd (e2.mp z).symm hx
        | false => rfl
      rw [this]; simp [hx]
theorem inD_enc [Enc α] [EqE α] [DecidableEq α] (a : α) (xs : List α) (hd : EqE.dep α ≤ 63) : inD (enc a) (.lst (xs.map enc)) = some (decide (a ∈ xs)) := by
  obtain ⟨p, h1, h2⟩ := shaped_enc a (by omega)
  obtain ⟨ps, k1, k2, k3⟩ := toPs_lay xs
  unfold inD
  dsimp only
  by_cases hf : (flatD (enc a) && (xs.map enc).all flatD) = true
  · rw [if_pos hf]
    rw [Bool.and_eq_true] at hf
    congr 1
    rw [← any_mem a p h1 xs ps k1]
    have : ∀ (ds : List D) (ps : List PyData), ds.all flatD = true → toPs ds = some ps → (ds.any fun y => eqF y (enc a)) = ps.any fun z => PyData.eqv z p := by
      intro ds
      induction ds with
      | nil => intro ps _ h; cases h; rfl
      | cons d ds ih =>
        intro ps hall h
        rw [List.all_cons, Bool.and_eq_true] at hall
        unfold toPs at h
        cases z1 : toP d with
        | none => rw [z1] at h; cases h
        | some r =>
          cases z2 : toPs ds with
          | none => rw [z1, z2] at h; cases h
          | some rs =>
            rw [z1, z2] at h; cases h
            rw [List.any_cons, List.any_cons, ih rs hall.2 z2, eqF_eqv hall.1 hf.1 z1 h1]
    exact this _ _ hf.2 k1
  · rw [if_neg hf, h1, k1]
    simp only
    rw [if_pos (by
      rw [Bool.and_eq_true]
      refine ⟨h2, ?_⟩
      simp [SeqAt.shaped, PyData.canLay0, PyData.depth, k2]; omega), any_mem a p h1 xs ps k1]
theorem fIn_enc [Enc α] [EqE α] [DecidableEq α] (a : α) (xs : List α) (hd : EqE.dep α ≤ 63) : fIn (enc a) (.lst (xs.map enc)) = some (.bl (decide (a ∈ xs))) := by
  unfold fIn; rw [inD_enc a xs hd]; rfl
theorem fNotIn_enc [Enc α] [EqE α] [DecidableEq α] (a : α) (xs : List α) (hd : EqE.dep α ≤ 63) : fNotIn (enc a) (.lst (xs.map enc)) = some (.bl (decide (a ∉ xs))) := by
  unfold fNotIn; rw [inD_enc a xs hd]; simp
end
end VF

set_option maxRecDepth 100000
set_option maxHeartbeats 4000000
/-! What slots hold; a function on states follows a plain one (Sm); the rules for what is pure. -/
namespace VF
set_option autoImplicit false
open PySem L2
open Enc (enc)
inductive SD where
  | fz (d : D) | ol (ds : List D) | clr | val (d : D) | cf | any | x (s : SV)
def SD.ok : SD → Option SV → Prop
  | .fz d, o => o = some (.fz d)
  | .ol ds, o => o = some (.ol (fzs ds))
  | .clr, o => o = none
  | .val d, o => o = some (.fz d) ∨ ∃ ds, d = .lst ds ∧ o = some (.ol (fzs ds))
  | .cf, o => o = none ∨ ∃ d, o = some (.fz d)
  | .any, _ => True
  | .x s, o => o = some s
def F2 : List SD → List (Option SV) → Prop
  | [], [] => True
  | s :: S, o :: l => s.ok o ∧ F2 S l
  | _, _ => False
theorem F2.get : ∀ {S : List SD} {l : List (Option SV)} {i : Nat} {s : SD}, F2 S l → S[i]? = some s → ∃ o, l[i]? = some o ∧ s.ok o
  | s :: S, o :: l, 0, s', h, e => by cases e; exact ⟨o, rfl, h.1⟩
  | s :: S, o :: l, i + 1, s', h, e => by
    obtain ⟨o', h1, h2⟩ := F2.get (i := i) h.2 (by simpa using e)
    exact ⟨o', by simpa using h1, h2⟩
  | [], _, _, _, _, e => by simp at e
  | _ :: _, [], _, _, h, _ => h.elim
theorem F2.set : ∀ {S : List SD} {l : List (Option SV)} {s : SD} {o : Option SV} (i : Nat), F2 S l → s.ok o → F2 (S.set i s) (l.set i o)
  | s' :: S, o' :: l, s, o, 0, h, k => ⟨k, h.2⟩
  | s' :: S, o' :: l, s, o, i + 1, h, k => ⟨h.1, F2.set i h.2 k⟩
  | [], [], _, _, _, _, _ => trivial
  | [], _ :: _, _, _, _, h, _ => h.elim
  | _ :: _, [], _, _, _, h, _ => h.elim
structure Has (pn : List Nat) (S : List SD) (e : Env) : Prop where
  pn : e.pn = pn
  sl : F2 S e.sl
inductive W : List SD → List SD → Prop
  | nil : W [] []
  | rf {s : SD} {S S' : List SD} : W S S' → W (s :: S) (s :: S')
  | an {s : SD} {S S' : List SD} : W S S' → W (s :: S) (.any :: S')
  | cc {S S' : List SD} : W S S' → W (.clr :: S) (.cf :: S')
  | cz {d : D} {S S' : List SD} : W S S' → W (.fz d :: S) (.cf :: S')
  | vz {d : D} {S S' : List SD} : W S S' → W (.fz d :: S) (.val d :: S')
  | vo {ds : List D} {S S' : List SD} : W S S' → W (.ol ds :: S) (.val (.lst ds) :: S')
theorem W.refl : ∀ S : List SD, W S S
  | [] => .nil
  | _ :: S => .rf (W.refl S)
theorem F2.weak {S S' : List SD} (w : W S S') : ∀ {l : List (Option SV)}, F2 S l → F2 S' l := by
  induction w with
  | nil => intro l h; exact h
  | rf w ih => intro l h; cases l with
    | nil => exact h.elim
    | cons o l => exact ⟨h.1, ih h.2⟩
  | an w ih => intro l h; cases l with
    | nil => exact h.elim
    | cons o l => exact ⟨trivial, ih h.2⟩
  | cc w ih => intro l h; cases l with
    | nil => exact h.elim
    | cons o l => exact ⟨.inl h.1, ih h.2⟩
  | cz w ih => intro l h; cases l with
    | nil => exact h.elim
    | cons o l => exact ⟨.inr ⟨_, h.1⟩, ih h.2⟩
  | vz w ih => intro l h; cases l with
    | nil => exact h.elim
    | cons o l => exact ⟨.inl h.1, ih h.2⟩
  | vo w ih => intro l h; cases l with
    | nil => exact h.elim
    | cons o l => exact ⟨.inr ⟨_, rfl, h.1⟩, ih h.2⟩
theorem Has.weak {pn : List Nat} {S S' : List SD} {e : Env} (h : Has pn S e) (w : W S S') : Has pn S' e := ⟨h.pn, h.sl.weak w⟩
theorem Has.setS {pn : List Nat} {S : List SD} {e : Env} {s : SD} {v : SV} (h : Has pn S e) (i : Nat) (k : s.ok (some v)) : Has pn (S.set i s) (e.setS i v) := ⟨h.pn, h.sl.set i k⟩
theorem Has.clr {pn : List Nat} {S : List SD} {e : Env} (h : Has pn S e) (i : Nat) : Has pn (S.set i .clr) (e.clr i) := ⟨h.pn, h.sl.set i rfl⟩
/-! ### operands -/
inductive Opd where
  | f (d : D) | w (ds : List D) | y (d : D) | v (i : Nat) | u (i : Nat) (d : D) | o (s : SV)
def ROk : RV → Opd → Prop
  | r, .f d => r = .fz d
  | r, .w ds => r = .own (.ol (fzs ds))
  | r, .y d => r = .fz d ∨ ∃ ds, d = .lst ds ∧ r = .own (.ol (fzs ds))
  | r, .v i => r = .var i
  | r, .u i d => r = .fz d ∨ r = .var i
  | r, .o s => r = .own s
inductive Dt (S : List SD) : Opd → D → Prop
  | f {d : D} : Dt S (.f d) d
  | w {ds : List D} : Dt S (.w ds) (.lst ds)
  | y {d : D} : Dt S (.y d) d
  | v {i : Nat} {ds : List D} : S[i]? = some (.ol ds) → Dt S (.v i) (.lst ds)
  | vz {i : Nat} {d : D} : S[i]? = some (.fz d) → Dt S (.v i) d
  | u {i : Nat} {d : D} : S[i]? = some (.val d) → Dt S (.u i d) d
  | o {c : Str} {ns : List Str} {xs : List SV} {d : D} : SV.toD (.oo c ns xs) = d → Dt S (.o (.oo c ns xs)) d
  | x {i : Nat} {c : Str} {ns : List Str} {xs : List SV} {d : D} : S[i]? = some (.x (.oo c ns xs)) → SV.toD (.oo c ns xs) = d → Dt S (.v i) d
section
variable {pn : List Nat} {S S' S1 S2 : List SD} {e : Env} {r : RV} {o : Opd} {d : D}
theorem Has.slot (h : Has pn S e) {i : Nat} {s : SD} (q : S[i]? = some s) : ∃ o, e.sl[i]? = some o ∧ s.ok o := h.sl.get q
theorem view_of {i : Nat} {s : SV} (h : e.sl[i]? = some (some s)) : VF.view e (.var i) = some s.toD := by unfold VF.view; simp only [h]
theorem frz_of {i : Nat} {s : SV} (h : e.sl[i]? = some (some s)) : VF.frzR (.var i) e = some (s.toD, e.setS i (.fz s.toD)) := by unfold VF.frzR; simp only [h]
theorem Dt.view (h : Has pn S e) (k : ROk r o) (q : Dt S o d) : view e r = some d := by
  cases q with
  | f => cases k; rfl
  | w => cases k; show some (SV.toD _) = _; rw [toD_ol]
  | y => rcases k with rfl | ⟨ds, rfl, rfl⟩
         · rfl
         · show some (SV.toD _) = _; rw [toD_ol]
  | v q =>
    cases k
    obtain ⟨o, h1, h2⟩ := h.slot q
    cases h2
    rw [view_of h1, toD_ol]
  | vz q =>
    cases k
    obtain ⟨o, h1, h2⟩ := h.slot q
    cases h2
    rw [view_of h1]; rfl
  | u q =>
    rcases k with rfl | rfl
    · rfl
    · obtain ⟨o, h1, h2⟩ := h.slot q
      rcases h2 with rfl | ⟨ds, rfl, rfl⟩
      · rw [view_of h1]; rfl
      · rw [view_of h1, toD_ol]
  | o e => cases k; subst e; rfl
  | x q e =>
    cases k
    subst e
    obtain ⟨o, h1, h2⟩ := h.slot q
    cases h2
    rw [view_of h1]
/-- handing a value on as data -/
inductive Fz (S : List SD) : Opd → D → List SD → Prop
  | f {d : D} : Fz S (.f d) d S
  | w {ds : List D} : Fz S (.w ds) (.lst ds) S
  | y {d : D} : Fz S (.y d) d S
  | v {i : Nat} {ds : List D} : S[i]? = some (.ol ds) → Fz S (.v i) (.lst ds) (S.set i (.fz (.lst ds)))
  | vz {i : Nat} {d : D} : S[i]? = some (.fz d) → Fz S (.v i) d (S.set i (.fz d))
  | u {i : Nat} {d : D} : S[i]? = some (.val d) → Fz S (.u i d) d S
  | o {s : SV} : Fz S (.o s) s.toD S
  | x {i : Nat} {s : SV} : S[i]? = some (.x s) → Fz S (.v i) s.toD (S.set i (.fz s.toD))
theorem F2.same : ∀ {S : List SD} {l : List (Option SV)} {s : SD} {o : Option SV} {i : Nat}, F2 S l → S[i]? = some s → s.ok o → F2 S (l.set i o)
  | s' :: S, o' :: l, s, o, 0, h, q, k => by cases q; exact ⟨k, h.2⟩
  | s' :: S, o' :: l, s, o, i + 1, h, q, k => ⟨h.1, F2.same (i := i) h.2 (by simpa using q) k⟩
  | [], [], _, _, _, _, q, _ => by simp at q
  | [], _ :: _, _, _, _, h, _, _ => h.elim
  | _ :: _, [], _, _, _, h, _, _ => h.elim
theorem Fz.frz (h : Has pn S e) (k : ROk r o) (q : Fz S o d S') : ∃ e', frzR r e = some (d, e') ∧ Has pn S' e' := by
  cases q with
  | f => cases k; exact ⟨e, rfl, h⟩
  | w => cases k; exact ⟨e, by show some (SV.toD _, e) = _; rw [toD_ol], h⟩
  | y => rcases k with rfl | ⟨ds, rfl, rfl⟩
         · exact ⟨e, rfl, h⟩
         · exact ⟨e, by show some (SV.toD _, e) = _; rw [toD_ol], h⟩
  | v q =>
    cases k
    obtain ⟨o, h1, h2⟩ := h.slot q
    cases h2
    exact ⟨_, by rw [frz_of h1, toD_ol], h.setS _ rfl⟩
  | vz q =>
    cases k
    obtain ⟨o, h1, h2⟩ := h.slot q
    cases h2
    exact ⟨_, by rw [frz_of h1]; rfl, h.setS _ rfl⟩
  | u q =>
    rcases k with rfl | rfl
    · exact ⟨e, rfl, h⟩
    · obtain ⟨o, h1, h2⟩ := h.slot q
      rcases h2 with rfl | ⟨ds, rfl, rfl⟩
      · exact ⟨e.setS _ (.fz d), by rw [frz_of h1]; rfl, ⟨h.pn, h.sl.same q (.inl rfl)⟩⟩
      · exact ⟨e.setS _ (.fz (.lst ds)), by rw [frz_of h1, toD_ol], ⟨h.pn, h.sl.same q (.inl rfl)⟩⟩
  | o => cases k; exact ⟨e, rfl, h⟩
  | x q =>
    cases k
    obtain ⟨o, h1, h2⟩ := h.slot q
    cases h2
    exact ⟨_, by rw [frz_of h1], h.setS _ rfl⟩
inductive Fzs : List SD → List Opd → List D → List SD → Prop
  | nil {S : List SD} : Fzs S [] [] S
  | cons {S S1 S2 : List SD} {o : Opd} {os : List Opd} {d : D} {ds : List D} : Fz S o d S1 → Fzs S1 os ds S2 → Fzs S (o :: os) (d :: ds) S2
def ROks : List RV → List Opd → Prop
  | [], [] => True
  | r :: rs, o :: os => ROk r o ∧ ROks rs os
  | _, _ => False
theorem Fzs.frz {os : List Opd} {ds : List D} (q : Fzs S os ds S') : ∀ {e : Env} {rs : List RV}, Has pn S e → ROks rs os → ∃ e', frzRs rs e = some (ds, e') ∧ Has pn S' e' := by
  induction q with
  | nil => intro e rs h k; cases rs with
    | nil => exact ⟨e, rfl, h⟩
    | cons _ _ => exact k.elim
  | cons q1 q2 ih => intro e rs h k; cases rs with
    | nil => exact k.elim
    | cons r rs =>
      obtain ⟨e1, h1, h2⟩ := q1.frz h k.1
      obtain ⟨e2, h3, h4⟩ := ih h2 k.2
      refine ⟨e2, ?_, h4⟩
      unfold frzRs
      simp only [h1, h3]
inductive Dts (S : List SD) : List Opd → List D → Prop
  | nil : Dts S [] []
  | cons {o : Opd} {os : List Opd} {d : D} {ds : List D} : Dt S o d → Dts S os ds → Dts S (o :: os) (d :: ds)
theorem Dts.view {os : List Opd} {ds : List D} (q : Dts S os ds) : ∀ {rs : List RV}, Has pn S e → ROks rs os → rs.mapM (VF.view e) = some ds := by
  induction q with
  | nil => intro rs h k; cases rs with
    | nil => rfl
    | cons _ _ => exact k.elim
  | cons q1 q2 ih => intro rs h k; cases rs with
    | nil => exact k.elim
    | cons r rs => simp [Dt.view h k.1 q1, ih h k.2]
/-- storing a value in a name -/
inductive St (S : List SD) (i : Nat) : Opd → List SD → Prop
  | f {d : D} : St S i (.f d) (S.set i (.fz d))
  | w {ds : List D} : St S i (.w ds) (S.set i (.ol ds))
  | y {d : D} : St S i (.y d) (S.set i (.val d))
  | v {j : Nat} {ds : List D} : S[j]? = some (.ol ds) → St S i (.v j) ((S.set j (.fz (.lst ds))).set i (.fz (.lst ds)))
  | u {j : Nat} {d : D} : S[j]? = some (.val d) → St S i (.u j d) ((S.set j (.val d)).set i (.val d))
  | o {s : SV} : St S i (.o s) (S.set i (.x s))
theorem St.put {i : Nat} (h : Has pn S e) (k : ROk r o) (q : St S i o S') (hi : i ∉ pn) : ∃ e', putR i r e = some e' ∧ Has pn S' e' := by
  have hi' : i ∉ e.pn := by rw [h.pn]; exact hi
  unfold putR
  rw [if_neg hi']
  cases q with
  | f => cases k; exact ⟨_, rfl, h.setS (s := .fz _) i rfl⟩
  | w => cases k; exact ⟨_, rfl, h.setS (s := .ol _) i rfl⟩
  | o => cases k; exact ⟨_, rfl, h.setS (s := .x _) i rfl⟩
  | y => rcases k with rfl | ⟨ds, rfl, rfl⟩
         · exact ⟨_, rfl, h.setS (s := .val _) i (.inl rfl)⟩
         · exact ⟨_, rfl, h.setS (s := .val _) i (.inr ⟨_, rfl, rfl⟩)⟩
  | v q =>
    cases k
    obtain ⟨o, h1, h2⟩ := h.slot q
    cases h2
    refine ⟨_, by simp only [h1, toD_ol]; rfl, ?_⟩
    exact (h.setS (s := .fz _) _ rfl).setS (s := .fz _) _ rfl
  | u q =>
    rcases k with rfl | rfl
    · refine ⟨_, rfl, ?_⟩
      rename_i j d
      refine ⟨h.pn, F2.set i ?_ (.inl rfl)⟩
      have same : S.set j (.val d) = S := by
        obtain ⟨hl, hg⟩ := List.getElem?_eq_some_iff.mp q
        exact List.ext_getElem? fun n => by
          rw [List.getElem?_set]
          split
          · rename_i c; subst c; rw [q]
          · rfl
      rw [same]; exact h.sl
    · obtain ⟨o, h1, h2⟩ := h.slot q
      rcases h2 with rfl | ⟨ds, rfl, rfl⟩
      · exact ⟨_, by simp only [h1]; rfl, (h.setS (s := .val _) (v := .fz _) _ (.inl rfl)).setS (s := .val _) (v := .fz _) _ (.inl rfl)⟩
      · exact ⟨_, by simp only [h1, toD_ol], (h.setS (s := .val (.lst ds)) (v := .fz (.lst ds)) _ (.inl rfl)).setS (s := .val (.lst ds)) (v := .fz (.lst ds)) _ (.inl rfl)⟩
end
/-! ### following -/
def SmD {α β : Type} (r : R β) (p : Res α) (G : α → β → Env → Prop) (X : Exc → Env → Prop) : Prop := match p with
  | .st => True
  | .ok a => ∃ b e, r = .ok b e ∧ G a b e
  | .ex x => ∃ e, r = .ex x e ∧ X x e
structure Sm {α β : Type} (r : R β) (p : Res α) (G : α → β → Env → Prop) (X : Exc → Env → Prop) : Prop where
  run : SmD r p G X
section
variable {α β γ δ : Type} {X : Exc → Env → Prop}
theorem Sm.bind {r : R β} {p : Res α} {G : α → β → Env → Prop} {K : β → M δ} {q : α → Res γ} {G' : γ → δ → Env → Prop} (h : Sm r p G X) (k : ∀ a b e, G a b e → Sm (K b e) (q a) G' X) : Sm (r.bind K) (p.bind q) G' X := by
  cases p with
  | st => first | trivial | exact ⟨trivial⟩
  | ok a => obtain ⟨b, e, rfl, h2⟩ := h; exact k a b e h2
  | ex x => obtain ⟨e, rfl, h2⟩ := h; exact ⟨e, rfl, h2⟩
theorem Sm.okI {b : β} {e : Env} {a : α} {G : α → β → Env → Prop} (h : G a b e) : Sm (.ok b e) (.ok a) G X := ⟨b, e, rfl, h⟩
theorem Sm.mono {r : R β} {p : Res α} {G G' : α → β → Env → Prop} {X' : Exc → Env → Prop} (h : Sm r p G X) (k : ∀ a b e, G a b e → G' a b e) (kx : ∀ x e, X x e → X' x e) : Sm r p G' X' := by
  cases p with
  | st => first | trivial | exact ⟨trivial⟩
  | ok a => obtain ⟨b, e, h1, h2⟩ := h; exact ⟨b, e, h1, k _ _ _ h2⟩
  | ex x => obtain ⟨e, h1, h2⟩ := h; exact ⟨e, h1, kx _ _ h2⟩
def okK {β : Type} : β → M β := fun b e => .ok b e
theorem bind_okK (r : R β) : r.bind okK = r := by cases r <;> rfl
theorem Sm.top {r : R β} {p : Res α} {G : α → β → Env → Prop} (h : Sm (r.bind okK) p G X) : Sm r p G X := by rwa [bind_okK] at h
theorem rbind_assoc {a b c : Type} (r : R a) (f : a → M b) (g : b → M c) : (r.bind f).bind g = r.bind fun x e => (f x e).bind g := by cases r <;> rfl
end
/-! ### pure expressions -/
def PJ (pn : List Nat) (S : List SD) (m : M RV) (o : Opd) : Prop := ∀ e, Has pn S e → ∃ r, m e = .ok r e ∧ ROk r o
def PB (pn : List Nat) (S : List SD) (m : M Bool) (c : Bool) : Prop := ∀ e, Has pn S e → m e = .ok c e
def PA (pn : List Nat) (S : List SD) (m : M (List RV)) (os : List Opd) : Prop := ∀ e, Has pn S e → ∃ rs, m e = .ok rs e ∧ ROks rs os
section
variable {pn : List Nat} {S : List SD} {a b c : M RV} {oa ob oc : Opd} {ma : M (List RV)} {os : List Opd}
theorem p_fz {i : Nat} {d : D} (q : S[i]? = some (.fz d)) : PJ pn S (dVar i) (.f d) := fun e h => by
  obtain ⟨o, h1, h2⟩ := h.slot q
  cases h2
  exact ⟨.fz d, by unfold dVar; rw [h1], rfl⟩
theorem p_ol {i : Nat} {ds : List D} (q : S[i]? = some (.ol ds)) : PJ pn S (dVar i) (.v i) := fun e h => by
  obtain ⟨o, h1, h2⟩ := h.slot q
  cases h2
  exact ⟨.var i, by unfold dVar; rw [h1], rfl⟩
theorem p_val {i : Nat} {d : D} (q : S[i]? = some (.val d)) : PJ pn S (dVar i) (.u i d) := fun e h => by
  obtain ⟨o, h1, h2⟩ := h.slot q
  unfold dVar
  rw [h1]
  rcases h2 with rfl | ⟨ds, rfl, rfl⟩
  · exact ⟨.fz d, rfl, .inl rfl⟩
  · exact ⟨.var i, rfl, .inr rfl⟩
theorem p_c {d : D} : PJ pn S (dC d) (.f d) := fun e h => ⟨.fz d, rfl, rfl⟩
theorem p_op {fn : D → D → Option D} {x y z : D} (ha : PJ pn S a oa) (hb : PJ pn S b ob) (da : Dt S oa x) (db : Dt S ob y) (h : fn x y = some z) : PJ pn S (dOp fn a b) (.f z) := fun e he => by
  obtain ⟨r1, h1, k1⟩ := ha e he
  obtain ⟨r2, h2, k2⟩ := hb e he
  refine ⟨.fz z, ?_, rfl⟩
  rw [ev_op, h1, bind_ok, h2, bind_ok, da.view he k1, db.view he k2]
  simp only [h]
theorem p_un {fn : D → Option D} {x z : D} (ha : PJ pn S a oa) (da : Dt S oa x) (h : fn x = some z) : PJ pn S (dUn fn a) (.f z) := fun e he => by
  obtain ⟨r1, h1, k1⟩ := ha e he
  refine ⟨.fz z, ?_, rfl⟩
  show (a e).bind _ = _
  rw [h1, bind_ok]
  simp only [da.view he k1, h]
section
variable {x y : Int} (ha : PJ pn S a oa) (hb : PJ pn S b ob) (da : Dt S oa (.int x) := by first | exact .f | exact .u rfl) (db : Dt S ob (.int y) := by first | exact .f | exact .u rfl)
include ha hb da db
theorem p_int {g : Int → Int → Int} : PJ pn S (dOp (fI g) a b) (.f (.int (g x y))) := p_op ha hb da db rfl
theorem p_cmp {g : Int → Int → Bool} : PJ pn S (dOp (fB g) a b) (.f (.bl (g x y))) := p_op ha hb da db rfl
theorem p_mulK (h : (inB x 64 || inB y 64) = true) : PJ pn S (dOp fMul a b) (.f (.int (x * y))) := p_op ha hb da db (if_pos h)
theorem p_modK (h : 0 < y) : PJ pn S (dOp fMod a b) (.f (.int (x % y))) := p_op ha hb da db (if_pos h)
theorem p_divK (h : 0 < y ∧ y < 1073741824) : PJ pn S (dOp fDiv a b) (.f (.int (x / y))) := p_op ha hb da db (if_pos h)
end
section
variable {α : Type} [Enc α] [EqE α] [DecidableEq α] {x y : α} {xs : List α} (ha : PJ pn S a oa) (hb : PJ pn S b ob)
include ha hb
theorem p_eq (da : Dt S oa (enc x) := by first | exact .f | exact .v rfl | exact .vz rfl | exact .w | exact .y | exact .u rfl) (db : Dt S ob (enc y) := by first | exact .f | exact .v rfl | exact .vz rfl | exact .w | exact .y | exact .u rfl) (hd : EqE.dep α ≤ 64 := by decide) : PJ pn S (dOp fEq a b) (.f (.bl (decide (x = y)))) := p_op ha hb da db (fEq_enc x y hd)
theorem p_ne (da : Dt S oa (enc x) := by first | exact .f | exact .v rfl | exact .vz rfl | exact .w | exact .y | exact .u rfl) (db : Dt S ob (enc y) := by first | exact .f | exact .v rfl | exact .vz rfl | exact .w | exact .y | exact .u rfl) (hd : EqE.dep α ≤ 64 := by decide) : PJ pn S (dOp fNe a b) (.f (.bl (decide (x ≠ y)))) := p_op ha hb da db (fNe_enc x y hd)
theorem p_in (da : Dt S oa (enc x) := by first | exact .f | exact .v rfl | exact .vz rfl | exact .w | exact .y | exact .u rfl) (db : Dt S ob (enc xs) := by first | exact .f | exact .v rfl | exact .vz rfl | exact .w | exact .y | exact .u rfl) (hd : EqE.dep α ≤ 63 := by decide) : PJ pn S (dOp fIn a b) (.f (.bl (decide (x ∈ xs)))) := p_op ha hb da db (fIn_enc x xs hd)
theorem p_notIn (da : Dt S oa (enc x) := by first | exact .f | exact .v rfl | exact .vz rfl | exact .w | exact .y | exact .u rfl) (db : Dt S ob (enc xs) := by first | exact .f | exact .v rfl | exact .vz rfl | exact .w | exact .y | exact .u rfl) (hd : EqE.dep α ≤ 63 := by decide) : PJ pn S (dOp fNotIn a b) (.f (.bl (decide (x ∉ xs)))) := p_op ha hb da db (fNotIn_enc x xs hd)
end
theorem p_isN {α : Type} [Enc α] [NoN α] {x : Option α} (ha : PJ pn S a oa) (hb : PJ pn S b (.f .non)) (da : Dt S oa (enc x) := by first | exact .f | exact .v rfl | exact .vz rfl | exact .w | exact .y | exact .u rfl) : PJ pn S (dOp fIsN a b) (.f (.bl x.isNone)) := by
  refine p_op ha hb da .f ?_
  cases x with
  | none => rfl
  | some z =>
    show fIsN (enc z) .non = _
    have := NoN.nn z
    cases q : enc z with
    | non => rw [q] at this; exact absurd rfl this
    | _ => rfl
theorem p_notN {α : Type} [Enc α] [NoN α] {x : Option α} (ha : PJ pn S a oa) (hb : PJ pn S b (.f .non)) (da : Dt S oa (enc x) := by first | exact .f | exact .v rfl | exact .vz rfl | exact .w | exact .y | exact .u rfl) : PJ pn S (dOp fNotN a b) (.f (.bl x.isSome)) := by
  refine p_op ha hb da .f ?_
  cases x with
  | none => rfl
  | some z =>
    show fNotN (enc z) .non = _
    have := NoN.nn z
    cases q : enc z with
    | non => rw [q] at this; exact absurd rfl this
    | _ => rfl
theorem pa_nil' : PA pn S dNil [] := fun e h => ⟨[], rfl, trivial⟩
theorem pa_cons' {o : Opd} (ha : PJ pn S a o) (hs : PA pn S ma os) : PA pn S (dCons a ma) (o :: os) := fun e h => by
  obtain ⟨r, h1, k1⟩ := ha e h
  obtain ⟨rs, h2, k2⟩ := hs e h
  exact ⟨r :: rs, by rw [ev_cons, h1, bind_ok, h2, bind_ok], k1, k2⟩
theorem p_cb {fn : List D → Option D} {ds : List D} {z : D} (ha : PA pn S ma os) (da : Dts S os ds) (h : fn ds = some z) : PJ pn S (dCB fn ma) (.f z) := fun e he => by
  obtain ⟨rs, h1, k1⟩ := ha e he
  refine ⟨.fz z, ?_, rfl⟩
  rw [ev_cb, h1, bind_ok, da.view he k1]
  simp only [h]
theorem p_len {α : Type} [Enc α] {xs : List α} (ha : PJ pn S a oa) (da : Dt S oa (enc xs) := by first | exact .f | exact .v rfl | exact .vz rfl | exact .w | exact .y | exact .u rfl) : PJ pn S (dCB lenD (dCons a dNil)) (.f (.int xs.length)) :=
  p_cb (pa_cons' ha pa_nil') (.cons da .nil) (by show some (D.int ((xs.map enc).length : Nat)) = _; rw [List.length_map])
theorem p_lenT {α : Type} [Enc α] {xs : Tup α} (ha : PJ pn S a oa) (da : Dt S oa (enc xs) := by first | exact .f | exact .y | exact .u rfl) : PJ pn S (dCB lenD (dCons a dNil)) (.f (.int xs.l.length)) :=
  p_cb (pa_cons' ha pa_nil') (.cons da .nil) (by show some (D.int ((xs.l.map enc).length : Nat)) = _; rw [List.length_map])
theorem p_lenScr {ns : List Int} (ha : PJ pn S a oa) (da : Dt S oa (.scr ns) := by first | exact .f) : PJ pn S (dCB lenD (dCons a dNil)) (.f (.int ns.length)) := p_cb (pa_cons' ha pa_nil') (.cons da .nil) rfl
theorem p_toInt {x : Int} (ha : PJ pn S a oa) (da : Dt S oa (.int x) := by first | exact .f | exact .u rfl) : PJ pn S (dCB intD (dCons a dNil)) (.f (.int x)) := p_cb (pa_cons' ha pa_nil') (.cons da .nil) rfl
theorem p_toIntB {x : Bool} (ha : PJ pn S a oa) (da : Dt S oa (.bl x) := by first | exact .f | exact .u rfl) : PJ pn S (dCB intD (dCons a dNil)) (.f (.int (if x then 1 else 0))) := p_cb (pa_cons' ha pa_nil') (.cons da .nil) rfl
theorem intsOf_enc (xs : List Int) : intsOf (xs.map enc) = some xs := intsOf_map xs
theorem p_sum {xs : List Int} (ha : PJ pn S a oa) (da : Dt S oa (enc xs) := by first | exact .f | exact .v rfl | exact .vz rfl | exact .w | exact .y | exact .u rfl) : PJ pn S (dCB sumD (dCons a dNil)) (.f (.int xs.sum)) :=
  p_cb (pa_cons' ha pa_nil') (.cons da .nil) (by unfold sumD; show (intsOf (xs.map enc)).map _ = _; rw [intsOf_enc]; rfl)
theorem p_max2 {x y : Int} (ha : PJ pn S a oa) (hb : PJ pn S b ob) (da : Dt S oa (.int x) := by first | exact .f | exact .u rfl) (db : Dt S ob (.int y) := by first | exact .f | exact .u rfl) : PJ pn S (dCB maxD (dCons a (dCons b dNil))) (.f (.int (max x y))) :=
  p_cb (pa_cons' ha (pa_cons' hb pa_nil')) (.cons da (.cons db .nil)) (by
    show some (D.int (if y > x then y else x)) = _
    congr 2
    rw [Int.max_def]
    split <;> split <;> omega)
theorem p_min2 {x y : Int} (ha : PJ pn S a oa) (hb : PJ pn S b ob) (da : Dt S oa (.int x) := by first | exact .f | exact .u rfl) (db : Dt S ob (.int y) := by first | exact .f | exact .u rfl) : PJ pn S (dCB minD (dCons a (dCons b dNil))) (.f (.int (min x y))) :=
  p_cb (pa_cons' ha (pa_cons' hb pa_nil')) (.cons da (.cons db .nil)) (by
    show some (D.int (if y < x then y else x)) = _
    congr 2
    rw [Int.min_def]
    split <;> split <;> omega)
/-- isinstance of a value whose kind is known -/
theorem p_isi {d : D} {n t : String} {c : Bool} (ha : PJ pn S a oa) (hb : PJ pn S b (.f (.ty n))) (da : Dt S oa d) (ht : tyName d = some t) (hk : kitB t n = some c) : PJ pn S (dCB isiD (dCons a (dCons b dNil))) (.f (.bl c)) :=
  p_cb (pa_cons' ha (pa_cons' hb pa_nil')) (.cons da (.cons .f .nil)) (by unfold isiD; simp only [ht, hk]; rfl)
/-- closed operands -/
inductive Cl : Opd → D → Prop
  | f {d : D} : Cl (.f d) d
  | w {ds : List D} : Cl (.w ds) (.lst ds)
  | y {d : D} : Cl (.y d) d
inductive Cls : List Opd → List D → Prop
  | nil : Cls [] []
  | cons {o : Opd} {os : List Opd} {d : D} {ds : List D} : Cl o d → Cls os ds → Cls (o :: os) (d :: ds)
theorem Cl.frz {o : Opd} {d : D} {r : RV} (q : Cl o d) (k : ROk r o) (e : Env) : frzR r e = some (d, e) := by
  cases q with
  | f => cases k; rfl
  | w => cases k; show some (SV.toD _, e) = _; rw [toD_ol]
  | y => rcases k with rfl | ⟨ds, rfl, rfl⟩
         · rfl
         · show some (SV.toD _, e) = _; rw [toD_ol]
theorem Cls.frz {os : List Opd} {ds : List D} (q : Cls os ds) : ∀ {rs : List RV}, ROks rs os → ∀ e, frzRs rs e = some (ds, e) := by
  induction q with
  | nil => intro rs k e; cases rs with
    | nil => rfl
    | cons _ _ => exact k.elim
  | cons q1 q2 ih => intro rs k e; cases rs with
    | nil => exact k.elim
    | cons r rs =>
      unfold frzRs
      simp only [q1.frz k.1 e, ih k.2 e]
theorem p_new {fn : List D → Option (List D)} {ds es : List D} (ha : PA pn S ma os) (da : Cls os ds) (h : fn ds = some es) : PJ pn S (dNew fn ma) (.w es) := fun e he => by
  obtain ⟨rs, h1, k1⟩ := ha e he
  refine ⟨.own (.ol (fzs es)), ?_, rfl⟩
  show (ma e).bind _ = _
  rw [h1, bind_ok, da.frz k1 e]
  simp only [h]
  rfl
theorem p_list {α : Type} [Enc α] {xs : List α} (ha : PJ pn S a oa) (da : Cl oa (enc xs) := by first | exact .f | exact .w | exact .y) : PJ pn S (dNew listD (dCons a dNil)) (.w (encs xs)) := p_new (pa_cons' ha pa_nil') (.cons da .nil) rfl
theorem p_listT {α : Type} [Enc α] {xs : Tup α} (ha : PJ pn S a oa) (da : Cl oa (enc xs) := by first | exact .f | exact .w | exact .y) : PJ pn S (dNew listD (dCons a dNil)) (.w (encs xs.l)) := p_new (pa_cons' ha pa_nil') (.cons da .nil) rfl
theorem p_sorted {xs : List Int} (ha : PJ pn S a oa) (da : Cl oa (enc xs) := by first | exact .f | exact .w | exact .y) : PJ pn S (dNew sortedD (dCons a dNil)) (.w (encs (sortI xs))) := p_new (pa_cons' ha pa_nil') (.cons da .nil) (by
  unfold sortedD
  show (intsOf (xs.map enc)).map _ = _
  rw [intsOf_enc]
  rfl)
theorem p_lst {ds : List D} (ha : PA pn S ma os) (da : Cls os ds) (h : ds.length ≤ 1000000 := by exact Nat.le_of_ble_eq_true rfl) : PJ pn S (dLst ma) (.w ds) := fun e he => by
  obtain ⟨rs, h1, k1⟩ := ha e he
  refine ⟨.own (.ol (fzs ds)), ?_, rfl⟩
  rw [ev_lst, h1, bind_ok, da.frz k1 e]
  simp only
  rw [if_pos (size_ge (by omega))]
theorem p_tup {ds : List D} (ha : PA pn S ma os) (da : Cls os ds) (h : ds.length ≤ 1000000 := by exact Nat.le_of_ble_eq_true rfl) : PJ pn S (dTup ma) (.f (.tup ds)) := fun e he => by
  obtain ⟨rs, h1, k1⟩ := ha e he
  refine ⟨.fz (.tup ds), ?_, rfl⟩
  show (ma e).bind _ = _
  rw [h1, bind_ok, da.frz k1 e]
  simp only
  rw [if_pos (size_ge (by omega))]
theorem p_tupOf {α : Type} [Enc α] {xs : List α} (ha : PJ pn S a oa) (da : Cl oa (enc xs) := by first | exact .f | exact .w | exact .y) : PJ pn S (dTupOf (dCons a dNil)) (.f (enc (Tup.mk xs))) := fun e he => by
  obtain ⟨r, h1, k1⟩ := ha e he
  refine ⟨.fz (enc (Tup.mk xs)), ?_, rfl⟩
  show (dCons a dNil e).bind _ = _
  rw [ev_cons, h1, bind_ok, ev_nil, bind_ok, bind_ok]
  have := (Cls.cons da .nil).frz (rs := [r]) ⟨k1, trivial⟩ e
  rw [this]
  rfl
/-! slices: the parts -/
def PP (pn : List Nat) (S : List SD) (m : M (Option Int)) (i : Option Int) : Prop := ∀ e, Has pn S e → m e = .ok i e
theorem pp_no : PP pn S dNoPart none := fun _ _ => rfl
theorem pp_at {x : Int} (ha : PJ pn S a oa) (da : Dt S oa (.int x) := by first | exact .f | exact .u rfl) : PP pn S (dPart a) (some x) := fun e h => by
  obtain ⟨r, h1, k1⟩ := ha e h
  unfold dPart
  rw [mbind, h1, bind_ok, da.view h k1]
def cutL {α : Type} (xs : List α) (lo hi : Option Int) : List α := (xs.drop (HT.sIx xs.length 0 lo)).take (HT.sIx xs.length xs.length hi - HT.sIx xs.length 0 lo)
theorem cutD_enc {α : Type} [Enc α] (xs : List α) (lo hi : Option Int) : cutD (xs.map enc) lo hi = (cutL xs lo hi).map enc := by
  unfold cutD cutL
  simp [List.map_take, List.map_drop]
theorem p_cut {α : Type} [Enc α] {xs : List α} {ml mh : M (Option Int)} {lo hi : Option Int} (ha : PJ pn S a oa) (hl : PP pn S ml lo) (hh : PP pn S mh hi) (da : Cl oa (enc xs) := by first | exact .f | exact .w | exact .y) : PJ pn S (dSl a ml mh) (.w (encs (cutL xs lo hi))) := fun e he => by
  obtain ⟨r, h1, k1⟩ := ha e he
  refine ⟨.own (.ol (fzs (encs (cutL xs lo hi)))), ?_, rfl⟩
  unfold dSl
  rw [mbind, h1, bind_ok, da.frz k1 e]
  show ((ml e).bind _) = _
  rw [hl e he, bind_ok, hh e he, bind_ok, cutD_enc]
  rfl
/-! ### tests -/
section
variable {t u : M Bool} {c1 c2 : Bool}
theorem b_t (ha : PJ pn S a (.f (.bl c1))) : PB pn S (dT a) c1 := fun e h => by
  obtain ⟨r, h1, k1⟩ := ha e h
  cases k1
  rw [ev_t, h1, bind_ok]; rfl
theorem b_tv (ha : PJ pn S a oa) (da : Dt S oa (.bl c1) := by first | exact .f | exact .u rfl) : PB pn S (dT a) c1 := fun e h => by
  obtain ⟨r, h1, k1⟩ := ha e h
  rw [ev_t, h1, bind_ok, da.view h k1]
theorem b_tru {d : D} (ha : PJ pn S a oa) (da : Dt S oa d) (q : truD d = some c1) : PB pn S (dTru a) c1 := fun e h => by
  obtain ⟨r, h1, k1⟩ := ha e h
  rw [ev_tru, h1, bind_ok, da.view h k1]
  simp only [Option.bind, q]
theorem b_truB (ha : PJ pn S a oa) (da : Dt S oa (.bl c1) := by first | exact .f | exact .u rfl) : PB pn S (dTru a) c1 := b_tru ha da rfl
theorem b_truI {x : Int} (ha : PJ pn S a oa) (da : Dt S oa (.int x) := by first | exact .f | exact .u rfl) : PB pn S (dTru a) (decide (x ≠ 0)) := b_tru ha da (by show some (x != 0) = _; simp [bne, decide_not]; rfl)
theorem b_truL {α : Type} [Enc α] {xs : List α} (ha : PJ pn S a oa) (da : Dt S oa (enc xs) := by first | exact .f | exact .v rfl | exact .vz rfl | exact .w | exact .y | exact .u rfl) : PB pn S (dTru a) (!xs.isEmpty) := b_tru ha da (by
  show some (!(xs.map enc).isEmpty) = _
  cases xs <;> rfl)
theorem b_and (h1 : PB pn S t c1) (h2 : PB pn S u c2) : PB pn S (dAnd t u) (c1 && c2) := fun e h => by
  rw [ev_and, h1 e h, bind_ok]; cases c1 with
  | true => exact h2 e h
  | false => rfl
theorem b_or (h1 : PB pn S t c1) (h2 : PB pn S u c2) : PB pn S (dOr t u) (c1 || c2) := fun e h => by
  rw [ev_or, h1 e h, bind_ok]; cases c1 with
  | true => rfl
  | false => exact h2 e h
theorem b_not (h1 : PB pn S t c1) : PB pn S (dNot t) (!c1) := fun e h => by rw [ev_not, h1 e h, bind_ok]
theorem b_yes : PB pn S dYes true := fun _ _ => rfl
theorem p_ifE {α : Type} [Enc α] {x y : α} (h1 : PB pn S t c1) (ha : PJ pn S a (.f (enc x))) (hb : PJ pn S b (.f (enc y))) : PJ pn S (dIfE t a b) (.f (enc (if c1 then x else y))) := fun e h => by
  rw [ev_ifE, h1 e h, bind_ok]; cases c1 with
  | true => exact ha e h
  | false => exact hb e h
theorem p_andV (ha : PJ pn S a (.f (.bl c1))) (hb : PJ pn S b (.f (.bl c2))) : PJ pn S (dAndV a b) (.f (.bl (c1 && c2))) := fun e h => by
  obtain ⟨r, h1, k1⟩ := ha e h
  cases k1
  rw [ev_andV, h1, bind_ok]
  cases c1 with
  | true => exact hb e h
  | false => exact ⟨_, rfl, rfl⟩
theorem p_orV (ha : PJ pn S a (.f (.bl c1))) (hb : PJ pn S b (.f (.bl c2))) : PJ pn S (dOrV a b) (.f (.bl (c1 || c2))) := fun e h => by
  obtain ⟨r, h1, k1⟩ := ha e h
  cases k1
  rw [ev_orV, h1, bind_ok]
  cases c1 with
  | true => exact ⟨_, rfl, rfl⟩
  | false => exact hb e h
theorem p_notV (ha : PJ pn S a (.f (.bl c1))) : PJ pn S (dNotV a) (.f (.bl (!c1))) := fun e h => by
  obtain ⟨r, h1, k1⟩ := ha e h
  cases k1
  exact ⟨_, by rw [ev_notV, h1, bind_ok]; rfl, rfl⟩
theorem chain_ok {f g : D → D → Option D} {x y z : D} (ha : PJ pn S a oa) (hb : PJ pn S b ob) (hc : PJ pn S c oc) (da : Dt S oa x) (db : Dt S ob y) (dc : Dt S oc z) (h1 : f x y = some (.bl c1)) (h2 : g y z = some (.bl c2)) : PJ pn S (dChain f g a b c) (.f (.bl (c1 && c2))) := fun e he => by
  obtain ⟨r1, e1, k1⟩ := ha e he
  obtain ⟨r2, e2, k2⟩ := hb e he
  obtain ⟨r3, e3, k3⟩ := hc e he
  rw [ev_chain, e1, bind_ok, e2, bind_ok, da.view he k1, db.view he k2]
  simp only [h1, Option.bind, blOf_bl]
  cases c1 with
  | false => exact ⟨_, rfl, rfl⟩
  | true =>
    simp only [e3, bind_ok, db.view he k2, dc.view he k3, h2]
    exact ⟨_, rfl, rfl⟩
theorem p_chain {f g : Int → Int → Bool} {x y z : Int} (ha : PJ pn S a oa) (hb : PJ pn S b ob) (hc : PJ pn S c oc) (da : Dt S oa (.int x) := by first | exact .f | exact .u rfl) (db : Dt S ob (.int y) := by first | exact .f | exact .u rfl) (dc : Dt S oc (.int z) := by first | exact .f | exact .u rfl) : PJ pn S (dChain (fB f) (fB g) a b c) (.f (.bl (f x y && g y z))) := chain_ok ha hb hc da db dc rfl rfl
end
end
end VF

set_option maxRecDepth 100000
set_option maxHeartbeats 4000000
/-! What is partial, one rule a construct, in the order in which it is run. -/
namespace VF
set_option autoImplicit false
open PySem L2
open Enc (enc)
/-! ### the plain side -/
def geti {α : Type} (xs : List α) (i : Int) : Res α := match atI xs i with
  | some a => .ok a
  | none => .st
/-! guards, that nothing unfolds -/
@[irreducible] def ok62 (n : Int) : Bool := small62 n
@[irreducible] def okDiv (y : Int) : Bool := decide (0 < y ∧ y < 1073741824)
@[irreducible] def okMul (x y : Int) : Bool := inB x 64 || inB y 64
@[irreducible] def okPow (x y : Int) : Bool := decide (0 ≤ y ∧ y ≤ 1000000 ∧ x.natAbs < 2 ^ 64)
@[irreducible] def okLt (n : Nat) : Bool := decide (n < sizeLine)
@[irreducible] def okLe (n : Nat) : Bool := decide (n ≤ sizeLine)
@[irreducible] def okLr (n : Int) : Bool := decide (n ≤ 1000000 ∧ -(2 ^ 62) ≤ n)
theorem ok62_eq (n : Int) : ok62 n = small62 n := by rw [ok62]
theorem okDiv_eq (y : Int) : okDiv y = decide (0 < y ∧ y < 1073741824) := by rw [okDiv]
theorem okMul_eq (x y : Int) : okMul x y = (inB x 64 || inB y 64) := by rw [okMul]
theorem okPow_eq (x y : Int) : okPow x y = decide (0 ≤ y ∧ y ≤ 1000000 ∧ x.natAbs < 2 ^ 64) := by rw [okPow]
theorem okLt_eq (n : Nat) : okLt n = decide (n < sizeLine) := by rw [okLt]
theorem okLe_eq (n : Nat) : okLe n = decide (n ≤ sizeLine) := by rw [okLe]
theorem okLr_eq (n : Int) : okLr n = decide (n ≤ 1000000 ∧ -(2 ^ 62) ≤ n) := by rw [okLr]
def modR (x y : Int) : Res Int := if 0 < y then .ok (x % y) else .st
def divR (x y : Int) : Res Int := if okDiv y = true then .ok (x / y) else .st
def mulR (x y : Int) : Res Int := if okMul x y = true then .ok (x * y) else .st
def powR (x y : Int) : Res Int := if okPow x y = true then .ok (x ^ y.toNat) else .st
def appR {α : Type} (xs : List α) (x : α) : Res (List α) := if okLt xs.length = true then .ok (xs ++ [x]) else .st
def setR {α : Type} (xs : List α) (i : Int) (x : α) : Res (List α) := match ixN xs.length i with
  | some n => .ok (xs.set n x)
  | none => .st
def augR (xs : List Int) (i : Int) (f : Int → Int → Int) (y : Int) : Res (List Int) := if 0 ≤ i then (match xs[i.toNat]? with
  | some x => .ok (xs.set i.toNat (f x y))
  | none => .st) else .st
def popR {α : Type} (xs : List α) (i : Int) : Res (α × List α) := if -(2 ^ 63) ≤ i ∧ i < 2 ^ 63 then (match seqIndex? i xs.length with
  | some k => (match xs[k]? with
    | some x => .ok (x, xs.eraseIdx k)
    | none => .st)
  | none => .st) else .st
def maxR : List Int → Res Int
  | x :: y :: z :: xs => .ok (maxI x (y :: z :: xs))
  | [x, y] => .ok (maxI x [y])
  | [x] => .ok x
  | [] => .st
def minR : List Int → Res Int
  | x :: y :: z :: xs => .ok (minI x (y :: z :: xs))
  | [x, y] => .ok (minI x [y])
  | [x] => .ok x
  | [] => .st
def idxR {α : Type} [DecidableEq α] (xs : List α) (x : α) : Res Int := match xs.findIdx? (fun y => decide (y = x)) with
  | some j => .ok (j : Nat)
  | none => .st
def irng (lo : Int) (n : Nat) : List Int := (List.range n).map fun i => lo + (i : Nat)
def rngR (lo hi : Int) : Res (List Int) := if (ok62 lo && ok62 hi) = true then .ok (irng lo (hi - lo).toNat) else .st
/-- range(n) -/
def rng1R (n : Int) : Res (List Int) := if ok62 n = true then .ok (irng 0 n.toNat) else .st
/-- list(range(n)) -/
def lrngR (n : Int) : Res (List Int) := if okLr n = true then .ok (irng 0 n.toNat) else .st
def catR {α : Type} (xs ys : List α) : Res (List α) := if okLe (xs.length + ys.length) = true then .ok (xs ++ ys) else .st
def enumL {α : Type} (xs : List α) : List (Int × α) := xs.mapIdx fun i x => ((i : Nat), x)
def unO {α : Type} : Option α → Res α
  | some a => .ok a
  | none => .st
/-! loops -/
inductive Lp (σ τ : Type) where
  | go (s : σ) | bk (s : σ) | out (t : τ)
def forR {α σ τ : Type} (f : α → σ → Res (Lp σ τ)) : List α → σ → (σ → Res τ) → Res τ
  | [], s, k => k s
  | x :: xs, s, k => (f x s).bind fun l => match l with
    | .go s' => forR f xs s' k
    | .bk s' => k s'
    | .out t => .ok t
def foldR {α σ : Type} (f : α → σ → Res σ) : List α → σ → Res σ
  | [], s => .ok s
  | x :: xs, s => (f x s).bind fun s' => foldR f xs s'
def whileR {σ τ : Type} (c : σ → Res Bool) (f : σ → Res (Lp σ τ)) : Nat → σ → (σ → Res τ) → Res τ
  | 0, _, _ => .st
  | n + 1, s, k => (c s).bind fun b => if b = true then (f s).bind fun l => match l with
      | .go s' => whileR c f n s' k
      | .bk s' => k s'
      | .out t => .ok t
    else k s
/-! comprehensions -/
def compGo {α β σ : Type} (f : α → σ → Res (Option β × σ)) : List α → σ → List β → Res (List β × σ)
  | [], s, acc => .ok (acc, s)
  | x :: xs, s, acc => match f x s with
    | .ok (some y, s') => compGo f xs s' (acc ++ [y])
    | .ok (none, s') => compGo f xs s' acc
    | _ => .st
def filS {α β σ : Type} (f : α → σ → Res (Option β × σ)) (xs : List α) (s : σ) : Res (List β × σ) := if okLe xs.length = true then compGo f xs s [] else .st
def mapS {α β σ : Type} (f : α → σ → Res (β × σ)) (xs : List α) (s : σ) : Res (List β × σ) := filS (fun x s => (f x s).bind fun p => .ok (some p.1, p.2)) xs s
def filC {α β : Type} (f : α → Res (Option β)) (xs : List α) : Res (List β) := (filS (fun x (_ : Unit) => (f x).bind fun o => .ok (o, ())) xs ()).bind fun p => .ok p.1
def mapC {α β : Type} (f : α → Res β) (xs : List α) : Res (List β) := filC (fun x => (f x).bind fun y => .ok (some y)) xs
/-! ### the rules -/
section
variable {α β γ δ σ τ : Type} {pn : List Nat} {S S' S1 S2 : List SD} {e : Env} {X : Exc → Env → Prop} {P : Res α} {G : α → γ → Env → Prop} {r q : RV} {o oa ob oc : Opd} {d x y z : D}
theorem c_pure {a : M RV} {K : RV → M γ} (h : Has pn S e) (ha : PJ pn S a o) (k : ∀ r, ROk r o → Sm (K r e) P G X) : Sm ((a e).bind K) P G X := by
  obtain ⟨r, h1, k1⟩ := ha e h
  rw [h1]; exact k r k1
theorem c_pureB {t : M Bool} {c : Bool} {K : Bool → M γ} (h : Has pn S e) (ht : PB pn S t c) (k : Sm (K c e) P G X) : Sm ((t e).bind K) P G X := by
  rw [ht e h]; exact k
theorem c_pureA {a : M (List RV)} {os : List Opd} {K : List RV → M γ} (h : Has pn S e) (ha : PA pn S a os) (k : ∀ rs, ROks rs os → Sm (K rs e) P G X) : Sm ((a e).bind K) P G X := by
  obtain ⟨r, h1, k1⟩ := ha e h
  rw [h1]; exact k r k1
/-! statements -/
def seqK (b : M Fl) (K : Fl → M γ) : Fl → M γ := fun f => match f with
  | .nx => fun e => (b e).bind K
  | f => K f
theorem c_seq {a b : M Fl} {K : Fl → M γ} (k : Sm ((a e).bind (seqK b K)) P G X) : Sm ((dSeq a b e).bind K) P G X := by
  have : (dSeq a b e).bind K = (a e).bind (seqK b K) := by
    unfold dSeq M.bind
    cases a e with
    | st => rfl
    | ok f e => cases f <;> rfl
    | ex x e => rfl
  rw [this]; exact k
def setK (i : Nat) (K : Fl → M γ) : RV → M γ := fun r e => match putR i r e with
  | some e' => K .nx e'
  | none => .st
theorem c_set {i : Nat} {a : M RV} {K : Fl → M γ} (k : Sm ((a e).bind (setK i K)) P G X) : Sm ((dSet i a e).bind K) P G X := by
  have : (dSet i a e).bind K = (a e).bind (setK i K) := by
    unfold dSet M.bind
    cases a e with
    | st => rfl
    | ok f e =>
      show R.bind (match putR i f e with | some e' => R.ok Fl.nx e' | none => R.st) K = setK i K f e
      unfold setK
      cases putR i f e <;> rfl
    | ex x e => rfl
  rw [this]; exact k
theorem f_set {i : Nat} {K : Fl → M γ} (h : Has pn S e) (ho : ROk r o) (s : St S i o S') (hi : i ∉ pn) (k : ∀ e', Has pn S' e' → Sm (K .nx e') P G X) : Sm (setK i K r e) P G X := by
  obtain ⟨e', h1, h2⟩ := s.put h ho hi
  unfold setK; simp only [h1]; exact k e' h2
def retK (K : Fl → M γ) : RV → M γ := fun r e => K (.rt r) e
theorem c_ret {a : M RV} {K : Fl → M γ} (k : Sm ((a e).bind (retK K)) P G X) : Sm ((dRet a e).bind K) P G X := by
  have : (dRet a e).bind K = (a e).bind (retK K) := by
    unfold dRet M.bind
    cases a e <;> rfl
  rw [this]; exact k
def dropK (K : Fl → M γ) : RV → M γ := fun _ e => K .nx e
theorem c_drop {a : M RV} {K : Fl → M γ} (k : Sm ((a e).bind (dropK K)) P G X) : Sm ((dDrop a e).bind K) P G X := by
  have : (dDrop a e).bind K = (a e).bind (dropK K) := by
    unfold dDrop M.bind
    cases a e <;> rfl
  rw [this]; exact k
def ifK (a b : M Fl) (K : Fl → M γ) : Bool → M γ := fun c e => match c with
  | true => (a e).bind K
  | false => (b e).bind K
theorem c_if {t : M Bool} {a b : M Fl} {K : Fl → M γ} (k : Sm ((t e).bind (ifK a b K)) P G X) : Sm ((dIf t a b e).bind K) P G X := by
  have : (dIf t a b e).bind K = (t e).bind (ifK a b K) := by
    unfold dIf M.bind
    cases t e with
    | st => rfl
    | ok c e => cases c <;> rfl
    | ex x e => rfl
  rw [this]; exact k
/-- both branches are told to the end -/
theorem f_if {c : Bool} {a b : M Fl} {K : Fl → M γ} {P1 P2 : Res α} (k1 : c = true → Sm ((a e).bind K) P1 G X) (k2 : c = false → Sm ((b e).bind K) P2 G X) : Sm (ifK a b K c e) (if c = true then P1 else P2) G X := by
  cases c with
  | true => exact k1 rfl
  | false => exact k2 rfl
/-- where branches end that go on together -/
def Jn (pn : List Nat) (I : σ → List SD) : σ → Fl → Env → Prop := fun s f e => f = .nx ∧ Has pn (I s) e
theorem f_ifJ {c : Bool} {a b : M Fl} {K : Fl → M γ} {P1 P2 : Res σ} {k : σ → Res α} (_h : Has pn S e) (I : σ → List SD) (k1 : c = true → Sm ((a e).bind okK) P1 (Jn pn I) X) (k2 : c = false → Sm ((b e).bind okK) P2 (Jn pn I) X) (k3 : ∀ s e', Has pn (I s) e' → Sm (K .nx e') (k s) G X) :
    Sm (ifK a b K c e) ((if c = true then P1 else P2).bind k) G X := by
  have go : ∀ (m : M Fl) (p : Res σ), Sm ((m e).bind okK) p (Jn pn I) X → Sm ((m e).bind K) (p.bind k) G X := fun m p h => h.top.bind fun s f e' hj => by
    obtain ⟨rfl, hj⟩ := hj
    exact k3 s e' hj
  cases c with
  | true => exact go a P1 (k1 rfl)
  | false => exact go b P2 (k2 rfl)
theorem f_jn {I : σ → List SD} {s : σ} (h : Has pn S e) (w : W S (I s) := by first | exact W.refl _ | (repeat (first | exact W.nil | refine W.rf ?_ | refine W.cz ?_ | refine W.cc ?_ | refine W.vz ?_ | refine W.vo ?_ | refine W.an ?_))) : Sm (okK Fl.nx e) (.ok s) (Jn pn I) X := ⟨.nx, e, rfl, rfl, h.weak w⟩
theorem c_next {K : Fl → M γ} (k : Sm (K .nx e) P G X) : Sm ((dNext e).bind K) P G X := k
theorem c_brk {K : Fl → M γ} (k : Sm (K .bk e) P G X) : Sm ((dBreak e).bind K) P G X := k
theorem c_cont {K : Fl → M γ} (k : Sm (K .ct e) P G X) : Sm ((dCont e).bind K) P G X := k
theorem c_retN {K : Fl → M γ} (k : Sm (K (.rt (.fz .non)) e) P G X) : Sm ((dRetN e).bind K) P G X := k
/-- x = e, e plain -/
theorem c_setP {i : Nat} {a : M RV} {K : Fl → M γ} (h : Has pn S e) (ha : PJ pn S a o) (s : St S i o S') (k : ∀ e', Has pn S' e' → Sm (K .nx e') P G X) (hi : i ∉ pn := by decide) : Sm ((dSet i a e).bind K) P G X :=
  c_set (c_pure h ha fun r kr => f_set h kr s hi k)
/-- x = e with a letter for its value -/
theorem c_setF {ω : Type} [Enc ω] {i : Nat} {a : M RV} {K : Fl → M γ} {v : ω} {k : ω → Res α} (h : Has pn S e) (ha : PJ pn S a (.f (enc v))) (kk : ∀ v e', Has pn (S.set i (.fz (enc v))) e' → Sm (K .nx e') (k v) G X) (hi : i ∉ pn := by decide) : Sm ((dSet i a e).bind K) ((Res.ok v).bind k) G X :=
  c_setP h ha .f (kk v) hi
theorem c_setW {ω : Type} [Enc ω] {i : Nat} {a : M RV} {K : Fl → M γ} {v : List ω} {k : List ω → Res α} (h : Has pn S e) (ha : PJ pn S a (.w (encs v))) (kk : ∀ v e', Has pn (S.set i (.ol (encs v))) e' → Sm (K .nx e') (k v) G X) (hi : i ∉ pn := by decide) : Sm ((dSet i a e).bind K) ((Res.ok v).bind k) G X :=
  c_setP h ha .w (kk v) hi
/-! operators -/
def opK2 (fn : D → D → Option D) (r : RV) (K : RV → M γ) : RV → M γ := fun q e => match view e r, view e q with
  | some x, some y => (match fn x y with
    | some d => K (.fz d) e
    | none => .st)
  | _, _ => .st
def opK1 (fn : D → D → Option D) (b : M RV) (K : RV → M γ) : RV → M γ := fun r e => (b e).bind (opK2 fn r K)
theorem c_op {fn : D → D → Option D} {a b : M RV} {K : RV → M γ} (k : Sm ((a e).bind (opK1 fn b K)) P G X) : Sm ((dOp fn a b e).bind K) P G X := by
  have : (dOp fn a b e).bind K = (a e).bind (opK1 fn b K) := by
    rw [ev_op, rbind_assoc]
    congr 1; funext r e
    unfold opK1
    rw [rbind_assoc]
    congr 1; funext q e
    unfold opK2
    cases view e r with
    | none => rfl
    | some x => cases view e q with
      | none => rfl
      | some y => simp only; cases fn x y <;> rfl
  rw [this]; exact k
theorem c_op2 {fn : D → D → Option D} {b : M RV} {K : RV → M γ} (k : Sm ((b e).bind (opK2 fn r K)) P G X) : Sm (opK1 fn b K r e) P G X := k
theorem f_op {fn : D → D → Option D} {K : RV → M γ} (h : Has pn S e) (k1 : ROk r oa) (k2 : ROk q ob) (da : Dt S oa x) (db : Dt S ob y) (hf : fn x y = some z) (k : Sm (K (.fz z) e) P G X) : Sm (opK2 fn r K q e) P G X := by
  unfold opK2
  rw [da.view h k1, db.view h k2]
  simp only [hf]; exact k
section
variable {i j : Int} {K : RV → M γ} {k : Int → Res α} (h : Has pn S e) (k1 : ROk r oa) (k2 : ROk q ob) (da : Dt S oa (.int i) := by first | exact .f | exact .u rfl) (db : Dt S ob (.int j) := by first | exact .f | exact .u rfl)
include h k1 k2 da db
theorem f_int {g : Int → Int → Int} (kk : Sm (K (.fz (.int (g i j))) e) P G X) : Sm (opK2 (fI g) r K q e) P G X := f_op h k1 k2 da db rfl kk
theorem f_cmp {g : Int → Int → Bool} (kk : Sm (K (.fz (.bl (g i j))) e) P G X) : Sm (opK2 (fB g) r K q e) P G X := f_op h k1 k2 da db rfl kk
theorem f_mod (kk : ∀ v, Sm (K (.fz (.int v)) e) (k v) G X) : Sm (opK2 fMod r K q e) ((modR i j).bind k) G X := by
  by_cases c : 0 < j
  · unfold modR; rw [if_pos c]; exact f_op h k1 k2 da db (if_pos c) (kk _)
  · unfold modR; rw [if_neg c]; first | trivial | exact ⟨trivial⟩
theorem f_div (kk : ∀ v, Sm (K (.fz (.int v)) e) (k v) G X) : Sm (opK2 fDiv r K q e) ((divR i j).bind k) G X := by
  by_cases c : 0 < j ∧ j < 1073741824
  · unfold divR; rw [okDiv_eq, if_pos (decide_eq_true c)]; exact f_op h k1 k2 da db (if_pos c) (kk _)
  · unfold divR; rw [okDiv_eq, if_neg (by rw [decide_eq_true_iff]; exact c)]; first | trivial | exact ⟨trivial⟩
theorem f_mul (kk : ∀ v, Sm (K (.fz (.int v)) e) (k v) G X) : Sm (opK2 fMul r K q e) ((mulR i j).bind k) G X := by
  by_cases c : (inB i 64 || inB j 64) = true
  · unfold mulR; rw [okMul_eq, if_pos c]; exact f_op h k1 k2 da db (if_pos c) (kk _)
  · unfold mulR; rw [okMul_eq, if_neg c]; first | trivial | exact ⟨trivial⟩
theorem f_pow (kk : ∀ v, Sm (K (.fz (.int v)) e) (k v) G X) : Sm (opK2 fPow r K q e) ((powR i j).bind k) G X := by
  by_cases c : 0 ≤ j ∧ j ≤ 1000000 ∧ i.natAbs < 2 ^ 64
  · unfold powR; rw [okPow_eq, if_pos (decide_eq_true c)]; exact f_op h k1 k2 da db (if_pos c) (kk _)
  · unfold powR; rw [okPow_eq, if_neg (by rw [decide_eq_true_iff]; exact c)]; first | trivial | exact ⟨trivial⟩
end
/-! tests -/
def tK (K : Bool → M γ) : RV → M γ := fun r e => match view e r with
  | some (.bl b) => K b e
  | _ => .st
theorem c_t {a : M RV} {K : Bool → M γ} (k : Sm ((a e).bind (tK K)) P G X) : Sm ((dT a e).bind K) P G X := by
  have : (dT a e).bind K = (a e).bind (tK K) := by
    rw [ev_t, rbind_assoc]
    congr 1; funext r e
    unfold tK
    cases view e r with
    | none => rfl
    | some d => cases d <;> rfl
  rw [this]; exact k
theorem f_t {c : Bool} {K : Bool → M γ} (h : Has pn S e) (k1 : ROk r o) (kk : Sm (K c e) P G X) (da : Dt S o (.bl c) := by first | exact .f | exact .u rfl) : Sm (tK K r e) P G X := by
  unfold tK; rw [da.view h k1]; exact kk
def truK (K : Bool → M γ) : RV → M γ := fun r e => match (view e r).bind truD with
  | some b => K b e
  | none => .st
theorem c_tru {a : M RV} {K : Bool → M γ} (k : Sm ((a e).bind (truK K)) P G X) : Sm ((dTru a e).bind K) P G X := by
  have : (dTru a e).bind K = (a e).bind (truK K) := by
    rw [ev_tru, rbind_assoc]
    congr 1; funext r e
    unfold truK
    cases (view e r).bind truD <;> rfl
  rw [this]; exact k
theorem f_tru {c : Bool} {K : Bool → M γ} (h : Has pn S e) (k1 : ROk r o) (da : Dt S o d) (hd : truD d = some c) (kk : Sm (K c e) P G X) : Sm (truK K r e) P G X := by
  unfold truK; rw [da.view h k1]; simp only [Option.bind, hd]; exact kk
def andK (u : M Bool) (K : Bool → M γ) : Bool → M γ := fun c e => match c with
  | true => (u e).bind K
  | false => K false e
def orK (u : M Bool) (K : Bool → M γ) : Bool → M γ := fun c e => match c with
  | true => K true e
  | false => (u e).bind K
theorem c_and {t u : M Bool} {K : Bool → M γ} (k : Sm ((t e).bind (andK u K)) P G X) : Sm ((dAnd t u e).bind K) P G X := by
  have : (dAnd t u e).bind K = (t e).bind (andK u K) := by
    unfold dAnd M.bind
    cases t e with
    | st => rfl
    | ok c e => cases c <;> rfl
    | ex x e => rfl
  rw [this]; exact k
theorem c_or {t u : M Bool} {K : Bool → M γ} (k : Sm ((t e).bind (orK u K)) P G X) : Sm ((dOr t u e).bind K) P G X := by
  have : (dOr t u e).bind K = (t e).bind (orK u K) := by
    unfold dOr M.bind
    cases t e with
    | st => rfl
    | ok c e => cases c <;> rfl
    | ex x e => rfl
  rw [this]; exact k
def notK (K : Bool → M γ) : Bool → M γ := fun c e => K (!c) e
theorem c_not {t : M Bool} {K : Bool → M γ} (k : Sm ((t e).bind (notK K)) P G X) : Sm ((dNot t e).bind K) P G X := by
  have : (dNot t e).bind K = (t e).bind (notK K) := by
    unfold dNot M.bind
    cases t e <;> rfl
  rw [this]; exact k
theorem f_not {c : Bool} {K : Bool → M γ} (kk : Sm (K (!c) e) P G X) : Sm (notK K c e) P G X := kk
/-- the end of a test that goes on in a state as it was -/
def Tb (pn : List Nat) (S : List SD) : Bool → Bool → Env → Prop := fun b b' e => b' = b ∧ Has pn S e
theorem f_tb {c : Bool} (h : Has pn S e) : Sm (okK c e) (.ok c) (Tb pn S) X := ⟨c, e, rfl, rfl, h⟩
theorem f_and {c : Bool} {u : M Bool} {P1 : Res Bool} {K : Bool → M γ} {k : Bool → Res α} (h : Has pn S e) (k1 : c = true → Sm ((u e).bind okK) P1 (Tb pn S) X) (kk : ∀ b e', Has pn S e' → Sm (K b e') (k b) G X) : Sm (andK u K c e) ((if c = true then P1 else .ok false).bind k) G X := by
  cases c with
  | true => exact (k1 rfl).top.bind fun a b e' hj => by obtain ⟨rfl, hj⟩ := hj; exact kk _ _ hj
  | false => exact kk _ _ h
theorem f_or {c : Bool} {u : M Bool} {P1 : Res Bool} {K : Bool → M γ} {k : Bool → Res α} (h : Has pn S e) (k1 : c = false → Sm ((u e).bind okK) P1 (Tb pn S) X) (kk : ∀ b e', Has pn S e' → Sm (K b e') (k b) G X) : Sm (orK u K c e) ((if c = true then .ok true else P1).bind k) G X := by
  cases c with
  | false => exact (k1 rfl).top.bind fun a b e' hj => by obtain ⟨rfl, hj⟩ := hj; exact kk _ _ hj
  | true => exact kk _ _ h
/-- and, or of plain tests when one of them alone is not plain: the other way -/
theorem f_andP {c c2 : Bool} {u : M Bool} {K : Bool → M γ} (h : Has pn S e) (hu : PB pn S u c2) (k : Sm (K (c && c2) e) P G X) : Sm (andK u K c e) P G X := by
  cases c with
  | true => show Sm ((u e).bind K) P G X; rw [hu e h]; exact k
  | false => exact k
theorem f_orP {c c2 : Bool} {u : M Bool} {K : Bool → M γ} (h : Has pn S e) (hu : PB pn S u c2) (k : Sm (K (c || c2) e) P G X) : Sm (orK u K c e) P G X := by
  cases c with
  | true => exact k
  | false => show Sm ((u e).bind K) P G X; rw [hu e h]; exact k
def ifEK (a b : M RV) (K : RV → M γ) : Bool → M γ := fun c e => match c with
  | true => (a e).bind K
  | false => (b e).bind K
theorem c_ifE {t : M Bool} {a b : M RV} {K : RV → M γ} (k : Sm ((t e).bind (ifEK a b K)) P G X) : Sm ((dIfE t a b e).bind K) P G X := by
  have : (dIfE t a b e).bind K = (t e).bind (ifEK a b K) := by
    unfold dIfE M.bind
    cases t e with
    | st => rfl
    | ok c e => cases c <;> rfl
    | ex x e => rfl
  rw [this]; exact k
/-- the end of an expression's branch -/
def Ve (pn : List Nat) (S : List SD) (o : δ → Opd) : δ → RV → Env → Prop := fun v r e => ROk r (o v) ∧ Has pn S e
theorem f_ve {o : δ → Opd} {v : δ} (h : Has pn S e) (k : ROk r (o v)) : Sm (okK r e) (.ok v) (Ve pn S o) X := ⟨r, e, rfl, k, h⟩
theorem f_ifE {c : Bool} {a b : M RV} {P1 P2 : Res δ} {K : RV → M γ} {k : δ → Res α} (o : δ → Opd) (k1 : c = true → Sm ((a e).bind okK) P1 (Ve pn S o) X) (k2 : c = false → Sm ((b e).bind okK) P2 (Ve pn S o) X) (kk : ∀ v r e', ROk r (o v) → Has pn S e' → Sm (K r e') (k v) G X) : Sm (ifEK a b K c e) ((if c = true then P1 else P2).bind k) G X := by
  cases c with
  | true => exact (k1 rfl).top.bind fun a b e' hj => kk _ _ _ hj.1 hj.2
  | false => exact (k2 rfl).top.bind fun a b e' hj => kk _ _ _ hj.1 hj.2
/-! and, or, not of values -/
def andVK (b : M RV) (K : RV → M γ) : RV → M γ := fun r e => match (view e r).bind blOf with
  | some true => (b e).bind K
  | some false => K (.fz (.bl false)) e
  | none => .st
def orVK (b : M RV) (K : RV → M γ) : RV → M γ := fun r e => match (view e r).bind blOf with
  | some true => K (.fz (.bl true)) e
  | some false => (b e).bind K
  | none => .st
def notVK (K : RV → M γ) : RV → M γ := fun r e => match (view e r).bind blOf with
  | some b => K (.fz (.bl (!b))) e
  | none => .st
theorem c_andV {a b : M RV} {K : RV → M γ} (k : Sm ((a e).bind (andVK b K)) P G X) : Sm ((dAndV a b e).bind K) P G X := by
  have : (dAndV a b e).bind K = (a e).bind (andVK b K) := by
    rw [ev_andV, rbind_assoc]
    congr 1; funext r e
    unfold andVK
    cases (view e r).bind blOf with
    | none => rfl
    | some c => cases c <;> rfl
  rw [this]; exact k
theorem c_orV {a b : M RV} {K : RV → M γ} (k : Sm ((a e).bind (orVK b K)) P G X) : Sm ((dOrV a b e).bind K) P G X := by
  have : (dOrV a b e).bind K = (a e).bind (orVK b K) := by
    rw [ev_orV, rbind_assoc]
    congr 1; funext r e
    unfold orVK
    cases (view e r).bind blOf with
    | none => rfl
    | some c => cases c <;> rfl
  rw [this]; exact k
theorem c_notV {a : M RV} {K : RV → M γ} (k : Sm ((a e).bind (notVK K)) P G X) : Sm ((dNotV a e).bind K) P G X := by
  have : (dNotV a e).bind K = (a e).bind (notVK K) := by
    rw [ev_notV, rbind_assoc]
    congr 1; funext r e
    unfold notVK
    cases (view e r).bind blOf <;> rfl
  rw [this]; exact k
abbrev oB : Bool → Opd := fun c => .f (.bl c)
theorem f_andV {c : Bool} {b : M RV} {P1 : Res Bool} {K : RV → M γ} {k : Bool → Res α} (h : Has pn S e) (kr : ROk r (.f (.bl c))) (k1 : c = true → Sm ((b e).bind okK) P1 (Ve pn S oB) X) (kk : ∀ v e', Has pn S e' → Sm (K (.fz (.bl v)) e') (k v) G X) : Sm (andVK b K r e) ((if c = true then P1 else .ok false).bind k) G X := by
  cases kr
  unfold andVK
  simp only [view_fz, Option.bind, blOf_bl]
  cases c with
  | true => exact (k1 rfl).top.bind fun a b e' hj => by obtain ⟨hr, hj⟩ := hj; cases hr; exact kk _ _ hj
  | false => exact kk _ _ h
theorem f_orV {c : Bool} {b : M RV} {P1 : Res Bool} {K : RV → M γ} {k : Bool → Res α} (h : Has pn S e) (kr : ROk r (.f (.bl c))) (k1 : c = false → Sm ((b e).bind okK) P1 (Ve pn S oB) X) (kk : ∀ v e', Has pn S e' → Sm (K (.fz (.bl v)) e') (k v) G X) : Sm (orVK b K r e) ((if c = true then .ok true else P1).bind k) G X := by
  cases kr
  unfold orVK
  simp only [view_fz, Option.bind, blOf_bl]
  cases c with
  | false => exact (k1 rfl).top.bind fun a b e' hj => by obtain ⟨hr, hj⟩ := hj; cases hr; exact kk _ _ hj
  | true => exact kk _ _ h
theorem f_notV {c : Bool} {K : RV → M γ} (kr : ROk r (.f (.bl c))) (kk : Sm (K (.fz (.bl (!c))) e) P G X) : Sm (notVK K r e) P G X := by
  cases kr; exact kk
/-! a < b < c -/
def chK2 (f g : D → D → Option D) (c : M RV) (r : RV) (K : RV → M γ) : RV → M γ := fun q e => match view e r, view e q with
  | some x, some y => (match (f x y).bind blOf with
    | some true => (c e).bind fun p e => (match view e q, view e p with
      | some y, some z => (match g y z with
        | some d => K (.fz d) e
        | none => .st)
      | _, _ => .st)
    | some false => K (.fz (.bl false)) e
    | none => .st)
  | _, _ => .st
def chK1 (f g : D → D → Option D) (b c : M RV) (K : RV → M γ) : RV → M γ := fun r e => (b e).bind (chK2 f g c r K)
theorem c_chain {f g : D → D → Option D} {a b c : M RV} {K : RV → M γ} (k : Sm ((a e).bind (chK1 f g b c K)) P G X) : Sm ((dChain f g a b c e).bind K) P G X := by
  have : (dChain f g a b c e).bind K = (a e).bind (chK1 f g b c K) := by
    rw [ev_chain, rbind_assoc]
    congr 1; funext r e
    unfold chK1
    rw [rbind_assoc]
    congr 1; funext q e
    unfold chK2
    cases view e r with
    | none => rfl
    | some x => cases view e q with
      | none => rfl
      | some y =>
        simp only
        cases (f x y).bind blOf with
        | none => rfl
        | some t => cases t with
          | false => rfl
          | true =>
            simp only
            rw [rbind_assoc]
            congr 1; funext p e
            cases view e q with
            | none => rfl
            | some y => cases view e p with
              | none => rfl
              | some z => simp only; cases g y z <;> rfl
  rw [this]; exact k
theorem c_chain2 {f g : D → D → Option D} {b c : M RV} {K : RV → M γ} (k : Sm ((b e).bind (chK2 f g c r K)) P G X) : Sm (chK1 f g b c K r e) P G X := k
theorem f_chain {f g : Int → Int → Bool} {i j l : Int} {c : M RV} {K : RV → M γ} (h : Has pn S e) (k1 : ROk r oa) (k2 : ROk q ob) (hc : PJ pn S c oc) (k : Sm (K (.fz (.bl (f i j && g j l))) e) P G X) (da : Dt S oa (.int i) := by first | exact .f | exact .u rfl) (db : Dt S ob (.int j) := by first | exact .f | exact .u rfl) (dc : Dt S oc (.int l) := by first | exact .f | exact .u rfl) : Sm (chK2 (fB f) (fB g) c r K q e) P G X := by
  unfold chK2
  rw [da.view h k1, db.view h k2]
  simp only [fB_int, Option.bind, blOf_bl]
  cases hh : f i j with
  | false => rw [hh] at k; exact k
  | true =>
    rw [hh] at k
    obtain ⟨p, h3, k3⟩ := hc e h
    simp only [h3, bind_ok, db.view h k2, dc.view h k3, fB_int]
    exact k
/-! items -/
def ixK2 (r : RV) (K : RV → M γ) : RV → M γ := fun q e => match view e q with
  | some (.int i) => (match itemR e r i with
    | some d => K (.fz d) e
    | none => .st)
  | _ => .st
def ixK1 (b : M RV) (K : RV → M γ) : RV → M γ := fun r e => (b e).bind (ixK2 r K)
theorem c_ix {a b : M RV} {K : RV → M γ} (k : Sm ((a e).bind (ixK1 b K)) P G X) : Sm ((dIx a b e).bind K) P G X := by
  have : (dIx a b e).bind K = (a e).bind (ixK1 b K) := by
    rw [ev_ix, rbind_assoc]
    congr 1; funext r e
    unfold ixK1
    rw [rbind_assoc]
    congr 1; funext q e
    unfold ixK2
    cases view e q with
    | none => rfl
    | some x => cases x <;> first | rfl | (simp only; cases itemR e r _ <;> rfl)
  rw [this]; exact k
theorem c_ix2 {b : M RV} {K : RV → M γ} (k : Sm ((b e).bind (ixK2 r K)) P G X) : Sm (ixK1 b K r e) P G X := k
theorem item_dt {ds : List D} {i : Int} (h : Has pn S e) (k : ROk r o) (q : Dt S o (.lst ds)) : itemR e r i = atI ds i := by
  cases q with
  | f => cases k; rfl
  | w => cases k; exact kid_map ds i
  | y => rcases k with rfl | ⟨ds', e1, rfl⟩
         · rfl
         · cases e1; exact kid_map ds i
  | v q =>
    cases k
    obtain ⟨o, h1, h2⟩ := h.slot q
    cases h2
    show (match e.sl[_]? with | some (some s) => itemS s i | _ => none) = _
    rw [h1]; exact kid_map ds i
  | vz q =>
    cases k
    obtain ⟨o, h1, h2⟩ := h.slot q
    cases h2
    show (match e.sl[_]? with | some (some s) => itemS s i | _ => none) = _
    rw [h1]; rfl
  | u q =>
    rcases k with rfl | rfl
    · rfl
    · obtain ⟨o, h1, h2⟩ := h.slot q
      show (match e.sl[_]? with | some (some s) => itemS s i | _ => none) = _
      rcases h2 with rfl | ⟨ds', e1, rfl⟩
      · rw [h1]; rfl
      · cases e1; rw [h1]; exact kid_map ds i
  | o e => cases e
  | x q e => cases e
theorem f_ix {ω : Type} [Enc ω] {xs : List ω} {i : Int} {K : RV → M γ} {k : ω → Res α} (h : Has pn S e) (k1 : ROk r oa) (k2 : ROk q ob) (kk : ∀ v, Sm (K (.fz (enc v)) e) (k v) G X) (da : Dt S oa (enc xs) := by first | exact .f | exact .v rfl | exact .vz rfl | exact .w | exact .y | exact .u rfl) (db : Dt S ob (.int i) := by first | exact .f | exact .u rfl) : Sm (ixK2 r K q e) ((geti xs i).bind k) G X := by
  unfold ixK2
  rw [db.view h k2]
  simp only
  rw [item_dt h k1 da]
  unfold geti
  rw [atI_map]
  cases atI xs i with
  | none => first | trivial | exact ⟨trivial⟩
  | some v => exact kk v
theorem f_ixT {ω : Type} [Enc ω] {xs : Tup ω} {i : Int} {K : RV → M γ} {k : ω → Res α} (h : Has pn S e) (k1 : ROk r (.f (enc xs))) (k2 : ROk q ob) (kk : ∀ v, Sm (K (.fz (enc v)) e) (k v) G X) (db : Dt S ob (.int i) := by first | exact .f | exact .u rfl) : Sm (ixK2 r K q e) ((geti xs.l i).bind k) G X := by
  unfold ixK2
  rw [db.view h k2]
  cases k1
  show Sm (match atI (xs.l.map enc) i with | some d => K (.fz d) e | none => .st) _ G X
  unfold geti
  rw [atI_map]
  cases atI xs.l i with
  | none => first | trivial | exact ⟨trivial⟩
  | some v => exact kk v
theorem f_ixScr {ns : List Int} {i : Int} {K : RV → M γ} {k : Int → Res α} (h : Has pn S e) (k1 : ROk r (.f (.scr ns))) (k2 : ROk q ob) (kk : ∀ v, Sm (K (.fz (.int v)) e) (k v) G X) (db : Dt S ob (.int i) := by first | exact .f | exact .u rfl) : Sm (ixK2 r K q e) ((geti ns i).bind k) G X := by
  unfold ixK2
  rw [db.view h k2]
  cases k1
  show Sm (match (atI ns i).map D.int with | some d => K (.fz d) e | none => .st) _ G X
  unfold geti
  cases atI ns i with
  | none => first | trivial | exact ⟨trivial⟩
  | some v => exact kk v
/-- an item that is known -/
theorem f_ixK {ds : List D} {i : Int} {K : RV → M γ} (h : Has pn S e) (k1 : ROk r oa) (k2 : ROk q ob) (da : Dt S oa (.lst ds)) (db : Dt S ob (.int i)) (hi : atI ds i = some d) (k : Sm (K (.fz d) e) P G X) : Sm (ixK2 r K q e) P G X := by
  unfold ixK2
  rw [db.view h k2]
  simp only
  rw [item_dt h k1 da, hi]
  exact k
/-- an item of a tuple at a written place -/
theorem p_ixTup {ds : List D} {i : Int} {a : M RV} (ha : PJ pn S a (.f (.tup ds))) (hi : atI ds i = some d := by rfl) : PJ pn S (dIx a (dC (.int i))) (.f d) := fun e he => by
  obtain ⟨r, h1, k1⟩ := ha e he
  cases k1
  refine ⟨.fz d, ?_, rfl⟩
  rw [ev_ix, h1, bind_ok, ev_c, bind_ok]
  simp only [view_fz, item_fz, itemD_tup, hi]
/-- the two parts plain -/
theorem c_ixP {ω : Type} [Enc ω] {xs : List ω} {i : Int} {a b : M RV} {K : RV → M γ} {k : ω → Res α} (h : Has pn S e) (ha : PJ pn S a oa) (hb : PJ pn S b ob) (kk : ∀ v, Sm (K (.fz (enc v)) e) (k v) G X) (da : Dt S oa (enc xs) := by first | exact .f | exact .v rfl | exact .vz rfl | exact .w | exact .y | exact .u rfl) (db : Dt S ob (.int i) := by first | exact .f | exact .u rfl) : Sm ((dIx a b e).bind K) ((geti xs i).bind k) G X :=
  c_ix (c_pure h ha fun r k1 => c_ix2 (c_pure h hb fun q k2 => f_ix h k1 k2 kk da db))
end
end VF

set_option maxRecDepth 100000
set_option maxHeartbeats 4000000
/-! Arguments, displays, changes of lists, what is walked, loops, comprehensions. -/
namespace VF
set_option autoImplicit false
open PySem L2
open Enc (enc)
section
variable {α β γ δ σ τ : Type} {pn : List Nat} {S S' S1 S2 : List SD} {e : Env} {X : Exc → Env → Prop} {P : Res α} {G : α → γ → Env → Prop} {r q : RV} {o oa ob oc : Opd} {d x y z : D}
/-! arguments -/
def consK2 (r : RV) (K : List RV → M γ) : List RV → M γ := fun rs e => K (r :: rs) e
def consK1 (b : M (List RV)) (K : List RV → M γ) : RV → M γ := fun r e => (b e).bind (consK2 r K)
theorem c_cons {a : M RV} {b : M (List RV)} {K : List RV → M γ} (k : Sm ((a e).bind (consK1 b K)) P G X) : Sm ((dCons a b e).bind K) P G X := by
  have : (dCons a b e).bind K = (a e).bind (consK1 b K) := by
    rw [ev_cons, rbind_assoc]
    congr 1; funext r e
    unfold consK1
    rw [rbind_assoc]
    rfl
  rw [this]; exact k
theorem c_cons2 {b : M (List RV)} {K : List RV → M γ} (k : Sm ((b e).bind (consK2 r K)) P G X) : Sm (consK1 b K r e) P G X := k
theorem f_cons {rs : List RV} {K : List RV → M γ} (k : Sm (K (r :: rs) e) P G X) : Sm (consK2 r K rs e) P G X := k
theorem c_nil {K : List RV → M γ} (k : Sm (K [] e) P G X) : Sm ((dNil e).bind K) P G X := k
/-! built-ins of data -/
def cbK (fn : List D → Option D) (K : RV → M γ) : List RV → M γ := fun rs e => match rs.mapM (view e) with
  | some xs => (match fn xs with
    | some d => K (.fz d) e
    | none => .st)
  | none => .st
theorem c_cb {fn : List D → Option D} {a : M (List RV)} {K : RV → M γ} (k : Sm ((a e).bind (cbK fn K)) P G X) : Sm ((dCB fn a e).bind K) P G X := by
  have : (dCB fn a e).bind K = (a e).bind (cbK fn K) := by
    rw [ev_cb, rbind_assoc]
    congr 1; funext r e
    unfold cbK
    cases r.mapM (view e) with
    | none => rfl
    | some x => simp only; cases fn x <;> rfl
  rw [this]; exact k
theorem f_cb {fn : List D → Option D} {rs : List RV} {os : List Opd} {ds : List D} {K : RV → M γ} (h : Has pn S e) (kr : ROks rs os) (da : Dts S os ds) (hf : fn ds = some d) (k : Sm (K (.fz d) e) P G X) : Sm (cbK fn K rs e) P G X := by
  unfold cbK; rw [da.view h kr]; simp only [hf]; exact k
theorem maxI_ge : ∀ (xs : List Int) (m : Int), m ≤ maxI m xs ∧ (∀ x ∈ xs, x ≤ maxI m xs) ∧ (maxI m xs = m ∨ maxI m xs ∈ xs)
  | [], m => ⟨Int.le_refl _, fun _ h => absurd h List.not_mem_nil, .inl rfl⟩
  | x :: xs, m => by
    unfold maxI
    by_cases c : x > m
    · rw [if_pos c]
      obtain ⟨h1, h2, h3⟩ := maxI_ge xs x
      refine ⟨by omega, fun y hy => ?_, ?_⟩
      · rcases List.mem_cons.mp hy with q | q
        · rw [q]; exact h1
        · exact h2 y q
      · rcases h3 with h3 | h3
        · right; rw [h3]; exact List.mem_cons_self
        · right; exact List.mem_cons_of_mem _ h3
    · rw [if_neg c]
      obtain ⟨h1, h2, h3⟩ := maxI_ge xs m
      refine ⟨h1, fun y hy => ?_, ?_⟩
      · rcases List.mem_cons.mp hy with q | q
        · rw [q]; omega
        · exact h2 y q
      · rcases h3 with h3 | h3
        · left; exact h3
        · right; exact List.mem_cons_of_mem _ h3
theorem minI_le : ∀ (xs : List Int) (m : Int), minI m xs ≤ m ∧ (∀ x ∈ xs, minI m xs ≤ x) ∧ (minI m xs = m ∨ minI m xs ∈ xs)
  | [], m => ⟨Int.le_refl _, fun _ h => absurd h List.not_mem_nil, .inl rfl⟩
  | x :: xs, m => by
    unfold minI
    by_cases c : x < m
    · rw [if_pos c]
      obtain ⟨h1, h2, h3⟩ := minI_le xs x
      refine ⟨by omega, fun y hy => ?_, ?_⟩
      · rcases List.mem_cons.mp hy with q | q
        · rw [q]; exact h1
        · exact h2 y q
      · rcases h3 with h3 | h3
        · right; rw [h3]; exact List.mem_cons_self
        · right; exact List.mem_cons_of_mem _ h3
    · rw [if_neg c]
      obtain ⟨h1, h2, h3⟩ := minI_le xs m
      refine ⟨h1, fun y hy => ?_, ?_⟩
      · rcases List.mem_cons.mp hy with q | q
        · rw [q]; omega
        · exact h2 y q
      · rcases h3 with h3 | h3
        · left; exact h3
        · right; exact List.mem_cons_of_mem _ h3
theorem maxD_enc (xs : List Int) : maxD [.lst (xs.map enc)] = match maxR xs with | .ok v => some (.int v) | _ => none := by
  cases xs with
  | nil => rfl
  | cons a xs => cases xs with
    | nil => rfl
    | cons b xs => cases xs with
      | nil => rfl
      | cons c xs =>
        show (match intsOf ((a :: b :: c :: xs).map enc) with | some (n :: ns) => some (D.int (maxI n ns)) | _ => none) = _
        rw [intsOf_enc]; rfl
theorem minD_enc (xs : List Int) : minD [.lst (xs.map enc)] = match minR xs with | .ok v => some (.int v) | _ => none := by
  cases xs with
  | nil => rfl
  | cons a xs => cases xs with
    | nil => rfl
    | cons b xs => cases xs with
      | nil => rfl
      | cons c xs =>
        show (match intsOf ((a :: b :: c :: xs).map enc) with | some (n :: ns) => some (D.int (minI n ns)) | _ => none) = _
        rw [intsOf_enc]; rfl
theorem f_max {xs : List Int} {K : RV → M γ} {k : Int → Res α} (h : Has pn S e) (kr : ROk r o) (kk : ∀ v, Sm (K (.fz (.int v)) e) (k v) G X) (da : Dt S o (enc xs) := by first | exact .f | exact .v rfl | exact .vz rfl | exact .w | exact .y | exact .u rfl) : Sm (cbK maxD K [r] e) ((maxR xs).bind k) G X := by
  unfold cbK
  rw [(Dts.cons da .nil).view h (rs := [r]) ⟨kr, trivial⟩]
  show Sm (match maxD [.lst (xs.map enc)] with | some d => K (.fz d) e | none => .st) _ G X
  rw [maxD_enc]
  cases xs with
  | nil => first | trivial | exact ⟨trivial⟩
  | cons a xs => cases xs with
    | nil => exact kk _
    | cons b xs => cases xs with
      | nil => exact kk _
      | cons c xs => exact kk _
theorem f_min {xs : List Int} {K : RV → M γ} {k : Int → Res α} (h : Has pn S e) (kr : ROk r o) (kk : ∀ v, Sm (K (.fz (.int v)) e) (k v) G X) (da : Dt S o (enc xs) := by first | exact .f | exact .v rfl | exact .vz rfl | exact .w | exact .y | exact .u rfl) : Sm (cbK minD K [r] e) ((minR xs).bind k) G X := by
  unfold cbK
  rw [(Dts.cons da .nil).view h (rs := [r]) ⟨kr, trivial⟩]
  show Sm (match minD [.lst (xs.map enc)] with | some d => K (.fz d) e | none => .st) _ G X
  rw [minD_enc]
  cases xs with
  | nil => first | trivial | exact ⟨trivial⟩
  | cons a xs => cases xs with
    | nil => exact kk _
    | cons b xs => cases xs with
      | nil => exact kk _
      | cons c xs => exact kk _
/-! displays and copies whose parts may be one's own lists -/
def lstK (K : RV → M γ) : List RV → M γ := fun rs e => match frzRs rs e with
  | some (ds, e') => if ds.length ≤ sizeLine then K (.own (.ol (fzs ds))) e' else .st
  | none => .st
def tupK (K : RV → M γ) : List RV → M γ := fun rs e => match frzRs rs e with
  | some (ds, e') => if ds.length ≤ sizeLine then K (.fz (.tup ds)) e' else .st
  | none => .st
def newK (fn : List D → Option (List D)) (K : RV → M γ) : List RV → M γ := fun rs e => match frzRs rs e with
  | some (ds, e') => (match fn ds with
    | some es => K (.own (.ol (fzs es))) e'
    | none => .st)
  | none => .st
theorem c_lst {a : M (List RV)} {K : RV → M γ} (k : Sm ((a e).bind (lstK K)) P G X) : Sm ((dLst a e).bind K) P G X := by
  have : (dLst a e).bind K = (a e).bind (lstK K) := by
    rw [ev_lst, rbind_assoc]
    congr 1; funext r e
    unfold lstK
    cases frzRs r e with
    | none => rfl
    | some x => simp only; split <;> rfl
  rw [this]; exact k
theorem c_tup {a : M (List RV)} {K : RV → M γ} (k : Sm ((a e).bind (tupK K)) P G X) : Sm ((dTup a e).bind K) P G X := by
  have : (dTup a e).bind K = (a e).bind (tupK K) := by
    unfold dTup
    rw [mbind, rbind_assoc]
    congr 1; funext r e
    unfold tupK
    cases frzRs r e with
    | none => rfl
    | some x => simp only; split <;> rfl
  rw [this]; exact k
theorem c_new {fn : List D → Option (List D)} {a : M (List RV)} {K : RV → M γ} (k : Sm ((a e).bind (newK fn K)) P G X) : Sm ((dNew fn a e).bind K) P G X := by
  have : (dNew fn a e).bind K = (a e).bind (newK fn K) := by
    unfold dNew
    rw [mbind, rbind_assoc]
    congr 1; funext r e
    unfold newK
    cases frzRs r e with
    | none => rfl
    | some x => simp only; cases fn x.1 <;> rfl
  rw [this]; exact k
theorem f_lst {rs : List RV} {os : List Opd} {ds : List D} {K : RV → M γ} (h : Has pn S e) (kr : ROks rs os) (da : Fzs S os ds S') (hl : ds.length ≤ 1000000) (k : ∀ r e', ROk r (.w ds) → Has pn S' e' → Sm (K r e') P G X) : Sm (lstK K rs e) P G X := by
  obtain ⟨e', h1, h2⟩ := da.frz h kr
  unfold lstK; rw [h1]; simp only
  rw [if_pos (size_ge (by omega))]
  exact k _ _ rfl h2
theorem f_tup {rs : List RV} {os : List Opd} {ds : List D} {K : RV → M γ} (h : Has pn S e) (kr : ROks rs os) (da : Fzs S os ds S') (hl : ds.length ≤ 1000000) (k : ∀ r e', ROk r (.f (.tup ds)) → Has pn S' e' → Sm (K r e') P G X) : Sm (tupK K rs e) P G X := by
  obtain ⟨e', h1, h2⟩ := da.frz h kr
  unfold tupK; rw [h1]; simp only
  rw [if_pos (size_ge (by omega))]
  exact k _ _ rfl h2
theorem f_new {fn : List D → Option (List D)} {rs : List RV} {os : List Opd} {ds es : List D} {K : RV → M γ} (h : Has pn S e) (kr : ROks rs os) (da : Fzs S os ds S') (hf : fn ds = some es) (k : ∀ r e', ROk r (.w es) → Has pn S' e' → Sm (K r e') P G X) : Sm (newK fn K rs e) P G X := by
  obtain ⟨e', h1, h2⟩ := da.frz h kr
  unfold newK; rw [h1]; simp only [hf]
  exact k _ _ rfl h2
theorem listD_enc {ω : Type} [Enc ω] (xs : List ω) : listD [enc xs] = some (encs xs) := (rfl)
theorem sortedD_enc (xs : List Int) : sortedD [enc xs] = some (encs (sortI xs)) := by
  unfold sortedD
  show (intsOf (xs.map enc)).map _ = _
  rw [intsOf_enc]; rfl
/-! tuple(xs) -/
def tupOfK (K : RV → M γ) : List RV → M γ := fun rs e => match frzRs rs e with
  | some ([.lst ds], e1) => K (.fz (.tup ds)) e1
  | _ => .st
theorem c_tupOf {a : M (List RV)} {K : RV → M γ} (k : Sm ((a e).bind (tupOfK K)) P G X) : Sm ((dTupOf a e).bind K) P G X := by
  have : (dTupOf a e).bind K = (a e).bind (tupOfK K) := by
    unfold dTupOf
    rw [mbind, rbind_assoc]
    congr 1; funext r e
    unfold tupOfK
    cases frzRs r e with
    | none => rfl
    | some p =>
      obtain ⟨ds, e1⟩ := p
      rcases ds with _ | ⟨d, _ | ⟨d2, ds⟩⟩
      · rfl
      · cases d <;> rfl
      · cases d <;> rfl
  rw [this]; exact k
theorem f_tupOf {ω : Type} [Enc ω] {xs : List ω} {K : RV → M γ} (h : Has pn S e) (kr : ROk r o) (da : Fz S o (enc xs) S') (k : ∀ r e', ROk r (.f (enc (Tup.mk xs))) → Has pn S' e' → Sm (K r e') P G X) : Sm (tupOfK K [r] e) P G X := by
  obtain ⟨e', h1, h2⟩ := (Fzs.cons da .nil).frz h (rs := [r]) ⟨kr, trivial⟩
  unfold tupOfK; rw [h1]
  exact k _ _ rfl h2
/-! slices -/
def PPf (pn : List Nat) (S : List SD) (m : M (Option Int)) (i : Option Int) : Prop := PP pn S m i
def slK (l h : M (Option Int)) (K : RV → M γ) : RV → M γ := fun r e => match frzR r e with
  | some (.lst ds, e1) => (l e1).bind fun lo e2 => (h e2).bind fun hi e3 => K (.own (.ol (fzs (cutD ds lo hi)))) e3
  | _ => .st
theorem c_sl {a : M RV} {l h : M (Option Int)} {K : RV → M γ} (k : Sm ((a e).bind (slK l h K)) P G X) : Sm ((dSl a l h e).bind K) P G X := by
  have : (dSl a l h e).bind K = (a e).bind (slK l h K) := by
    unfold dSl
    rw [mbind, rbind_assoc]
    congr 1; funext r e
    unfold slK
    cases frzR r e with
    | none => rfl
    | some p =>
      obtain ⟨d, e1⟩ := p
      cases d <;> first | rfl | (simp only [rbind_assoc]; rfl)
  rw [this]; exact k
theorem f_sl {ω : Type} [Enc ω] {xs : List ω} {ml mh : M (Option Int)} {lo hi : Option Int} {K : RV → M γ} (h : Has pn S e) (kr : ROk r o) (da : Fz S o (enc xs) S') (hl : PP pn S' ml lo) (hh : PP pn S' mh hi) (k : ∀ r e', ROk r (.w (encs (cutL xs lo hi))) → Has pn S' e' → Sm (K r e') P G X) : Sm (slK ml mh K r e) P G X := by
  obtain ⟨e', h1, h2⟩ := da.frz h kr
  unfold slK; rw [h1]
  show Sm ((ml e').bind _) P G X
  rw [hl e' h2, bind_ok, hh e' h2, bind_ok, cutD_enc]
  exact k _ _ rfl h2
/-! a + b of lists -/
def addK2 (ds : List D) (K : RV → M γ) : RV → M γ := fun q e2 => match frzR q e2 with
    | some (.lst es, e3) => if ds.length + es.length ≤ sizeLine then K (.own (.ol (fzs (ds ++ es)))) e3 else .st
    | _ => .st
def addK1 (b : M RV) (K : RV → M γ) : RV → M γ := fun r e => match frzR r e with
  | some (.lst ds, e1) => (b e1).bind (addK2 ds K)
  | _ => .st
theorem c_addL {a b : M RV} {K : RV → M γ} (k : Sm ((a e).bind (addK1 b K)) P G X) : Sm ((dAddL a b e).bind K) P G X := by
  have : (dAddL a b e).bind K = (a e).bind (addK1 b K) := by
    unfold dAddL
    rw [mbind, rbind_assoc]
    congr 1; funext r e
    unfold addK1
    cases frzR r e with
    | none => rfl
    | some p =>
      obtain ⟨d, e1⟩ := p
      cases d with
      | lst ds =>
        simp only [rbind_assoc]
        congr 1; funext q e2
        unfold addK2
        cases frzR q e2 with
        | none => rfl
        | some p =>
          obtain ⟨d, e3⟩ := p
          cases d with
          | lst es => simp only; split <;> rfl
          | _ => rfl
      | _ => rfl
  rw [this]; exact k
theorem f_addL1 {ω : Type} [Enc ω] {xs : List ω} {b : M RV} {K : RV → M γ} (h : Has pn S e) (kr : ROk r o) (da : Fz S o (enc xs) S') (k : ∀ e', Has pn S' e' → Sm ((b e').bind (addK2 (encs xs) K)) P G X) : Sm (addK1 b K r e) P G X := by
  obtain ⟨e', h1, h2⟩ := da.frz h kr
  unfold addK1; rw [h1]; exact k _ h2
theorem f_addL2 {ω : Type} [Enc ω] {xs ys : List ω} {K : RV → M γ} {k : List ω → Res α} (h : Has pn S e) (kr : ROk r o) (da : Fz S o (enc ys) S') (kk : ∀ v r e', ROk r (.w (encs v)) → Has pn S' e' → Sm (K r e') (k v) G X) : Sm (addK2 (encs xs) K r e) ((catR xs ys).bind k) G X := by
  obtain ⟨e', h1, h2⟩ := da.frz h kr
  unfold addK2; rw [h1]
  show Sm (if (encs xs).length + (encs ys).length ≤ sizeLine then K (.own (.ol (fzs (encs xs ++ encs ys)))) e' else .st) _ G X
  unfold catR
  simp only [encs, List.length_map, okLe_eq, decide_eq_true_eq]
  split
  · refine kk (xs ++ ys) _ e' ?_ h2
    simp [ROk]
  · first | trivial | exact ⟨trivial⟩
/-! list(range(n)) -/
def lrgK (K : RV → M γ) : RV → M γ := fun r e => match view e r with
  | some (.int j) => if j ≤ 1000000 ∧ -(2 ^ 62) ≤ j then K (.own (.ol (fzs (rngD 0 j.toNat)))) e else .st
  | _ => .st
theorem c_lstRg {a : M RV} {K : RV → M γ} (k : Sm ((a e).bind (lrgK K)) P G X) : Sm ((dLstRg a e).bind K) P G X := by
  have : (dLstRg a e).bind K = (a e).bind (lrgK K) := by
    unfold dLstRg
    rw [mbind, rbind_assoc]
    congr 1; funext r e
    unfold lrgK
    cases view e r with
    | none => rfl
    | some d => cases d <;> first | rfl | (simp only; split <;> rfl)
  rw [this]; exact k
theorem rngD_enc (lo : Int) (n : Nat) : rngD lo n = (irng lo n).map enc := by
  unfold rngD irng
  rw [List.map_map]
  rfl
theorem f_lstRg {j : Int} {K : RV → M γ} {k : List Int → Res α} (h : Has pn S e) (kr : ROk r o) (kk : ∀ v r, ROk r (.w (encs v)) → Sm (K r e) (k v) G X) (da : Dt S o (.int j) := by first | exact .f | exact .u rfl) : Sm (lrgK K r e) ((lrngR j).bind k) G X := by
  unfold lrgK lrngR
  rw [da.view h kr]
  simp only [okLr_eq, decide_eq_true_eq]
  split
  · exact kk _ _ (by rw [rngD_enc]; rfl)
  · first | trivial | exact ⟨trivial⟩
/-! changes of lists -/
def appK (i : Nat) (K : RV → M γ) : RV → M γ := fun r e => match frzR r e with
    | some (d, e1) => (match e1.sl[i]? with
      | some (some (.ol xs)) => if xs.length < sizeLine then K (.fz .non) (e1.setS i (.ol (xs ++ [.fz d]))) else .st
      | _ => .st)
    | none => .st
theorem c_app {i : Nat} {ds : List D} {a : M RV} {K : RV → M γ} (h : Has pn S e) (hi : S[i]? = some (.ol ds)) (k : Sm ((a e).bind (appK i K)) P G X) : Sm ((dApp i a e).bind K) P G X := by
  obtain ⟨o, h1, h2⟩ := h.slot hi
  cases h2
  have : (dApp i a e).bind K = (a e).bind (appK i K) := by
    rw [ev_app, h1]
    simp only [rbind_assoc]
    congr 1; funext r e
    unfold appK
    cases frzR r e with
    | none => rfl
    | some p =>
      simp only
      cases p.2.sl[i]? with
      | none => rfl
      | some o => cases o with
        | none => rfl
        | some s => cases s <;> first | rfl | (simp only; split <;> rfl)
  rw [this]; exact k
theorem f_app {ω : Type} [Enc ω] {i : Nat} {xs : List ω} {v : ω} {K : RV → M γ} {k : List ω → Res α} (h : Has pn S e) (kr : ROk r o) (da : Fz S o (enc v) S') (hi : S'[i]? = some (.ol (encs xs))) (kk : ∀ v r e', ROk r (.f .non) → Has pn (S'.set i (.ol (encs v))) e' → Sm (K r e') (k v) G X) : Sm (appK i K r e) ((appR xs v).bind k) G X := by
  obtain ⟨e', h1, h2⟩ := da.frz h kr
  obtain ⟨o', h3, h4⟩ := h2.slot hi
  cases h4
  unfold appK appR
  rw [h1]
  simp only [h3, fzs_len, encs, List.length_map, okLt_eq, decide_eq_true_eq]
  split
  · refine kk (xs ++ [v]) _ _ rfl (h2.setS i ?_)
    simp [SD.ok, fzs]
  · first | trivial | exact ⟨trivial⟩
def popK (i : Nat) (K : RV → M γ) : RV → M γ := fun r e => match view e r with
    | some (.int n) => (match e.sl[i]? with
      | some (some (.ol xs)) => if -(2 ^ 63) ≤ n ∧ n < 2 ^ 63 then (match seqIndex? n xs.length with
        | some k => (match xs[k]? with
          | some s => K (svR s) (e.setS i (.ol (xs.eraseIdx k)))
          | none => .st)
        | none => .st) else .st
      | _ => .st)
    | _ => .st
theorem c_pop {i : Nat} {ds : List D} {a : M RV} {K : RV → M γ} (h : Has pn S e) (hi : S[i]? = some (.ol ds)) (k : Sm ((a e).bind (popK i K)) P G X) : Sm ((dPopAt i a e).bind K) P G X := by
  obtain ⟨o, h1, h2⟩ := h.slot hi
  cases h2
  have : (dPopAt i a e).bind K = (a e).bind (popK i K) := by
    unfold dPopAt
    simp only [h1, rbind_assoc]
    congr 1; funext r e
    unfold popK
    cases view e r with
    | none => rfl
    | some d => cases d with
      | int n =>
        simp only
        cases e.sl[i]? with
        | none => rfl
        | some o => cases o with
          | none => rfl
          | some s => cases s with
            | ol xs =>
              simp only
              split
              · cases seqIndex? n xs.length with
                | none => rfl
                | some k => simp only; cases xs[k]? <;> rfl
              · rfl
            | _ => rfl
      | _ => rfl
  rw [this]; exact k
theorem f_pop {ω : Type} [Enc ω] {i : Nat} {n : Int} {xs : List ω} {K : RV → M γ} {k : ω × List ω → Res α} (h : Has pn S e) (kr : ROk r o) (hi : S[i]? = some (.ol (encs xs))) (kk : ∀ v ys r e', ROk r (.f (enc v)) → Has pn (S.set i (.ol (encs ys))) e' → Sm (K r e') (k (v, ys)) G X) (da : Dt S o (.int n) := by first | exact .f | exact .u rfl) : Sm (popK i K r e) ((popR xs n).bind k) G X := by
  obtain ⟨o', h3, h4⟩ := h.slot hi
  cases h4
  unfold popK popR
  rw [da.view h kr]
  simp only [h3, fzs_len, encs, List.length_map]
  split
  · cases seqIndex? n xs.length with
    | none => first | trivial | exact ⟨trivial⟩
    | some m =>
      simp only [fzs_get, List.getElem?_map]
      cases xs[m]? with
      | none => first | trivial | exact ⟨trivial⟩
      | some v =>
        refine kk v (xs.eraseIdx m) _ _ rfl (h.setS i ?_)
        simp [SD.ok, encs, map_erase]
  · first | trivial | exact ⟨trivial⟩
/-! xs[i] = v -/
def siK2 (j : Nat) (r : RV) (K : Fl → M γ) : RV → M γ := fun q e => match view e q with
    | some (.int k) => (match frzR r e with
      | some (d, e1) => (match e1.sl[j]? with
        | some (some (.ol xs)) => (match ixN xs.length k with
          | some n => K .nx (e1.setS j (.ol (xs.set n (.fz d))))
          | none => .st)
        | _ => .st)
      | none => .st)
    | _ => .st
def siK1 (j : Nat) (b : M RV) (K : Fl → M γ) : RV → M γ := fun r e => match e.sl[j]? with
  | some (some (.ol _)) => (b e).bind (siK2 j r K)
  | _ => .st
theorem c_setIx {j : Nat} {a b : M RV} {K : Fl → M γ} (k : Sm ((a e).bind (siK1 j b K)) P G X) : Sm ((dSetIx j b a e).bind K) P G X := by
  have : (dSetIx j b a e).bind K = (a e).bind (siK1 j b K) := by
    rw [ev_setIx, rbind_assoc]
    congr 1; funext r e
    unfold siK1
    cases e.sl[j]? with
    | none => rfl
    | some o => cases o with
      | none => rfl
      | some s => cases s with
        | ol xs =>
          simp only [rbind_assoc]
          congr 1; funext q e
          unfold siK2
          cases view e q with
          | none => rfl
          | some d => cases d with
            | int n =>
              simp only
              cases frzR r e with
              | none => rfl
              | some p =>
                simp only
                cases p.2.sl[j]? with
                | none => rfl
                | some o => cases o with
                  | none => rfl
                  | some s => cases s <;> first | rfl | (simp only; cases ixN _ _ <;> rfl)
            | _ => rfl
        | _ => rfl
  rw [this]; exact k
theorem c_setIx2 {j : Nat} {b : M RV} {ds : List D} {K : Fl → M γ} (h : Has pn S e) (hi : S[j]? = some (.ol ds)) (k : Sm ((b e).bind (siK2 j r K)) P G X) : Sm (siK1 j b K r e) P G X := by
  obtain ⟨o', h3, h4⟩ := h.slot hi
  cases h4
  unfold siK1
  rw [h3]; exact k
theorem f_setIx {ω : Type} [Enc ω] {j : Nat} {n : Int} {xs : List ω} {v : ω} {K : Fl → M γ} {k : List ω → Res α} (h : Has pn S e) (kr : ROk r o) (kq : ROk q ob) (da : Fz S o (enc v) S') (hi : S'[j]? = some (.ol (encs xs))) (kk : ∀ v e', Has pn (S'.set j (.ol (encs v))) e' → Sm (K .nx e') (k v) G X) (db : Dt S ob (.int n) := by first | exact .f | exact .u rfl) : Sm (siK2 j r K q e) ((setR xs n v).bind k) G X := by
  obtain ⟨e', h1, h2⟩ := da.frz h kr
  obtain ⟨o', h3, h4⟩ := h2.slot hi
  cases h4
  unfold siK2 setR
  rw [db.view h kq]
  simp only [h1, h3, fzs_len, encs, List.length_map]
  cases ixN xs.length n with
  | none => first | trivial | exact ⟨trivial⟩
  | some m =>
    refine kk (xs.set m v) _ (h2.setS j ?_)
    simp [SD.ok, encs, List.map_set]
/-! x op= e -/
def augK (i : Nat) (f : Int → Int → Int) (x : Int) (K : Fl → M γ) : RV → M γ := fun r e => match view e r with
    | some (.int y) => (match putR i (.fz (.int (f x y))) e with
      | some e' => K .nx e'
      | none => .st)
    | _ => .st
theorem c_aug {i : Nat} {f : Int → Int → Int} {x : Int} {a : M RV} {K : Fl → M γ} (h : Has pn S e) (hi : S[i]? = some (.fz (.int x))) (k : Sm ((a e).bind (augK i f x K)) P G X) : Sm ((dAug i f a e).bind K) P G X := by
  obtain ⟨o, h1, h2⟩ := h.slot hi
  cases h2
  have : (dAug i f a e).bind K = (a e).bind (augK i f x K) := by
    unfold dAug
    rw [h1]
    simp only [rbind_assoc]
    congr 1; funext r e
    unfold augK
    cases view e r with
    | none => rfl
    | some d => cases d <;> first | rfl | (simp only; cases putR i _ e <;> rfl)
  rw [this]; exact k
theorem f_aug {i : Nat} {f : Int → Int → Int} {x y : Int} {K : Fl → M γ} {k : Int → Res α} (h : Has pn S e) (kr : ROk r o) (kk : ∀ v e', Has pn (S.set i (.fz (.int v))) e' → Sm (K .nx e') (k v) G X) (da : Dt S o (.int y) := by first | exact .f | exact .u rfl) (hi : i ∉ pn := by decide) : Sm (augK i f x K r e) ((Res.ok (f x y)).bind k) G X := by
  unfold augK
  rw [da.view h kr]
  have hi' : i ∉ e.pn := by rw [h.pn]; exact hi
  simp only [putR, if_neg hi']
  exact kk _ _ (h.setS i rfl)
theorem c_augP {i : Nat} {f : Int → Int → Int} {x y : Int} {a : M RV} {K : Fl → M γ} {k : Int → Res α} (h : Has pn S e) (hi : S[i]? = some (.fz (.int x))) (ha : PJ pn S a o) (kk : ∀ v e', Has pn (S.set i (.fz (.int v))) e' → Sm (K .nx e') (k v) G X) (da : Dt S o (.int y) := by first | exact .f | exact .u rfl) (hp : i ∉ pn := by decide) : Sm ((dAug i f a e).bind K) ((Res.ok (f x y)).bind k) G X :=
  c_aug h hi (c_pure h ha fun r kr => f_aug h kr kk da hp)
/-! xs[i] op= e -/
def aiK2 (j : Nat) (k x : Int) (f : Int → Int → Int) (K : Fl → M γ) : RV → M γ := fun r e1 => match view e1 r with
        | some (.int y) => (match e1.sl[j]? with
          | some (some (.ol xs)) => (match ixN xs.length k with
            | some n => K .nx (e1.setS j (.ol (xs.set n (.fz (.int (f x y))))))
            | none => .st)
          | _ => .st)
        | _ => .st
def aiK1 (j : Nat) (f : Int → Int → Int) (a : M RV) (K : Fl → M γ) : RV → M γ := fun q e => match view e q with
    | some (.int k) => if 0 ≤ k then (match kidI e j k with
      | some x => (a e).bind (aiK2 j k x f K)
      | _ => .st) else .st
    | _ => .st
theorem c_augIx {j : Nat} {ds : List D} {f : Int → Int → Int} {a b : M RV} {K : Fl → M γ} (h : Has pn S e) (hi : S[j]? = some (.ol ds)) (k : Sm ((b e).bind (aiK1 j f a K)) P G X) : Sm ((dAugIx j b f a e).bind K) P G X := by
  obtain ⟨o, h1, h2⟩ := h.slot hi
  cases h2
  have : (dAugIx j b f a e).bind K = (b e).bind (aiK1 j f a K) := by
    rw [ev_augIx, h1]
    simp only [rbind_assoc]
    congr 1; funext q e
    unfold aiK1
    cases view e q with
    | none => rfl
    | some d => cases d with
      | int n =>
        simp only
        split
        · cases kidI e j n with
          | none => rfl
          | some x =>
            simp only [rbind_assoc]
            congr 1; funext r e1
            unfold aiK2
            cases view e1 r with
            | none => rfl
            | some d => cases d with
              | int y =>
                simp only
                cases e1.sl[j]? with
                | none => rfl
                | some o => cases o with
                  | none => rfl
                  | some s => cases s <;> first | rfl | (simp only; cases ixN _ _ <;> rfl)
              | _ => rfl
        · rfl
      | _ => rfl
  rw [this]; exact k
theorem f_augIxP {j : Nat} {xs : List Int} {f : Int → Int → Int} {n y : Int} {a : M RV} {K : Fl → M γ} {k : List Int → Res α} (h : Has pn S e) (hi : S[j]? = some (.ol (encs xs))) (kq : ROk q ob) (ha : PJ pn S a o) (kk : ∀ v e', Has pn (S.set j (.ol (encs v))) e' → Sm (K .nx e') (k v) G X) (db : Dt S ob (.int n) := by first | exact .f | exact .u rfl) (da : Dt S o (.int y) := by first | exact .f | exact .u rfl) : Sm (aiK1 j f a K q e) ((augR xs n f y).bind k) G X := by
  obtain ⟨o', h3, h4⟩ := h.slot hi
  cases h4
  obtain ⟨r, h5, kr⟩ := ha e h
  unfold aiK1 augR
  rw [db.view h kq]
  simp only
  split
  · rename_i hn
    have e1 : kidI e j n = xs[n.toNat]? := by
      unfold kidI
      rw [h3]
      simp only
      rw [kid_map, atI_map, atI_nonneg _ _ hn]
      cases xs[n.toNat]? <;> rfl
    rw [e1]
    cases hx : xs[n.toNat]? with
    | none => first | trivial | exact ⟨trivial⟩
    | some x =>
      have hl := (List.getElem?_eq_some_iff.mp hx).1
      have e2 : ixN (fzs (encs xs)).length n = some n.toNat := by
        rw [ixN_ok hn (by simp only [fzs_len, encs, List.length_map]; omega)]
      simp only [h5, bind_ok, aiK2, da.view h kr, h3, e2]
      refine kk (xs.set n.toNat (f x y)) _ (h.setS j ?_)
      simp [SD.ok, encs, List.map_set, enc]
  · first | trivial | exact ⟨trivial⟩
/-! xs.index(y) -/
def mtK2 (f : List D → List D → Option D) (r : RV) (K : RV → M γ) : List RV → M γ := fun rs e2 => match view e2 r, rs.mapM (view e2) with
    | some (.lst ds), some as => (match f ds as with
      | some d => K (.fz d) e2
      | none => .st)
    | _, _ => .st
def mtK1 (f : List D → List D → Option D) (b : M (List RV)) (K : RV → M γ) : RV → M γ := fun r e => match view e r with
  | some (.lst _) => (b e).bind (mtK2 f r K)
  | _ => .st
theorem c_mt {f : List D → List D → Option D} {a : M RV} {b : M (List RV)} {K : RV → M γ} (k : Sm ((a e).bind (mtK1 f b K)) P G X) : Sm ((dMt f a b e).bind K) P G X := by
  have : (dMt f a b e).bind K = (a e).bind (mtK1 f b K) := by
    unfold dMt
    rw [mbind, rbind_assoc]
    congr 1; funext r e
    unfold mtK1
    cases view e r with
    | none => rfl
    | some d => cases d with
      | lst ds =>
        simp only [rbind_assoc]
        congr 1; funext rs e2
        unfold mtK2
        cases view e2 r with
        | none => rfl
        | some d => cases d with
          | lst ds => cases rs.mapM (view e2) with
            | none => rfl
            | some as => simp only; cases f ds as <;> rfl
          | _ => rfl
      | _ => rfl
  rw [this]; exact k
theorem c_mt2 {ds : List D} {f : List D → List D → Option D} {b : M (List RV)} {K : RV → M γ} (h : Has pn S e) (kr : ROk r o) (da : Dt S o (.lst ds)) (k : Sm ((b e).bind (mtK2 f r K)) P G X) : Sm (mtK1 f b K r e) P G X := by
  unfold mtK1; rw [da.view h kr]; exact k
theorem find_enc {ω : Type} [Enc ω] [EqE ω] [DecidableEq ω] (v : ω) (p : PyData) (hp : toP (enc v) = some p) : ∀ (xs : List ω) (ps : List PyData), toPs (xs.map enc) = some ps → (ps.findIdx? fun z => PyData.eqv z p) = xs.findIdx? (fun y => decide (y = v))
  | [], ps, h => by cases h; rfl
  | x :: xs, ps, h => by
    obtain ⟨q, l1, _⟩ := EqE.lay x
    obtain ⟨qs, l2, _⟩ := toPs_lay xs
    have e1 : toPs ((x :: xs).map enc) = some (q :: qs) := by show toPs (enc x :: xs.map enc) = _; unfold toPs; rw [l1, l2]
    rw [e1] at h; cases h
    have e2 := EqE.eqv x v q p l1 hp
    rw [List.findIdx?_cons, List.findIdx?_cons, find_enc v p hp xs qs l2]
    by_cases hx : x = v
    · rw [e2.mpr hx, decide_eq_true hx]
    · have : PyData.eqv q p = false := by
        cases z : PyData.eqv q p with
        | true => exact absurd (e2.mp z) hx
        | false => rfl
      rw [this, decide_eq_false hx]
theorem f_index {ω : Type} [Enc ω] [EqE ω] [DecidableEq ω] {xs : List ω} {v : ω} {K : RV → M γ} {k : Int → Res α} (h : Has pn S e) (kr : ROk r oa) (kq : ROk q ob) (kk : ∀ v, Sm (K (.fz (.int v)) e) (k v) G X) (da : Dt S oa (enc xs) := by first | exact .f | exact .v rfl | exact .vz rfl | exact .w | exact .y | exact .u rfl) (db : Dt S ob (enc v) := by first | exact .f | exact .v rfl | exact .vz rfl | exact .w | exact .y | exact .u rfl) (hd : EqE.dep ω ≤ 63 := by decide) : Sm (mtK2 indexD r K [q] e) ((idxR xs v).bind k) G X := by
  unfold mtK2
  rw [da.view h kr, (Dts.cons db .nil).view h (rs := [q]) ⟨kq, trivial⟩]
  obtain ⟨p, h1, h2⟩ := shaped_enc v (by omega)
  obtain ⟨ps, k1, k2, k3⟩ := toPs_lay xs
  show Sm (match indexD (xs.map enc) [enc v] with | some d => K (.fz d) e | none => .st) _ G X
  have e1 : indexD (xs.map enc) [enc v] = (xs.findIdx? (fun y => decide (y = v))).map fun j => D.int (j : Nat) := by
    unfold indexD
    simp only [k1, h1]
    rw [if_pos (by
      rw [Bool.and_eq_true]
      refine ⟨?_, h2⟩
      simp [SeqAt.shaped, PyData.canLay0, PyData.depth, k2]; omega), find_enc v p h1 xs ps k1]
  rw [e1]
  unfold idxR
  cases xs.findIdx? (fun y => decide (y = v)) with
  | none => first | trivial | exact ⟨trivial⟩
  | some j => exact kk _
/-! what is walked -/
def itK (K : List D → M γ) : RV → M γ := fun r e => match frzR r e with
  | some (d, e1) => (match walk d with
    | some ds => K ds e1
    | none => .st)
  | none => .st
theorem c_it {a : M RV} {K : List D → M γ} (k : Sm ((a e).bind (itK K)) P G X) : Sm ((dIt a e).bind K) P G X := by
  have : (dIt a e).bind K = (a e).bind (itK K) := by
    rw [ev_it, rbind_assoc]
    congr 1; funext r e
    unfold itK
    cases frzR r e with
    | none => rfl
    | some p => simp only; cases walk p.1 <;> rfl
  rw [this]; exact k
theorem f_it {ω : Type} [Enc ω] {xs : List ω} {K : List D → M γ} (h : Has pn S e) (kr : ROk r o) (da : Fz S o (enc xs) S') (k : ∀ e', Has pn S' e' → Sm (K (xs.map enc) e') P G X) : Sm (itK K r e) P G X := by
  obtain ⟨e', h1, h2⟩ := da.frz h kr
  unfold itK; rw [h1]; exact k _ h2
theorem f_itT {ω : Type} [Enc ω] {xs : Tup ω} {K : List D → M γ} (h : Has pn S e) (kr : ROk r o) (da : Fz S o (enc xs) S') (k : ∀ e', Has pn S' e' → Sm (K (xs.l.map enc) e') P G X) : Sm (itK K r e) P G X := by
  obtain ⟨e', h1, h2⟩ := da.frz h kr
  unfold itK; rw [h1]; exact k _ h2
def rg1K (K : List D → M γ) : List RV → M γ := fun rs e => match rs.mapM (view e) with
  | some ds => (match oneI ds with
    | some j => if small62 j = true then K (rngD 0 j.toNat) e else .st
    | none => .st)
  | none => .st
theorem c_rng1 {a : M (List RV)} {K : List D → M γ} (k : Sm ((a e).bind (rg1K K)) P G X) : Sm ((dRng1 a e).bind K) P G X := by
  have : (dRng1 a e).bind K = (a e).bind (rg1K K) := by
    rw [ev_rng1, rbind_assoc]
    congr 1; funext r e
    unfold rg1K
    cases r.mapM (view e) with
    | none => rfl
    | some ds => simp only; cases oneI ds with
      | none => rfl
      | some j => simp only; split <;> rfl
  rw [this]; exact k
theorem f_rng1 {j : Int} {K : List D → M γ} {k : List Int → Res α} (h : Has pn S e) (kr : ROk r o) (kk : ∀ v : List Int, Sm (K (v.map enc) e) (k v) G X) (da : Dt S o (.int j) := by first | exact .f | exact .u rfl) : Sm (rg1K K [r] e) ((rng1R j).bind k) G X := by
  unfold rg1K rng1R
  rw [(Dts.cons da .nil).view h (rs := [r]) ⟨kr, trivial⟩]
  simp only [oneI_int, ok62_eq]
  split
  · rw [rngD_enc]; exact kk _
  · first | trivial | exact ⟨trivial⟩
def rg2K (K : List D → M γ) : List RV → M γ := fun rs e => match rs.mapM (view e) with
  | some ds => (match twoI ds with
    | some (i, j) => if (small62 i && small62 j) = true then K (rngD i (j - i).toNat) e else .st
    | none => .st)
  | none => .st
theorem c_rng2 {a : M (List RV)} {K : List D → M γ} (k : Sm ((a e).bind (rg2K K)) P G X) : Sm ((dRng2 a e).bind K) P G X := by
  have : (dRng2 a e).bind K = (a e).bind (rg2K K) := by
    rw [ev_rng2, rbind_assoc]
    congr 1; funext r e
    unfold rg2K
    cases r.mapM (view e) with
    | none => rfl
    | some ds => simp only; cases twoI ds with
      | none => rfl
      | some j => simp only; split <;> rfl
  rw [this]; exact k
theorem f_rng2 {i j : Int} {K : List D → M γ} {k : List Int → Res α} (h : Has pn S e) (kr : ROk r o) (kq : ROk q ob) (kk : ∀ v : List Int, Sm (K (v.map enc) e) (k v) G X) (da : Dt S o (.int i) := by first | exact .f | exact .u rfl) (db : Dt S ob (.int j) := by first | exact .f | exact .u rfl) : Sm (rg2K K [r, q] e) ((rngR i j).bind k) G X := by
  unfold rg2K rngR
  rw [(Dts.cons da (.cons db .nil)).view h (rs := [r, q]) ⟨kr, kq, trivial⟩]
  simp only [twoI_int, ok62_eq]
  split
  · rw [rngD_enc]; exact kk _
  · first | trivial | exact ⟨trivial⟩
def enumK (K : List D → M γ) : List RV → M γ := fun rs e => match frzRs rs e with
  | some (ds, e1) => (match oneL ds with
    | some xs => K (enumD xs) e1
    | none => .st)
  | none => .st
theorem c_enum {a : M (List RV)} {K : List D → M γ} (k : Sm ((a e).bind (enumK K)) P G X) : Sm ((dEnum a e).bind K) P G X := by
  have : (dEnum a e).bind K = (a e).bind (enumK K) := by
    unfold dEnum
    rw [mbind, rbind_assoc]
    congr 1; funext r e
    unfold enumK
    cases frzRs r e with
    | none => rfl
    | some p => simp only; cases oneL p.1 <;> rfl
  rw [this]; exact k
theorem enumD_enc {ω : Type} [Enc ω] (xs : List ω) : enumD (xs.map enc) = (enumL xs).map enc := by
  unfold enumD enumL
  refine List.ext_getElem? fun n => ?_
  rw [List.getElem?_mapIdx, List.getElem?_map, List.getElem?_map, List.getElem?_mapIdx]
  cases xs[n]? <;> rfl
theorem f_enum {ω : Type} [Enc ω] {xs : List ω} {K : List D → M γ} (h : Has pn S e) (kr : ROk r o) (da : Fz S o (enc xs) S') (k : ∀ e', Has pn S' e' → Sm (K ((enumL xs).map enc) e') P G X) : Sm (enumK K [r] e) P G X := by
  obtain ⟨e', h1, h2⟩ := (Fzs.cons da .nil).frz h (rs := [r]) ⟨kr, trivial⟩
  unfold enumK; rw [h1]
  show Sm (K (enumD (xs.map enc)) e') P G X
  rw [enumD_enc]
  exact k _ h2
def zipK (K : List D → M γ) : List RV → M γ := fun rs e => match frzRs rs e with
  | some (ds, e1) => (match twoL ds with
    | some (xs, ys) => K (zipD xs ys) e1
    | none => .st)
  | none => .st
theorem c_zip {a : M (List RV)} {K : List D → M γ} (k : Sm ((a e).bind (zipK K)) P G X) : Sm ((dZip a e).bind K) P G X := by
  have : (dZip a e).bind K = (a e).bind (zipK K) := by
    unfold dZip
    rw [mbind, rbind_assoc]
    congr 1; funext r e
    unfold zipK
    cases frzRs r e with
    | none => rfl
    | some p => simp only; cases twoL p.1 <;> rfl
  rw [this]; exact k
theorem zipD_enc {ω ψ : Type} [Enc ω] [Enc ψ] (xs : List ω) (ys : List ψ) : zipD (xs.map enc) (ys.map enc) = (xs.zip ys).map enc := by
  unfold zipD
  rw [List.zip_map, List.map_map]
  rfl
theorem f_zip {ω ψ : Type} [Enc ω] [Enc ψ] {xs : List ω} {ys : List ψ} {K : List D → M γ} (h : Has pn S e) (kr : ROk r o) (kq : ROk q ob) (da : Fz S o (enc xs) S1) (db : Fz S1 ob (enc ys) S') (k : ∀ e', Has pn S' e' → Sm (K ((xs.zip ys).map enc) e') P G X) : Sm (zipK K [r, q] e) P G X := by
  obtain ⟨e', h1, h2⟩ := (Fzs.cons da (.cons db .nil)).frz h (rs := [r, q]) ⟨kr, kq, trivial⟩
  unfold zipK; rw [h1]
  show Sm (K (zipD (xs.map enc) (ys.map enc)) e') P G X
  rw [zipD_enc]
  exact k _ h2
end
end VF

set_option maxRecDepth 100000
set_option maxHeartbeats 4000000
/-! Targets, loops, comprehensions, calls, defs. -/
namespace VF
set_option autoImplicit false
open PySem L2
open Enc (enc)
section
variable {α β γ δ σ τ ω ψ : Type} {pn : List Nat} {S S' S1 S2 : List SD} {e : Env} {X : Exc → Env → Prop} {P : Res α} {G : α → γ → Env → Prop} {r q : RV} {o oa ob oc : Opd} {d x y z : D}
/-! targets -/
def TG (pn : List Nat) (S : List SD) (g : Tg) (d : D) (S' : List SD) : Prop := ∀ e, Has pn S e → ∃ e', g d e = some e' ∧ Has pn S' e'
def TGs (pn : List Nat) (S : List SD) (g : Tgs) (ds : List D) (S' : List SD) : Prop := ∀ e, Has pn S e → ∃ e', g ds e = some e' ∧ Has pn S' e'
theorem tg_n {i : Nat} (hi : i ∉ pn := by decide) : TG pn S (gN i) d (S.set i (.fz d)) := fun e h => St.put (o := .f d) (r := .fz d) h rfl .f hi
theorem tgs_no : TGs pn S gNo [] S := fun e h => ⟨e, rfl, h⟩
theorem tgs_co {g : Tg} {g' : Tgs} {ds : List D} (h1 : TG pn S g d S1) (h2 : TGs pn S1 g' ds S2) : TGs pn S (gCo g g') (d :: ds) S2 := fun e h => by
  obtain ⟨e1, k1, k2⟩ := h1 e h
  obtain ⟨e2, k3, k4⟩ := h2 e1 k2
  exact ⟨e2, by unfold gCo; simp only [k1, k3], k4⟩
theorem tg_tup {n : Nat} {g : Tgs} {ds : List D} (h : TGs pn S g ds S') (hn : ds.length = n := by rfl) : TG pn S (gTp n g) (.tup ds) S' := fun e he => by
  obtain ⟨e', k1, k2⟩ := h e he
  exact ⟨e', by unfold gTp; simp only [hn, if_true, k1], k2⟩
def asgK (g : Tg) (K : Fl → M γ) : RV → M γ := fun r e => match frzR r e with
    | some (d, e1) => (match g d e1 with
      | some e2 => K .nx e2
      | none => .st)
    | none => .st
theorem c_asgG {g : Tg} {a : M RV} {K : Fl → M γ} (k : Sm ((a e).bind (asgK g K)) P G X) : Sm ((dAsgG g a e).bind K) P G X := by
  have : (dAsgG g a e).bind K = (a e).bind (asgK g K) := by
    unfold dAsgG
    rw [mbind, rbind_assoc]
    congr 1; funext r e
    unfold asgK
    cases frzR r e with
    | none => rfl
    | some p => simp only; cases g p.1 p.2 <;> rfl
  rw [this]; exact k
theorem f_asgG {g : Tg} {K : Fl → M γ} (h : Has pn S e) (kr : ROk r o) (da : Fz S o d S1) (tg : TG pn S1 g d S2) (k : ∀ e', Has pn S2 e' → Sm (K .nx e') P G X) : Sm (asgK g K r e) P G X := by
  obtain ⟨e1, h1, h2⟩ := da.frz h kr
  obtain ⟨e2, h3, h4⟩ := tg e1 h2
  unfold asgK; simp only [h1, h3]; exact k _ h4
/-! for -/
def forK (g : Tg) (body : M Fl) (K : Fl → M γ) : List D → M γ := fun ds e => (loopF g body ds e).bind K
theorem c_for {it : M (List D)} {g : Tg} {body : M Fl} {K : Fl → M γ} (k : Sm ((it e).bind (forK g body K)) P G X) : Sm ((dFor it g body e).bind K) P G X := by
  have : (dFor it g body e).bind K = (it e).bind (forK g body K) := by
    unfold dFor
    rw [mbind, rbind_assoc]
    rfl
  rw [this]; exact k
def GB (pn : List Nat) (I : σ → List SD) (K : Fl → M γ) (G : α → γ → Env → Prop) (X : Exc → Env → Prop) : Lp σ α → Fl → Env → Prop
  | .go s, f, e => (f = .nx ∨ f = .ct) ∧ Has pn (I s) e
  | .bk s, f, e => f = .bk ∧ Has pn (I s) e
  | .out t, f, e => (∃ r, f = .rt r) ∧ Sm (K f e) (.ok t) G X
theorem loopF_cons {g : Tg} {body : M Fl} {ds : List D} : loopF g body (d :: ds) e = match g d e with
    | none => R.st
    | some e1 => (body e1).bind fun f e2 => match f with
      | .nx => loopF g body ds e2
      | .ct => loopF g body ds e2
      | .bk => .ok .nx e2
      | .rt r => .ok (.rt r) e2 := by
  show (match g d e with
      | none => R.st
      | some e1 => (match body e1 with
        | .ok .nx e2 => loopF g body ds e2
        | .ok .ct e2 => loopF g body ds e2
        | .ok .bk e2 => .ok .nx e2
        | .ok (.rt r) e2 => .ok (.rt r) e2
        | .ex x e2 => .ex x e2
        | .st => .st)) = _
  cases g d e with
  | none => rfl
  | some e1 =>
    simp only
    cases body e1 with
    | st => rfl
    | ok f e2 => cases f <;> rfl
    | ex x e2 => rfl
theorem f_for [Enc ω] {xs : List ω} {g : Tg} {body : M Fl} {f : ω → σ → Res (Lp σ α)} {k : σ → Res α} {K : Fl → M γ} {I1 : ω → σ → List SD} (I : σ → List SD) (tg : ∀ x s, TG pn (I s) g (enc x) (I1 x s))
    (step : ∀ x s e, Has pn (I1 x s) e → Sm ((body e).bind okK) (f x s) (GB pn I K G X) X) (kk : ∀ s e', Has pn (I s) e' → Sm (K .nx e') (k s) G X) : ∀ {s0 : σ} {S : List SD} {e : Env}, Has pn S e → (w : W S (I s0) := by first | exact W.refl _ | (repeat (first | exact W.nil | refine W.rf ?_ | refine W.cz ?_ | refine W.cc ?_ | refine W.vz ?_ | refine W.vo ?_ | refine W.an ?_))) → Sm (forK g body K (xs.map enc) e) (forR f xs s0 k) G X := by
  have main : ∀ (xs : List ω) (s0 : σ) (e : Env), Has pn (I s0) e → Sm (forK g body K (xs.map enc) e) (forR f xs s0 k) G X := by
    intro xs
    induction xs with
    | nil => intro s0 e h; exact kk _ _ h
    | cons x xs ih =>
      intro s0 e h
      obtain ⟨e1, h1, h2⟩ := tg x s0 e h
      show Sm ((loopF g body (enc x :: xs.map enc) e).bind K) _ G X
      rw [loopF_cons, h1]
      simp only
      rw [rbind_assoc]
      unfold forR
      refine (step x s0 e1 h2).top.bind fun l fl e2 hj => ?_
      cases l with
      | go s =>
        obtain ⟨h3, h4⟩ := hj
        rcases h3 with rfl | rfl <;> exact ih s e2 h4
      | bk s =>
        obtain ⟨rfl, h4⟩ := hj
        exact kk s e2 h4
      | out t =>
        obtain ⟨⟨r, rfl⟩, h4⟩ := hj
        exact h4
  intro s0 S e h w
  exact main xs s0 e (h.weak w)
def Jc (pn : List Nat) (I : σ → List SD) : σ → Fl → Env → Prop := fun s f e => (f = .nx ∨ f = .ct) ∧ Has pn (I s) e
theorem f_fold [Enc ω] {xs : List ω} {g : Tg} {body : M Fl} {f : ω → σ → Res σ} {k : σ → Res α} {K : Fl → M γ} {I1 : ω → σ → List SD} (I : σ → List SD) (tg : ∀ x s, TG pn (I s) g (enc x) (I1 x s))
    (step : ∀ x s e, Has pn (I1 x s) e → Sm ((body e).bind okK) (f x s) (Jc pn I) X) (kk : ∀ s e', Has pn (I s) e' → Sm (K .nx e') (k s) G X) : ∀ {s0 : σ} {S : List SD} {e : Env}, Has pn S e → (w : W S (I s0) := by first | exact W.refl _ | (repeat (first | exact W.nil | refine W.rf ?_ | refine W.cz ?_ | refine W.cc ?_ | refine W.vz ?_ | refine W.vo ?_ | refine W.an ?_))) → Sm (forK g body K (xs.map enc) e) ((foldR f xs s0).bind k) G X := by
  have main : ∀ (xs : List ω) (s0 : σ) (e : Env), Has pn (I s0) e → Sm (forK g body K (xs.map enc) e) ((foldR f xs s0).bind k) G X := by
    intro xs
    induction xs with
    | nil => intro s0 e h; exact kk _ _ h
    | cons x xs ih =>
      intro s0 e h
      obtain ⟨e1, h1, h2⟩ := tg x s0 e h
      show Sm ((loopF g body (enc x :: xs.map enc) e).bind K) _ G X
      rw [loopF_cons, h1]
      simp only
      rw [rbind_assoc]
      unfold foldR
      rw [Res.bind_assoc]
      refine (step x s0 e1 h2).top.bind fun s fl e2 hj => ?_
      obtain ⟨h3, h4⟩ := hj
      rcases h3 with rfl | rfl <;> exact ih s e2 h4
  intro s0 S e h w
  exact main xs s0 e (h.weak w)
theorem f_jc {I : σ → List SD} {s : σ} (h : Has pn S e) (w : W S (I s) := by first | exact W.refl _ | (repeat (first | exact W.nil | refine W.rf ?_ | refine W.cz ?_ | refine W.cc ?_ | refine W.vz ?_ | refine W.vo ?_ | refine W.an ?_))) : Sm (okK Fl.nx e) (.ok s) (Jc pn I) X := ⟨.nx, e, rfl, .inl rfl, h.weak w⟩
theorem f_jcC {I : σ → List SD} {s : σ} (h : Has pn S e) (w : W S (I s) := by first | exact W.refl _ | (repeat (first | exact W.nil | refine W.rf ?_ | refine W.cz ?_ | refine W.cc ?_ | refine W.vz ?_ | refine W.vo ?_ | refine W.an ?_))) : Sm (okK Fl.ct e) (.ok s) (Jc pn I) X := ⟨.ct, e, rfl, .inr rfl, h.weak w⟩
theorem f_go {I : σ → List SD} {K : Fl → M γ} {s : σ} (h : Has pn S e) (w : W S (I s) := by first | exact W.refl _ | (repeat (first | exact W.nil | refine W.rf ?_ | refine W.cz ?_ | refine W.cc ?_ | refine W.vz ?_ | refine W.vo ?_ | refine W.an ?_))) : Sm (okK Fl.nx e) (.ok (.go s)) (GB pn I K G X) X := ⟨.nx, e, rfl, .inl rfl, h.weak w⟩
theorem f_goC {I : σ → List SD} {K : Fl → M γ} {s : σ} (h : Has pn S e) (w : W S (I s) := by first | exact W.refl _ | (repeat (first | exact W.nil | refine W.rf ?_ | refine W.cz ?_ | refine W.cc ?_ | refine W.vz ?_ | refine W.vo ?_ | refine W.an ?_))) : Sm (okK Fl.ct e) (.ok (.go s)) (GB pn I K G X) X := ⟨.ct, e, rfl, .inr rfl, h.weak w⟩
theorem f_bk {I : σ → List SD} {K : Fl → M γ} {s : σ} (h : Has pn S e) (w : W S (I s) := by first | exact W.refl _ | (repeat (first | exact W.nil | refine W.rf ?_ | refine W.cz ?_ | refine W.cc ?_ | refine W.vz ?_ | refine W.vo ?_ | refine W.an ?_))) : Sm (okK Fl.bk e) (.ok (.bk s)) (GB pn I K G X) X := ⟨.bk, e, rfl, rfl, h.weak w⟩
theorem f_out {I : σ → List SD} {K : Fl → M γ} {t : α} (k : Sm (K (.rt r) e) (.ok t) G X) : Sm (okK (Fl.rt r) e) (.ok (.out t)) (GB pn I K G X) X := ⟨.rt r, e, rfl, ⟨r, rfl⟩, k⟩
/-! while -/
theorem loopW_succ {c : M Bool} {body : M Fl} {n : Nat} : loopW c body (n + 1) e = (c e).bind fun b e1 => match b with
    | false => .ok .nx e1
    | true => (body e1).bind fun f e2 => match f with
      | .nx => loopW c body n e2
      | .ct => loopW c body n e2
      | .bk => .ok .nx e2
      | .rt r => .ok (.rt r) e2 := by
  show (c e).bind _ = _
  congr 1; funext b e1
  cases b with
  | false => rfl
  | true =>
    show (match body e1 with
        | .ok .nx e2 => loopW c body n e2
        | .ok .ct e2 => loopW c body n e2
        | .ok .bk e2 => .ok .nx e2
        | .ok (.rt r) e2 => .ok (.rt r) e2
        | .ex x e2 => .ex x e2
        | .st => .st) = _
    cases body e1 with
    | st => rfl
    | ok f e2 => cases f <;> rfl
    | ex x e2 => rfl
def Ti (pn : List Nat) (S : List SD) : Bool → Bool → Env → Prop := fun b b' e => b' = b ∧ Has pn S e
theorem f_ti {c : Bool} (h : Has pn S e) : Sm (okK c e) (.ok c) (Ti pn S) X := ⟨c, e, rfl, rfl, h⟩
theorem f_while {n : Nat} {c : M Bool} {body : M Fl} {fc : σ → Res Bool} {ff : σ → Res (Lp σ α)} {k : σ → Res α} {K : Fl → M γ} (I : σ → List SD)
    (test : ∀ s e, Has pn (I s) e → Sm ((c e).bind okK) (fc s) (Ti pn (I s)) X)
    (step : ∀ s e, Has pn (I s) e → Sm ((body e).bind okK) (ff s) (GB pn I K G X) X) (kk : ∀ s e', Has pn (I s) e' → Sm (K .nx e') (k s) G X) : ∀ {s0 : σ} {S : List SD} {e : Env}, Has pn S e → (w : W S (I s0) := by first | exact W.refl _ | (repeat (first | exact W.nil | refine W.rf ?_ | refine W.cz ?_ | refine W.cc ?_ | refine W.vz ?_ | refine W.vo ?_ | refine W.an ?_))) → Sm ((loopW c body n e).bind K) (whileR fc ff n s0 k) G X := by
  have main : ∀ (n : Nat) (s0 : σ) (e : Env), Has pn (I s0) e → Sm ((loopW c body n e).bind K) (whileR fc ff n s0 k) G X := by
    intro n
    induction n with
    | zero => intro s0 e h; first | trivial | exact ⟨trivial⟩
    | succ n ih =>
      intro s0 e h
      rw [loopW_succ, rbind_assoc]
      unfold whileR
      refine (test s0 e h).top.bind fun b b' e1 hj => ?_
      obtain ⟨hbb, h1⟩ := hj
      subst hbb
      cases b' with
      | false => exact kk s0 e1 h1
      | true =>
        rw [if_pos rfl]
        simp only
        rw [rbind_assoc]
        refine (step s0 e1 h1).top.bind fun l fl e2 hj => ?_
        cases l with
        | go s =>
          obtain ⟨h3, h4⟩ := hj
          rcases h3 with rfl | rfl <;> exact ih s e2 h4
        | bk s =>
          obtain ⟨rfl, h4⟩ := hj
          exact kk s e2 h4
        | out t =>
          obtain ⟨⟨r, rfl⟩, h4⟩ := hj
          exact h4
  intro s0 S e h w
  exact main n s0 e (h.weak w)
/-! comprehensions -/
def wipeS : List Nat → List SD → List SD
  | [], S => S
  | v :: vs, S => (wipeS vs S).set v .clr
theorem wipe_has (h : Has pn S e) : ∀ own, Has pn (wipeS own S) (wipeE own e)
  | [] => h
  | v :: vs => (wipe_has h vs).clr v
def cfS : SD → Bool
  | .fz _ => true
  | .clr => true
  | .cf => true
  | _ => false
def restS : List Nat → List SD → List SD → List SD
  | [], _, T => T
  | v :: vs, S, T => match S[v]? with
    | some s => restS vs S (T.set v s)
    | none => T
def restB : List Nat → List SD → List SD → Bool
  | [], _, _ => true
  | v :: vs, S, T => !vs.contains v && (match S[v]? with
    | some s => cfS s && (match T[v]? with
      | some .clr => restB vs S (T.set v s)
      | _ => false)
    | none => false)
theorem rest_has {e0 : Env} (h0 : Has pn S e0) : ∀ (own : List Nat) {T : List SD} {e : Env}, restB own S T = true → Has pn T e → ∃ e', restE own e0 e = some e' ∧ Has pn (restS own S T) e'
  | [], T, e, _, h => ⟨e, rfl, h⟩
  | v :: vs, T, e, hb, h => by
    unfold restB at hb
    rw [Bool.and_eq_true] at hb
    obtain ⟨b1, b2⟩ := hb
    cases q : S[v]? with
    | none => rw [q] at b2; cases b2
    | some s =>
      rw [q] at b2
      simp only [Bool.and_eq_true] at b2
      obtain ⟨b3, b4⟩ := b2
      cases q2 : T[v]? with
      | none => rw [q2] at b4; cases b4
      | some t =>
        rw [q2] at b4
        cases t with
        | clr =>
          simp only at b4
          obtain ⟨o, h1, h2⟩ := h0.slot q
          obtain ⟨o2, h3, h4⟩ := h.slot q2
          cases h4
          have hc : isClr e v = true := by unfold isClr; rw [h3]
          have hcont : vs.contains v = false := by simpa using b1
          have two : o = none ∨ ∃ d, o = some (.fz d) := by
            cases s with
            | fz d => exact .inr ⟨d, h2⟩
            | clr => exact .inl h2
            | cf => exact h2
            | _ => cases b3
          rcases two with rfl | ⟨d, rfl⟩
          · have h5 : Has pn (T.set v s) e := ⟨h.pn, by
              have := h.sl.set v h2
              rwa [show e.sl.set v none = e.sl from List.ext_getElem? fun n => by
                rw [List.getElem?_set]; split
                · rename_i c; subst c; split
                  · exact h3.symm
                  · rename_i hh; exact (List.getElem?_eq_none (by omega)).symm
                · rfl] at this⟩
            obtain ⟨e', k1, k2⟩ := rest_has h0 vs b4 h5
            refine ⟨e', ?_, by unfold restS; rw [q]; exact k2⟩
            unfold restE
            rw [if_neg (by rw [hcont]; decide), if_pos hc, h1]
            exact k1
          · have h5 : Has pn (T.set v s) (e.setS v (.fz d)) := h.setS v h2
            obtain ⟨e', k1, k2⟩ := rest_has h0 vs b4 h5
            refine ⟨e', ?_, by unfold restS; rw [q]; exact k2⟩
            unfold restE
            rw [if_neg (by rw [hcont]; decide), if_pos hc, h1]
            exact k1
        | _ => cases b4
def compK (own : List Nat) (g : Tg) (tt : M Bool) (te : M RV) (K : RV → M γ) : List D → M γ := fun ds e0 => if noPn own e0 = true then (match loopC own g tt te ds [] (wipeE own e0) with
  | .ok acc e1 => (match restE own e0 e1 with
    | some e2 => K (.own (.ol (fzs acc))) e2
    | none => .st)
  | _ => .st) else .st
theorem c_comp {own : List Nat} {it : M (List D)} {g : Tg} {tt : M Bool} {te : M RV} {K : RV → M γ} (k : Sm ((it e).bind (compK own g tt te K)) P G X) : Sm ((dComp own it g tt te e).bind K) P G X := by
  have : (dComp own it g tt te e).bind K = (it e).bind (compK own g tt te K) := by
    unfold dComp
    rw [mbind, rbind_assoc]
    congr 1; funext ds e0
    unfold compK
    split
    · cases loopC own g tt te ds [] (wipeE own e0) with
      | st => rfl
      | ok acc e1 => simp only; cases restE own e0 e1 <;> rfl
      | ex x e1 => rfl
    · rfl
  rw [this]; exact k
def cmpK (te : M RV) (K : Option RV → M γ) : Bool → M γ := fun b e => match b with
  | true => (te e).bind fun r e => K (some r) e
  | false => K none e
def GC [Enc ψ] (pn : List Nat) (own : List Nat) (I : σ → List SD) : (Option ψ × σ) → Option RV → Env → Prop
  | (some v, s), some r, e => ∃ o S2 S3, Has pn S2 e ∧ ROk r o ∧ Fz S2 o (enc v) S3 ∧ W (wipeS own S3) (I s)
  | (none, s), none, e => ∃ S2, Has pn S2 e ∧ W (wipeS own S2) (I s)
  | _, _, _ => False
theorem noPn_of {own : List Nat} (h : Has pn S e) (hp : (own.all fun v => !pn.contains v) = true) : noPn own e = true := by
  unfold noPn; rw [h.pn]; exact hp
theorem comp_go [Enc ω] [Enc ψ] {own : List Nat} {g : Tg} {tt : M Bool} {te : M RV} {f : ω → σ → Res (Option ψ × σ)} {I1 : ω → σ → List SD} {X' : Exc → Env → Prop} (I : σ → List SD) (hp : (own.all fun v => !pn.contains v) = true) (tg : ∀ x s, TG pn (I s) g (enc x) (I1 x s))
    (step : ∀ x s e, Has pn (I1 x s) e → Sm ((tt e).bind (cmpK te okK)) (f x s) (GC pn own I) X') : ∀ (xs : List ω) (s : σ) (acc : List ψ) (e : Env) ys s', Has pn (I s) e → acc.length + xs.length ≤ sizeLine → compGo f xs s acc = .ok (ys, s') → ∃ e', loopC own g tt te (xs.map enc) (acc.map enc) e = .ok (ys.map enc) e' ∧ Has pn (I s') e'
  | [], s, acc, e, ys, s', h, _, q => by cases q; exact ⟨e, rfl, h⟩
  | x :: xs, s, acc, e, ys, s', h, hl, q => by
    obtain ⟨e1, h1, h2⟩ := tg x s e h
    have st := step x s e1 h2
    rw [List.length_cons] at hl
    show ∃ e', loopC own g tt te (enc x :: xs.map enc) (acc.map enc) e = _ ∧ _
    unfold compGo at q
    unfold loopC
    simp only [h1]
    cases z : f x s with
    | st => rw [z] at q; cases q
    | ex x' => rw [z] at q; cases q
    | ok p =>
      rw [z] at q st
      obtain ⟨b, e4, h4, h5⟩ := st
      cases z2 : tt e1 with
      | st => rw [z2] at h4; cases h4
      | ex x' e5 => rw [z2] at h4; cases h4
      | ok t e2 =>
        rw [z2, bind_ok] at h4
        cases t with
        | false =>
          have h4' : okK (none : Option RV) e2 = .ok b e4 := h4
          cases h4'
          obtain ⟨o, s1⟩ := p
          cases o with
          | some v => exact h5.elim
          | none =>
            obtain ⟨S2, k1, k2⟩ := h5
            simp only at q ⊢
            rw [if_pos (noPn_of k1 hp)]
            exact comp_go I hp tg step xs s1 acc _ ys s' ((wipe_has k1 own).weak k2) (by omega) q
        | true =>
          have h4' : ((te e2).bind fun r e => okK (some r) e) = .ok b e4 := h4
          cases z3 : te e2 with
          | st => rw [z3] at h4'; cases h4'
          | ex x' e5 => rw [z3] at h4'; cases h4'
          | ok r e3 =>
            rw [z3, bind_ok] at h4'
            cases h4'
            obtain ⟨o, s1⟩ := p
            cases o with
            | none => exact h5.elim
            | some v =>
              obtain ⟨oo, S2, S3, k1, k2, k3, k4⟩ := h5
              obtain ⟨e5, k5, k6⟩ := k3.frz k1 k2
              simp only [z3, k5] at q ⊢
              rw [if_pos (by rw [noPn_of k6 hp, Bool.and_true]; exact decide_eq_true (by rw [List.length_map]; omega))]
              have := comp_go I hp tg step xs s1 (acc ++ [v]) _ ys s' ((wipe_has k6 own).weak k4) (by rw [List.length_append, List.length_singleton]; omega) q
              rwa [List.map_append] at this
theorem f_filS [Enc ω] [Enc ψ] {own : List Nat} {xs : List ω} {g : Tg} {tt : M Bool} {te : M RV} {f : ω → σ → Res (Option ψ × σ)} {I1 : ω → σ → List SD} {K : RV → M γ} {k : List ψ × σ → Res α} {s0 : σ} (I : σ → List SD) (h : Has pn S e) (w : W (wipeS own S) (I s0)) (tg : ∀ x s, TG pn (I s) g (enc x) (I1 x s))
    (step : ∀ x s e, Has pn (I1 x s) e → Sm ((tt e).bind (cmpK te okK)) (f x s) (GC pn own I) fun _ _ => True) (J : σ → List SD) (kk : ∀ ys s r e', ROk r (.w (encs ys)) → Has pn (J s) e' → Sm (K r e') (k (ys, s)) G X)
    (hp : (own.all fun v => !pn.contains v) = true := by decide) (hr : ∀ s, restB own S (I s) = true := by intro _; rfl) (hw : ∀ s, W (restS own S (I s)) (J s) := by exact fun _ => W.refl _) : Sm (compK own g tt te K (xs.map enc) e) ((filS f xs s0).bind k) G X := by
  unfold filS
  rw [okLe_eq]
  split
  · rename_i hz
    rw [decide_eq_true_iff] at hz
    cases q : compGo f xs s0 [] with
    | st => first | trivial | exact ⟨trivial⟩
    | ex x =>
      exfalso
      have : ∀ (xs : List ω) (s : σ) (acc : List ψ) x, compGo f xs s acc ≠ .ex x := by
        intro xs
        induction xs with
        | nil => intro s acc x h; cases h
        | cons y ys ih =>
          intro s acc x h
          unfold compGo at h
          split at h
          · exact ih _ _ _ h
          · exact ih _ _ _ h
          · cases h
      exact this _ _ _ _ q
    | ok p =>
      obtain ⟨ys, s'⟩ := p
      obtain ⟨e1, h1, h2⟩ := comp_go I hp tg step xs s0 [] _ ys s' ((wipe_has h own).weak w) (by simpa using hz) q
      obtain ⟨e2, h3, h4⟩ := rest_has h own (hr s') h2
      unfold compK
      rw [if_pos (noPn_of h hp)]
      have h1' : loopC own g tt te (xs.map enc) [] (wipeE own e) = .ok (ys.map enc) e1 := h1
      rw [h1']
      simp only [h3]
      exact kk ys s' _ e2 rfl (h4.weak (hw s'))
  · first | trivial | exact ⟨trivial⟩
/-- the ends of an item -/
def GE [Enc ψ] (pn : List Nat) (own : List Nat) (I : List SD) : ψ → RV → Env → Prop := fun v r e => ∃ o S2 S3, Has pn S2 e ∧ ROk r o ∧ Fz S2 o (enc v) S3 ∧ W (wipeS own S3) I
def GEo [Enc ψ] (pn : List Nat) (own : List Nat) (I : List SD) : Option ψ → Option RV → Env → Prop
  | some v, some r, e => ∃ o S2 S3, Has pn S2 e ∧ ROk r o ∧ Fz S2 o (enc v) S3 ∧ W (wipeS own S3) I
  | none, none, e => ∃ S2, Has pn S2 e ∧ W (wipeS own S2) I
  | _, _, _ => False
def GEs [Enc ψ] (pn : List Nat) (own : List Nat) (I : σ → List SD) : ψ × σ → RV → Env → Prop := fun v r e => ∃ o S2 S3, Has pn S2 e ∧ ROk r o ∧ Fz S2 o (enc v.1) S3 ∧ W (wipeS own S3) (I v.2)
theorem f_el [Enc ψ] {own : List Nat} {I S3 : List SD} {v : ψ} (h : Has pn S e) (kr : ROk r o) (da : Fz S o (enc v) S3 := by first | exact .f | exact .w | exact .y | exact .v rfl | exact .vz rfl | exact .u rfl) (w : W (wipeS own S3) I := by first | exact W.refl _ | (repeat (first | exact W.nil | refine W.rf ?_ | refine W.cz ?_ | refine W.cc ?_ | refine W.vz ?_ | refine W.vo ?_ | refine W.an ?_))) : Sm (okK r e) (.ok v) (GE pn own I) X := ⟨r, e, rfl, o, S, S3, h, kr, da, w⟩
theorem f_elS [Enc ψ] {own : List Nat} {I : σ → List SD} {S3 : List SD} {v : ψ} {s : σ} (h : Has pn S e) (kr : ROk r o) (da : Fz S o (enc v) S3 := by first | exact .f | exact .w | exact .y | exact .v rfl | exact .vz rfl | exact .u rfl) (w : W (wipeS own S3) (I s) := by first | exact W.refl _ | (repeat (first | exact W.nil | refine W.rf ?_ | refine W.cz ?_ | refine W.cc ?_ | refine W.vz ?_ | refine W.vo ?_ | refine W.an ?_))) : Sm (okK r e) (.ok (v, s)) (GEs pn own I) X := ⟨r, e, rfl, o, S, S3, h, kr, da, w⟩
def someK (K : Option RV → M γ) : RV → M γ := fun r e => K (some r) e
theorem f_cmp' {te : M RV} {K : Option RV → M γ} {c : Bool} {P1 P2 : Res α} (k1 : c = true → Sm ((te e).bind (someK K)) P1 G X) (k2 : c = false → Sm (K none e) P2 G X) : Sm (cmpK te K c e) (if c = true then P1 else P2) G X := by
  cases c with
  | true => exact k1 rfl
  | false => exact k2 rfl
theorem f_elo [Enc ψ] {own : List Nat} {I S3 : List SD} {v : ψ} (h : Has pn S e) (kr : ROk r o) (da : Fz S o (enc v) S3 := by first | exact .f | exact .w | exact .y | exact .v rfl | exact .vz rfl | exact .u rfl) (w : W (wipeS own S3) I := by first | exact W.refl _ | (repeat (first | exact W.nil | refine W.rf ?_ | refine W.cz ?_ | refine W.cc ?_ | refine W.vz ?_ | refine W.vo ?_ | refine W.an ?_))) : Sm (someK okK r e) (.ok (some v)) (GEo pn own I) X := ⟨some r, e, rfl, o, S, S3, h, kr, da, w⟩
theorem f_elno [Enc ψ] {own : List Nat} {I : List SD} (h : Has pn S e) (w : W (wipeS own S) I := by first | exact W.refl _ | (repeat (first | exact W.nil | refine W.rf ?_ | refine W.cz ?_ | refine W.cc ?_ | refine W.vz ?_ | refine W.vo ?_ | refine W.an ?_))) : Sm (okK (none : Option RV) e) (.ok (none : Option ψ)) (GEo pn own I) X := ⟨none, e, rfl, S, h, w⟩
theorem f_eloS [Enc ψ] {own : List Nat} {I : σ → List SD} {S3 : List SD} {v : ψ} {s : σ} (h : Has pn S e) (kr : ROk r o) (da : Fz S o (enc v) S3 := by first | exact .f | exact .w | exact .y | exact .v rfl | exact .vz rfl | exact .u rfl) (w : W (wipeS own S3) (I s) := by first | exact W.refl _ | (repeat (first | exact W.nil | refine W.rf ?_ | refine W.cz ?_ | refine W.cc ?_ | refine W.vz ?_ | refine W.vo ?_ | refine W.an ?_))) : Sm (someK okK r e) (.ok (some v, s)) (GC pn own I) X := ⟨some r, e, rfl, o, S, S3, h, kr, da, w⟩
theorem f_elnoS [Enc ψ] {own : List Nat} {I : σ → List SD} {s : σ} (h : Has pn S e) (w : W (wipeS own S) (I s) := by first | exact W.refl _ | (repeat (first | exact W.nil | refine W.rf ?_ | refine W.cz ?_ | refine W.cc ?_ | refine W.vz ?_ | refine W.vo ?_ | refine W.an ?_))) : Sm (okK (none : Option RV) e) (.ok ((none : Option ψ), s)) (GC pn own I) X := ⟨none, e, rfl, S, h, w⟩
theorem f_mapS [Enc ω] [Enc ψ] {own : List Nat} {xs : List ω} {g : Tg} {te : M RV} {f : ω → σ → Res (ψ × σ)} {I1 : ω → σ → List SD} {K : RV → M γ} {k : List ψ × σ → Res α} {s0 : σ} (I : σ → List SD) (h : Has pn S e) (w : W (wipeS own S) (I s0)) (tg : ∀ x s, TG pn (I s) g (enc x) (I1 x s))
    (step : ∀ x s e, Has pn (I1 x s) e → Sm ((te e).bind okK) (f x s) (GEs pn own I) fun _ _ => True) (J : σ → List SD) (kk : ∀ ys s r e', ROk r (.w (encs ys)) → Has pn (J s) e' → Sm (K r e') (k (ys, s)) G X)
    (hp : (own.all fun v => !pn.contains v) = true := by decide) (hr : ∀ s, restB own S (I s) = true := by intro _; rfl) (hw : ∀ s, W (restS own S (I s)) (J s) := by exact fun _ => W.refl _) : Sm (compK own g dYes te K (xs.map enc) e) ((mapS f xs s0).bind k) G X := by
  refine f_filS I h w tg (fun x s e he => ?_) J kk hp hr hw
  show Sm ((te e).bind fun r e => okK (some r) e) _ _ _
  refine (step x s e he).top.bind fun p r e' hj => ?_
  obtain ⟨o, S2, S3, k1, k2, k3, k4⟩ := hj
  exact ⟨some r, e', rfl, o, S2, S3, k1, k2, k3, k4⟩
theorem f_filC [Enc ω] [Enc ψ] {own : List Nat} {xs : List ω} {g : Tg} {tt : M Bool} {te : M RV} {f : ω → Res (Option ψ)} {I1 : ω → List SD} {K : RV → M γ} {k : List ψ → Res α} (h : Has pn S e) (tg : ∀ x, TG pn (wipeS own S) g (enc x) (I1 x))
    (step : ∀ x e, Has pn (I1 x) e → Sm ((tt e).bind (cmpK te okK)) (f x) (GEo pn own (wipeS own S)) fun _ _ => True) (kk : ∀ ys r e', ROk r (.w (encs ys)) → Has pn S e' → Sm (K r e') (k ys) G X)
    (hp : (own.all fun v => !pn.contains v) = true := by decide) (hr : restB own S (wipeS own S) = true := by rfl) (hw : W (restS own S (wipeS own S)) S := by exact W.refl _) : Sm (compK own g tt te K (xs.map enc) e) ((filC f xs).bind k) G X := by
  unfold filC
  rw [Res.bind_assoc]
  have w : ∀ S : List SD, W S S := fun S => by induction S with
    | nil => exact .nil
    | cons s S ih => exact .rf ih
  refine f_filS (σ := Unit) (I1 := fun x _ => I1 x) (fun _ => wipeS own S) h (w _) (fun x _ => tg x) (fun x s e he => ?_) (fun _ => S) (fun ys s r e' kr he => kk ys r e' kr he) hp (fun _ => hr) (fun _ => hw)
  have := step x e he
  cases z : f x with
  | st => first | trivial | exact ⟨trivial⟩
  | ex x' => rw [z] at this; exact ⟨this.run⟩
  | ok o =>
    rw [z] at this
    obtain ⟨b, e', h1, h2⟩ := this
    refine ⟨b, e', h1, ?_⟩
    cases o with
    | none => cases b with
      | none => exact h2
      | some r => exact h2.elim
    | some v => cases b with
      | none => exact h2.elim
      | some r => exact h2
theorem f_mapC [Enc ω] [Enc ψ] {own : List Nat} {xs : List ω} {g : Tg} {te : M RV} {f : ω → Res ψ} {I1 : ω → List SD} {K : RV → M γ} {k : List ψ → Res α} (h : Has pn S e) (tg : ∀ x, TG pn (wipeS own S) g (enc x) (I1 x))
    (step : ∀ x e, Has pn (I1 x) e → Sm ((te e).bind okK) (f x) (GE pn own (wipeS own S)) fun _ _ => True) (kk : ∀ ys r e', ROk r (.w (encs ys)) → Has pn S e' → Sm (K r e') (k ys) G X)
    (hp : (own.all fun v => !pn.contains v) = true := by decide) (hr : restB own S (wipeS own S) = true := by rfl) (hw : W (restS own S (wipeS own S)) S := by exact W.refl _) : Sm (compK own g dYes te K (xs.map enc) e) ((mapC f xs).bind k) G X := by
  unfold mapC
  refine f_filC h tg (fun x e he => ?_) kk hp hr hw
  show Sm ((te e).bind fun r e => okK (some r) e) _ _ _
  refine (step x e he).top.bind fun p r e' hj => ?_
  obtain ⟨o, S2, S3, k1, k2, k3, k4⟩ := hj
  exact ⟨some r, e', rfl, o, S2, S3, k1, k2, k3, k4⟩
/-! calls -/
inductive Ld : List SD → List Bool → List Opd → List SV → List SD → Prop
  | nil {S : List SD} : Ld S [] [] [] S
  | f {S S1 S2 : List SD} {md : List Bool} {o : Opd} {os : List Opd} {d : D} {ss : List SV} : Fz S o d S1 → Ld S1 md os ss S2 → Ld S (false :: md) (o :: os) (.fz d :: ss) S2
  | t {S S2 : List SD} {md : List Bool} {i : Nat} {os : List Opd} {ds : List D} {ss : List SV} : S[i]? = some (.ol ds) → Ld (S.set i .clr) md os ss S2 → Ld S (true :: md) (.v i :: os) (.ol (fzs ds) :: ss) S2
  | x {S S2 : List SD} {md : List Bool} {i : Nat} {os : List Opd} {s : SV} {ss : List SV} : S[i]? = some (.x s) → Ld (S.set i .clr) md os ss S2 → Ld S (true :: md) (.v i :: os) (s :: ss) S2
theorem Ld.load {md : List Bool} {os : List Opd} {ss : List SV} (q : Ld S md os ss S') : ∀ {e : Env} {rs : List RV}, Has pn S e → ROks rs os → ∃ e', load md rs e = some (ss, e') ∧ Has pn S' e' := by
  induction q with
  | nil => intro e rs h k; cases rs with
    | nil => exact ⟨e, rfl, h⟩
    | cons _ _ => exact k.elim
  | f q1 q2 ih => intro e rs h k; cases rs with
    | nil => exact k.elim
    | cons r rs =>
      obtain ⟨e1, h1, h2⟩ := q1.frz h k.1
      obtain ⟨e2, h3, h4⟩ := ih h2 k.2
      exact ⟨e2, by unfold VF.load loadOne; simp only [h1, h3], h4⟩
  | t q1 q2 ih => intro e rs h k; cases rs with
    | nil => exact k.elim
    | cons r rs =>
      obtain ⟨k1, k2⟩ := k
      cases k1
      obtain ⟨o, h1, h2⟩ := h.slot q1
      cases h2
      obtain ⟨e2, h3, h4⟩ := ih (h.clr _) k2
      exact ⟨e2, by unfold VF.load loadOne; simp only [h1, h3], h4⟩
  | x q1 q2 ih => intro e rs h k; cases rs with
    | nil => exact k.elim
    | cons r rs =>
      obtain ⟨k1, k2⟩ := k
      cases k1
      obtain ⟨o, h1, h2⟩ := h.slot q1
      cases h2
      obtain ⟨e2, h3, h4⟩ := ih (h.clr _) k2
      exact ⟨e2, by unfold VF.load loadOne; simp only [h1, h3], h4⟩
inductive Ul : List SD → List Bool → List Opd → List SV → List SD → Prop
  | nil {S : List SD} : Ul S [] [] [] S
  | f {S S2 : List SD} {md : List Bool} {o : Opd} {os : List Opd} {s : SV} {ss : List SV} : Ul S md os ss S2 → Ul S (false :: md) (o :: os) (s :: ss) S2
  | t {S S2 : List SD} {md : List Bool} {i : Nat} {os : List Opd} {ds : List D} {ss : List SV} : S[i]? = some .clr → Ul (S.set i (.ol ds)) md os ss S2 → Ul S (true :: md) (.v i :: os) (.ol (fzs ds) :: ss) S2
  | x {S S2 : List SD} {md : List Bool} {i : Nat} {os : List Opd} {s : SV} {ss : List SV} : S[i]? = some .clr → Ul (S.set i (.x s)) md os ss S2 → Ul S (true :: md) (.v i :: os) (s :: ss) S2
theorem Ul.unload {md : List Bool} {os : List Opd} {ss : List SV} (q : Ul S md os ss S') : ∀ {e : Env} {rs : List RV}, Has pn S e → ROks rs os → ∃ e', unload md rs ss e = some e' ∧ Has pn S' e' := by
  induction q with
  | nil => intro e rs h k; cases rs with
    | nil => exact ⟨e, rfl, h⟩
    | cons _ _ => exact k.elim
  | f q2 ih => intro e rs h k; cases rs with
    | nil => exact k.elim
    | cons r rs =>
      obtain ⟨e2, h3, h4⟩ := ih h k.2
      exact ⟨e2, by rw [ul_false]; exact h3, h4⟩
  | t q1 q2 ih => intro e rs h k; cases rs with
    | nil => exact k.elim
    | cons r rs =>
      obtain ⟨k1, k2⟩ := k
      cases k1
      obtain ⟨o, h1, h2⟩ := h.slot q1
      cases h2
      obtain ⟨e2, h3, h4⟩ := ih (h.setS _ (s := .ol _) rfl) k2
      refine ⟨e2, ?_, h4⟩
      rw [ul_true]
      rw [if_pos (by unfold isClr; rw [h1])]
      exact h3
  | x q1 q2 ih => intro e rs h k; cases rs with
    | nil => exact k.elim
    | cons r rs =>
      obtain ⟨k1, k2⟩ := k
      cases k1
      obtain ⟨o, h1, h2⟩ := h.slot q1
      cases h2
      obtain ⟨e2, h3, h4⟩ := ih (h.setS _ (s := .x _) rfl) k2
      refine ⟨e2, ?_, h4⟩
      rw [ul_true]
      rw [if_pos (by unfold isClr; rw [h1])]
      exact h3
/-- what a def hands back, told by a plain result -/
def FSD (rz : Bool) (φr : FR) (p : Res τ) (ro : τ → SV) (au : τ → List SV) : Prop := match p with
  | .st => True
  | .ok t => φr = .ok (ro t) (au t)
  | .ex x => rz = true ∧ ∃ as, φr = .ex x as
structure FS (rz : Bool) (φr : FR) (p : Res τ) (ro : τ → SV) (au : τ → List SV) : Prop where
  run : FSD rz φr p ro au
def callK (md : List Bool) (φ : Fn) (K : RV → M γ) : List RV → M γ := fun rs e => match load md rs e with
  | some (ss, e1) => (match φ ss with
    | .st => .st
    | .ok r ss' => (match unload md rs ss' e1 with
      | some e2 => K (svR r) e2
      | none => .st)
    | .ex x ss' => (match unload md rs ss' e1 with
      | some e2 => .ex x e2
      | none => .st))
  | none => .st
theorem c_call {md : List Bool} {φ : Fn} {a : M (List RV)} {K : RV → M γ} (k : Sm ((a e).bind (callK md φ K)) P G X) : Sm ((dCall md φ a e).bind K) P G X := by
  have : (dCall md φ a e).bind K = (a e).bind (callK md φ K) := by
    rw [ev_call, rbind_assoc]
    congr 1; funext rs e
    unfold callK
    cases load md rs e with
    | none => rfl
    | some p =>
      simp only
      cases φ p.1 with
      | st => rfl
      | ok r ss' => simp only; cases unload md rs ss' p.2 <;> rfl
      | ex x ss' => simp only; cases unload md rs ss' p.2 <;> rfl
  rw [this]; exact k
theorem f_call {md : List Bool} {φ : Fn} {rs : List RV} {os : List Opd} {ss : List SV} {p : Res τ} {ro : τ → SV} {au : τ → List SV} {oo : τ → Opd} {S2 : τ → List SD} {K : RV → M γ} {k : τ → Res α} (h : Has pn S e) (kr : ROks rs os) (ld : Ld S md os ss S1) (hf : FS false (φ ss) p ro au) (ul : ∀ t, Ul S1 md os (au t) (S2 t)) (ho : ∀ t, ROk (svR (ro t)) (oo t))
    (kk : ∀ t r e', ROk r (oo t) → Has pn (S2 t) e' → Sm (K r e') (k t) G X) : Sm (callK md φ K rs e) (p.bind k) G X := by
  obtain ⟨e1, h1, h2⟩ := ld.load h kr
  unfold callK
  rw [h1]
  cases p with
  | st => first | trivial | exact ⟨trivial⟩
  | ex x => cases hf.run.1
  | ok t =>
    have hf' : φ ss = .ok (ro t) (au t) := hf.run
    obtain ⟨e2, h3, h4⟩ := (ul t).unload h2 kr
    simp only [hf', h3]
    exact kk t _ e2 (ho t) h4
def callBK (n : Nat) (φ : Fn) (K : RV → M γ) : List RV → M γ := fun rs e => match rs.mapM (view e) with
  | some ds => if ds.length = n then (match φ (ds.map .fz) with
    | .ok r _ => (match immS r with
      | some d => K (.fz d) e
      | none => .st)
    | .ex x _ => .ex x e
    | .st => .st) else .st
  | none => .st
theorem c_callB {n : Nat} {φ : Fn} {a : M (List RV)} {K : RV → M γ} (k : Sm ((a e).bind (callBK n φ K)) P G X) : Sm ((dCallB n φ a e).bind K) P G X := by
  have : (dCallB n φ a e).bind K = (a e).bind (callBK n φ K) := by
    rw [ev_callB, rbind_assoc]
    congr 1; funext rs e
    unfold callBK
    cases rs.mapM (view e) with
    | none => rfl
    | some ds =>
      simp only
      split
      · cases φ (ds.map .fz) with
        | st => rfl
        | ok r ss' => simp only; cases immS r <;> rfl
        | ex x ss' => rfl
      · rfl
  rw [this]; exact k
theorem f_callB [Enc τ] {n : Nat} {φ : Fn} {rs : List RV} {os : List Opd} {ds : List D} {p : Res τ} {au : τ → List SV} {K : RV → M γ} {k : τ → Res α} (h : Has pn S e) (kr : ROks rs os) (da : Dts S os ds) (hn : ds.length = n) (hf : FS false (φ (ds.map .fz)) p (fun t => .fz (enc t)) au) (hi : ∀ t : τ, immS (.fz (enc t)) = some (enc t))
    (kk : ∀ t r, ROk r (.f (enc t)) → Sm (K r e) (k t) G X) : Sm (callBK n φ K rs e) (p.bind k) G X := by
  unfold callBK
  rw [da.view h kr]
  simp only
  rw [if_pos hn]
  cases p with
  | st => first | trivial | exact ⟨trivial⟩
  | ex x => cases hf.run.1
  | ok t =>
    have hf' : φ (ds.map .fz) = .ok (.fz (enc t)) (au t) := hf.run
    rw [hf']
    simp only [hi t]
    exact kk t _ rfl
theorem imm_I (t : Int) : immS (.fz (enc t)) = some (enc t) := (rfl)
theorem imm_B (t : Bool) : immS (.fz (enc t)) = some (enc t) := (rfl)
theorem imm_S (t : Str) : immS (.fz (enc t)) = some (enc t) := (rfl)
theorem imm_U (t : Unit) : immS (.fz (enc t)) = some (enc t) := (rfl)
theorem imm_OI (t : Option Int) : immS (.fz (enc t)) = some (enc t) := by cases t <;> rfl
/-! defs -/
inductive Rs (pn : List Nat) (S : List SD) : Opd → SV → List SD → Prop
  | f {d : D} : Rs pn S (.f d) (.fz d) S
  | w {ds : List D} : Rs pn S (.w ds) (.ol (fzs ds)) S
  | v {i : Nat} {ds : List D} : S[i]? = some (.ol ds) → i ∉ pn → Rs pn S (.v i) (.ol (fzs ds)) (S.set i .clr)
  | x {i : Nat} {s : SV} : S[i]? = some (.x s) → i ∉ pn → Rs pn S (.v i) s (S.set i .clr)
  | o {s : SV} : Rs pn S (.o s) s S
inductive Os : List SD → Nat → List Bool → List SV → List SV → Prop
  | nil {S : List SD} {i : Nat} : Os S i [] [] []
  | f {S : List SD} {i : Nat} {md : List Bool} {s : SV} {ss as : List SV} : Os S (i + 1) md ss as → Os S i (false :: md) (s :: ss) (s :: as)
  | t {S : List SD} {i : Nat} {md : List Bool} {s : SV} {ds : List D} {ss as : List SV} : S[i]? = some (.ol ds) → Os (S.set i .clr) (i + 1) md ss as → Os S i (true :: md) (s :: ss) (.ol (fzs ds) :: as)
  | x {S : List SD} {i : Nat} {md : List Bool} {s s' : SV} {ss as : List SV} : S[i]? = some (.x s') → Os (S.set i .clr) (i + 1) md ss as → Os S i (true :: md) (s :: ss) (s' :: as)
theorem Rs.res {s : SV} (q : Rs pn S o s S') (h : Has pn S e) (kr : ROk r o) : ∃ e', resOf (.rt r) e = some (s, e') ∧ Has pn S' e' := by
  cases q with
  | f => cases kr; exact ⟨e, rfl, h⟩
  | w => cases kr; exact ⟨e, rfl, h⟩
  | v q hi =>
    cases kr
    obtain ⟨o, h1, h2⟩ := h.slot q
    cases h2
    refine ⟨e.clr _, ?_, h.clr _⟩
    unfold resOf
    simp only [h1]
    rw [if_neg (by rw [h.pn]; exact hi)]
  | x q hi =>
    cases kr
    obtain ⟨o, h1, h2⟩ := h.slot q
    cases h2
    refine ⟨e.clr _, ?_, h.clr _⟩
    unfold resOf
    simp only [h1]
    rw [if_neg (by rw [h.pn]; exact hi)]
  | o => cases kr; exact ⟨e, rfl, h⟩
theorem Os.outs {i : Nat} {md : List Bool} {ss as : List SV} (q : Os S i md ss as) : ∀ {e : Env}, Has pn S e → outs i md ss e = some as := by
  induction q with
  | nil => intro e h; rfl
  | f q ih => intro e h; rw [out_false, ih h]
  | t q1 q2 ih =>
    intro e h
    obtain ⟨o, h1, h2⟩ := h.slot q1
    cases h2
    have := ih (h.clr _)
    show (match e.sl[_]? with | some (some s) => (match VF.outs _ _ _ (e.clr _) with | some r => some (s :: r) | none => none) | _ => none) = _
    rw [h1]
    simp only [this]
  | x q1 q2 ih =>
    intro e h
    obtain ⟨o, h1, h2⟩ := h.slot q1
    cases h2
    have := ih (h.clr _)
    show (match e.sl[_]? with | some (some s) => (match VF.outs _ _ _ (e.clr _) with | some r => some (s :: r) | none => none) | _ => none) = _
    rw [h1]
    simp only [this]
def GF (md : List Bool) (ss : List SV) (ro : τ → SV) (au : τ → List SV) : τ → Fl → Env → Prop := fun t f e => ∃ e1, resOf f e = some (ro t, e1) ∧ outs 0 md ss e1 = some (au t)
theorem f_rt {md : List Bool} {ss : List SV} {ro : τ → SV} {au : τ → List SV} {t : τ} (h : Has pn S e) (kr : ROk r o) (q : Rs pn S o (ro t) S1) (os : Os S1 0 md ss (au t)) : Sm (okK (Fl.rt r) e) (.ok t) (GF md ss ro au) X := by
  obtain ⟨e1, h1, h2⟩ := q.res h kr
  exact ⟨.rt r, e, rfl, e1, h1, os.outs h2⟩
theorem f_nx {md : List Bool} {ss : List SV} {ro : τ → SV} {au : τ → List SV} {t : τ} (h : Has pn S e) (q : ro t = .fz .non) (os : Os S 0 md ss (au t)) : Sm (okK Fl.nx e) (.ok t) (GF md ss ro au) X :=
  ⟨.nx, e, rfl, e, by rw [q]; rfl, os.outs h⟩
theorem fs_mk0 {md : List Bool} {n : Nat} {m : M Fl} {ss : List SV} {p : Res τ} {ro : τ → SV} {au : τ → List SV} (S0 : List SD) (hok : okArgs md ss = true) (h0 : F2 S0 (env0 md n ss).sl) (hb : ∀ e, Has (pinIx 0 md) S0 e → Sm ((m e).bind okK) p (GF md ss ro au) fun _ _ => False) : FS false (mkFn0 md n m ss) p ro au := by
  have hb' := (hb (env0 md n ss) ⟨rfl, h0⟩).top
  cases p with
  | st => first | trivial | exact ⟨trivial⟩
  | ex x => obtain ⟨_, _, h⟩ := hb'; exact h.elim
  | ok t =>
    obtain ⟨f, e, h1, e1, h2, h3⟩ := hb'
    exact ⟨run_fn0 hok h1 h2 h3⟩
end
end VF

set_option maxRecDepth 100000
set_option maxHeartbeats 4000000
/-! More rules; the laws' own draws. -/
namespace VF
set_option autoImplicit false
open PySem L2
open Enc (enc)
theorem rk_f {d : D} : ROk (.fz d) (.f d) := rfl
theorem rks0 : ROks [] [] := trivial
theorem rks {r : RV} {o : Opd} {rs : List RV} {os : List Opd} (h : ROk r o) (hs : ROks rs os) : ROks (r :: rs) (o :: os) := ⟨h, hs⟩
theorem rk_w {ds : List D} : ROk (.own (.ol (fzs ds))) (.w ds) := rfl
section
variable {α β γ δ σ τ ω ψ : Type} {pn : List Nat} {S S' S1 S2 : List SD} {e : Env} {X : Exc → Env → Prop} {P : Res α} {G : α → γ → Env → Prop} {r q : RV} {o oa ob oc : Opd} {d x y z : D}
section
variable [Enc ω] [EqE ω] [DecidableEq ω] {u v : ω} {us : List ω} {K : RV → M γ} (h : Has pn S e) (k1 : ROk r oa) (k2 : ROk q ob)
include h k1 k2
theorem f_eq (k : Sm (K (.fz (.bl (decide (u = v)))) e) P G X) (da : Dt S oa (enc u) := by first | exact .f | exact .v rfl | exact .vz rfl | exact .w | exact .y | exact .u rfl) (db : Dt S ob (enc v) := by first | exact .f | exact .v rfl | exact .vz rfl | exact .w | exact .y | exact .u rfl) (hd : EqE.dep ω ≤ 64 := by decide) : Sm (opK2 fEq r K q e) P G X := f_op h k1 k2 da db (fEq_enc u v hd) k
theorem f_ne (k : Sm (K (.fz (.bl (decide (u ≠ v)))) e) P G X) (da : Dt S oa (enc u) := by first | exact .f | exact .v rfl | exact .vz rfl | exact .w | exact .y | exact .u rfl) (db : Dt S ob (enc v) := by first | exact .f | exact .v rfl | exact .vz rfl | exact .w | exact .y | exact .u rfl) (hd : EqE.dep ω ≤ 64 := by decide) : Sm (opK2 fNe r K q e) P G X := f_op h k1 k2 da db (fNe_enc u v hd) k
theorem f_in (k : Sm (K (.fz (.bl (decide (u ∈ us)))) e) P G X) (da : Dt S oa (enc u) := by first | exact .f | exact .v rfl | exact .vz rfl | exact .w | exact .y | exact .u rfl) (db : Dt S ob (enc us) := by first | exact .f | exact .v rfl | exact .vz rfl | exact .w | exact .y | exact .u rfl) (hd : EqE.dep ω ≤ 63 := by decide) : Sm (opK2 fIn r K q e) P G X := f_op h k1 k2 da db (fIn_enc u us hd) k
theorem f_notIn (k : Sm (K (.fz (.bl (decide (u ∉ us)))) e) P G X) (da : Dt S oa (enc u) := by first | exact .f | exact .v rfl | exact .vz rfl | exact .w | exact .y | exact .u rfl) (db : Dt S ob (enc us) := by first | exact .f | exact .v rfl | exact .vz rfl | exact .w | exact .y | exact .u rfl) (hd : EqE.dep ω ≤ 63 := by decide) : Sm (opK2 fNotIn r K q e) P G X := f_op h k1 k2 da db (fNotIn_enc u us hd) k
end
theorem f_isN [Enc ω] [NoN ω] {u : Option ω} {K : RV → M γ} (h : Has pn S e) (k1 : ROk r oa) (k2 : ROk q (.f .non)) (k : Sm (K (.fz (.bl u.isNone)) e) P G X) (da : Dt S oa (enc u) := by first | exact .f | exact .v rfl | exact .vz rfl | exact .w | exact .y | exact .u rfl) : Sm (opK2 fIsN r K q e) P G X := by
  refine f_op h k1 k2 da .f ?_ k
  cases u with
  | none => rfl
  | some z =>
    show fIsN (enc z) .non = _
    have := NoN.nn z
    cases q : enc z with
    | non => rw [q] at this; exact absurd rfl this
    | _ => rfl
theorem f_notN [Enc ω] [NoN ω] {u : Option ω} {K : RV → M γ} (h : Has pn S e) (k1 : ROk r oa) (k2 : ROk q (.f .non)) (k : Sm (K (.fz (.bl u.isSome)) e) P G X) (da : Dt S oa (enc u) := by first | exact .f | exact .v rfl | exact .vz rfl | exact .w | exact .y | exact .u rfl) : Sm (opK2 fNotN r K q e) P G X := by
  refine f_op h k1 k2 da .f ?_ k
  cases u with
  | none => rfl
  | some z =>
    show fNotN (enc z) .non = _
    have := NoN.nn z
    cases q : enc z with
    | non => rw [q] at this; exact absurd rfl this
    | _ => rfl
section
variable {K : RV → M γ} (h : Has pn S e) (k1 : ROk r oa)
include h k1
theorem f_len [Enc ω] {xs : List ω} (k : Sm (K (.fz (.int xs.length)) e) P G X) (da : Dt S oa (enc xs) := by first | exact .f | exact .v rfl | exact .vz rfl | exact .w | exact .y | exact .u rfl) : Sm (cbK lenD K [r] e) P G X :=
  f_cb h (os := [oa]) ⟨k1, trivial⟩ (.cons da .nil) (by show some (D.int ((xs.map enc).length : Nat)) = _; rw [List.length_map]) k
theorem f_lenT [Enc ω] {xs : Tup ω} (k : Sm (K (.fz (.int xs.l.length)) e) P G X) (da : Dt S oa (enc xs) := by first | exact .f | exact .y | exact .u rfl) : Sm (cbK lenD K [r] e) P G X :=
  f_cb h (os := [oa]) ⟨k1, trivial⟩ (.cons da .nil) (by show some (D.int ((xs.l.map enc).length : Nat)) = _; rw [List.length_map]) k
theorem f_toInt {i : Int} (k : Sm (K (.fz (.int i)) e) P G X) (da : Dt S oa (.int i) := by first | exact .f | exact .u rfl) : Sm (cbK intD K [r] e) P G X :=
  f_cb h (os := [oa]) ⟨k1, trivial⟩ (.cons da .nil) rfl k
theorem f_sum {xs : List Int} (k : Sm (K (.fz (.int xs.sum)) e) P G X) (da : Dt S oa (enc xs) := by first | exact .f | exact .v rfl | exact .vz rfl | exact .w | exact .y | exact .u rfl) : Sm (cbK sumD K [r] e) P G X :=
  f_cb h (os := [oa]) ⟨k1, trivial⟩ (.cons da .nil) (by unfold sumD; show (intsOf (xs.map enc)).map _ = _; rw [intsOf_enc]; rfl) k
theorem f_isi {n t : String} {c : Bool} (k2 : ROk q (.f (.ty n))) (da : Dt S oa d) (ht : tyName d = some t) (hk : kitB t n = some c) (k : Sm (K (.fz (.bl c)) e) P G X) : Sm (cbK isiD K [r, q] e) P G X :=
  f_cb h (os := [oa, _]) ⟨k1, k2, trivial⟩ (.cons da (.cons .f .nil)) (by unfold isiD; simp only [ht, hk]; rfl) k
end
theorem kb_ll : kitB "list" "list" = some true := by decide +kernel
theorem kb_ii : kitB "int" "int" = some true := by decide +kernel
theorem kb_ib : kitB "int" "bool" = some false := by decide +kernel
theorem kb_bi : kitB "bool" "int" = some true := by decide +kernel
theorem kb_bb : kitB "bool" "bool" = some true := by decide +kernel
theorem kb_tt : kitB "tuple" "tuple" = some true := by decide +kernel
theorem kb_ss : kitB "str" "str" = some true := by decide +kernel
theorem kb_nl : kitB "NoneType" "list" = some false := by decide +kernel
theorem kb_ni : kitB "NoneType" "int" = some false := by decide +kernel
theorem kb_nb : kitB "NoneType" "bool" = some false := by decide +kernel
theorem kb_nt : kitB "NoneType" "tuple" = some false := by decide +kernel
theorem kb_ti : kitB "tuple" "list" = some false := by decide +kernel
theorem kb_il : kitB "int" "list" = some false := by decide +kernel
theorem isiO [Enc ω] {x : Option ω} {n t : String} {c : Bool} (ht : ∀ a : ω, tyName (enc a) = some t) (hk : kitB t n = some c) (hn : kitB "NoneType" n = some false) : isiD [enc x, .ty n] = some (.bl (c && x.isSome)) := by
  cases x with
  | none => unfold isiD; show (match tyName .non with | some t => (kitB t n).map D.bl | none => none) = _; simp [tyName, hn]
  | some a =>
    unfold isiD
    show (match tyName (enc a) with | some t => (kitB t n).map D.bl | none => none) = _
    rw [ht a]; simp [hk]
theorem p_isiO [Enc ω] {x : Option ω} {n t : String} {c : Bool} {a b : M RV} (ha : PJ pn S a oa) (hb : PJ pn S b (.f (.ty n))) (da : Dt S oa (enc x)) (ht : ∀ a : ω, tyName (enc a) = some t) (hk : kitB t n = some c) (hn : kitB "NoneType" n = some false) : PJ pn S (dCB isiD (dCons a (dCons b dNil))) (.f (.bl (c && x.isSome))) :=
  p_cb (pa_cons' ha (pa_cons' hb pa_nil')) (.cons da (.cons .f .nil)) (isiO ht hk hn)
theorem f_isiO [Enc ω] {x : Option ω} {n t : String} {c : Bool} {K : RV → M γ} (h : Has pn S e) (k1 : ROk r oa) (k2 : ROk q (.f (.ty n))) (da : Dt S oa (enc x)) (ht : ∀ a : ω, tyName (enc a) = some t) (hk : kitB t n = some c) (hn : kitB "NoneType" n = some false) (k : Sm (K (.fz (.bl (c && x.isSome))) e) P G X) : Sm (cbK isiD K [r, q] e) P G X :=
  f_cb h (os := [oa, _]) ⟨k1, k2, trivial⟩ (.cons da (.cons .f .nil)) (isiO ht hk hn) k
theorem p_mulL {i j : Int} {a b : M RV} (ha : PJ pn S a oa) (hb : PJ pn S b ob) (da : Dt S oa (.int i) := by first | exact .f | exact .u rfl) (db : Dt S ob (.int j) := by first | exact .f | exact .u rfl) (h : inB i 64 = true := by decide) : PJ pn S (dOp fMul a b) (.f (.int (i * j))) := p_mulK ha hb da db (by rw [h, Bool.true_or])
theorem p_mulR {i j : Int} {a b : M RV} (ha : PJ pn S a oa) (hb : PJ pn S b ob) (da : Dt S oa (.int i) := by first | exact .f | exact .u rfl) (db : Dt S ob (.int j) := by first | exact .f | exact .u rfl) (h : inB j 64 = true := by decide) : PJ pn S (dOp fMul a b) (.f (.int (i * j))) := p_mulK ha hb da db (by rw [h, Bool.or_true])
section
variable {i j : Int} {K : RV → M γ} (h : Has pn S e) (k1 : ROk r oa) (k2 : ROk q ob) (k : Sm (K (.fz (.int (i * j))) e) P G X) (da : Dt S oa (.int i) := by first | exact .f | exact .u rfl) (db : Dt S ob (.int j) := by first | exact .f | exact .u rfl)
include h k1 k2 k da db
theorem f_mulL (hh : inB i 64 = true := by decide) : Sm (opK2 fMul r K q e) P G X := f_op h k1 k2 da db (if_pos (by rw [hh, Bool.true_or])) k
theorem f_mulR (hh : inB j 64 = true := by decide) : Sm (opK2 fMul r K q e) P G X := f_op h k1 k2 da db (if_pos (by rw [hh, Bool.or_true])) k
end
theorem f_modK {i j : Int} {K : RV → M γ} (h : Has pn S e) (k1 : ROk r oa) (k2 : ROk q ob) (k : Sm (K (.fz (.int (i % j))) e) P G X) (da : Dt S oa (.int i) := by first | exact .f | exact .u rfl) (db : Dt S ob (.int j) := by first | exact .f | exact .u rfl) (hh : 0 < j := by decide) : Sm (opK2 fMod r K q e) P G X := f_op h k1 k2 da db (if_pos hh) k
theorem f_divK {i j : Int} {K : RV → M γ} (h : Has pn S e) (k1 : ROk r oa) (k2 : ROk q ob) (k : Sm (K (.fz (.int (i / j))) e) P G X) (da : Dt S oa (.int i) := by first | exact .f | exact .u rfl) (db : Dt S ob (.int j) := by first | exact .f | exact .u rfl) (hh : 0 < j ∧ j < 1073741824 := by decide) : Sm (opK2 fDiv r K q e) P G X := f_op h k1 k2 da db (if_pos hh) k
theorem f_truB {c : Bool} {K : Bool → M γ} (h : Has pn S e) (k1 : ROk r o) (k : Sm (K c e) P G X) (da : Dt S o (.bl c) := by first | exact .f | exact .u rfl) : Sm (truK K r e) P G X := f_tru h k1 da rfl k
theorem f_truL [Enc ω] {xs : List ω} {K : Bool → M γ} (h : Has pn S e) (k1 : ROk r o) (k : Sm (K (!xs.isEmpty) e) P G X) (da : Dt S o (enc xs) := by first | exact .f | exact .v rfl | exact .vz rfl | exact .w | exact .y | exact .u rfl) : Sm (truK K r e) P G X :=
  f_tru h k1 da (by show some (!(xs.map enc).isEmpty) = _; cases xs <;> rfl) k
theorem c_nx {b : M Fl} {K : Fl → M γ} (k : Sm ((b e).bind K) P G X) : Sm (seqK b K .nx e) P G X := k
theorem f_drop {K : Fl → M γ} (k : Sm (K .nx e) P G X) : Sm (dropK K r e) P G X := k
theorem f_ret {K : Fl → M γ} (k : Sm (K (.rt r) e) P G X) : Sm (retK K r e) P G X := k
/-- the state is told less exactly -/
theorem c_weak {Q : Prop} (h : Has pn S e) (k : Has pn S' e → Q) (w : W S S' := by first | exact W.refl _ | (repeat (first | exact W.nil | refine W.rf ?_ | refine W.cz ?_ | refine W.cc ?_ | refine W.vz ?_ | refine W.vo ?_ | refine W.an ?_))) : Q := k (h.weak w)
/-- an Option's value is there -/
theorem f_unO {u : Option ω} {k : ω → Res α} {r : R γ} (kk : ∀ v, u = some v → Sm r (k v) G X) : Sm r ((unO u).bind k) G X := by
  cases u with
  | none => first | trivial | exact ⟨trivial⟩
  | some v => exact kk v rfl
theorem f_setL {i : Nat} {v : ω} {k : ω → Res α} {K : Fl → M γ} (F : ω → SD) (h : Has pn S e) (ho : ROk r o) (s : St S i o (S1.set i (F v))) (hi : i ∉ pn) (kk : ∀ v e', Has pn (S1.set i (F v)) e' → Sm (K .nx e') (k v) G X) : Sm (setK i K r e) ((Res.ok v).bind k) G X := f_set h ho s hi (kk v)
theorem f_rng1' {rs : List RV} {j : Int} {K : List D → M γ} {k : List Int → Res α} (h : Has pn S e) (kr : ROks rs [o]) (kk : ∀ v : List Int, Sm (K (v.map enc) e) (k v) G X) (da : Dt S o (.int j) := by first | exact .f | exact .u rfl) : Sm (rg1K K rs e) ((rng1R j).bind k) G X := by
  match rs, kr with
  | [r], kr => exact f_rng1 h kr.1 kk da
theorem f_rng2' {rs : List RV} {i j : Int} {K : List D → M γ} {k : List Int → Res α} (h : Has pn S e) (kr : ROks rs [oa, ob]) (kk : ∀ v : List Int, Sm (K (v.map enc) e) (k v) G X) (da : Dt S oa (.int i) := by first | exact .f | exact .u rfl) (db : Dt S ob (.int j) := by first | exact .f | exact .u rfl) : Sm (rg2K K rs e) ((rngR i j).bind k) G X := by
  match rs, kr with
  | [r, q], kr => exact f_rng2 h kr.1 kr.2.1 kk da db
theorem f_enum' [Enc ω] {rs : List RV} {xs : List ω} {K : List D → M γ} (h : Has pn S e) (kr : ROks rs [o]) (da : Fz S o (enc xs) S') (k : ∀ e', Has pn S' e' → Sm (K ((enumL xs).map enc) e') P G X) : Sm (enumK K rs e) P G X := by
  match rs, kr with
  | [r], kr => exact f_enum h kr.1 da k
theorem f_zip' [Enc ω] [Enc ψ] {rs : List RV} {xs : List ω} {ys : List ψ} {K : List D → M γ} (h : Has pn S e) (kr : ROks rs [oa, ob]) (da : Fz S oa (enc xs) S1) (db : Fz S1 ob (enc ys) S') (k : ∀ e', Has pn S' e' → Sm (K ((xs.zip ys).map enc) e') P G X) : Sm (zipK K rs e) P G X := by
  match rs, kr with
  | [r, q], kr => exact f_zip h kr.1 kr.2.1 da db k
theorem f_index' [Enc ω] [EqE ω] [DecidableEq ω] {rs : List RV} {xs : List ω} {v : ω} {K : RV → M γ} {k : Int → Res α} (h : Has pn S e) (kr : ROk r oa) (kq : ROks rs [ob]) (kk : ∀ v, Sm (K (.fz (.int v)) e) (k v) G X) (da : Dt S oa (enc xs) := by first | exact .f | exact .v rfl | exact .vz rfl | exact .w | exact .y | exact .u rfl) (db : Dt S ob (enc v) := by first | exact .f | exact .v rfl | exact .vz rfl | exact .w | exact .y | exact .u rfl) (hd : EqE.dep ω ≤ 63 := by decide) : Sm (mtK2 indexD r K rs e) ((idxR xs v).bind k) G X := by
  match rs, kq with
  | [q], kq => exact f_index h kr kq.1 kk da db hd
theorem f_tupOf' [Enc ω] {rs : List RV} {xs : List ω} {K : RV → M γ} (h : Has pn S e) (kr : ROks rs [o]) (da : Fz S o (enc xs) S') (k : ∀ r e', ROk r (.f (enc (Tup.mk xs))) → Has pn S' e' → Sm (K r e') P G X) : Sm (tupOfK K rs e) P G X := by
  match rs, kr with
  | [r], kr => exact f_tupOf h kr.1 da k
theorem f_ixTup {ds : List D} {i : Int} {K : RV → M γ} (h : Has pn S e) (k1 : ROk r (.f (.tup ds))) (k2 : ROk q (.f (.int i))) (hi : atI ds i = some d) (k : Sm (K (.fz d) e) P G X) : Sm (ixK2 r K q e) P G X := by
  cases k1; cases k2
  unfold ixK2
  simp only [view_fz, item_fz, itemD_tup, hi]
  exact k
/-- a letter in the place of a value -/
theorem f_let {u : ω} {k : ω → Res α} {r : R γ} (kk : Sm r (k u) G X) : Sm r ((Res.ok u).bind k) G X := kk
/-- results that are None or a new list -/
def roO [Enc ω] : Option (List ω) → SV
  | none => .fz .non
  | some xs => .ol (fzs (encs xs))
theorem rk_roO [Enc ω] (t : Option (List ω)) : ROk (svR (roO t)) (.y (enc t)) := by
  cases t with
  | none => exact .inl rfl
  | some xs => exact .inr ⟨_, rfl, rfl⟩
end
/-! ### the laws' own draws -/
structure Bx where
  ds : List Int
  at_ : Nat
def boxD (b : Bx) : List D := [enc b.ds, .int b.at_]
def p__law_draw (b : Bx) (many : Int) : Res (Int × Bx) := if 0 < many then .ok (drawV b.ds b.at_ many, ⟨b.ds, b.at_ + 1⟩) else .st
theorem ss__law_draw (b : Bx) (many : Int) : FS false (φ__law_draw [.ol (fzs (boxD b)), .fz (enc many)]) (p__law_draw b many) (fun t => .fz (enc t.1)) (fun t => [.ol (fzs (boxD t.2)), .fz (enc many)]) := by
  unfold p__law_draw
  split
  · rename_i h
    exact ⟨draw_ok b.ds b.at_ many h⟩
  · first | trivial | exact ⟨trivial⟩
noncomputable def digitsOf (ns : List Int) : List Int := Classical.choose (digits_ok ns)
noncomputable def p__law_digits (ns : List Int) (i j : Int) : Res (List Int) := if i = 0 ∧ j = 63 then .ok (digitsOf ns) else .st
theorem ss__law_digits (ns : List Int) (i j : Int) : FS false (φ__law_digits [.fz (.scr ns), .fz (enc i), .fz (enc j)]) (p__law_digits ns i j) (fun t => .ol (fzs (encs t))) (fun _ => [.fz (.scr ns), .fz (enc i), .fz (enc j)]) := by
  unfold p__law_digits
  split
  · rename_i h
    obtain ⟨rfl, rfl⟩ := h
    exact ⟨Classical.choose_spec (digits_ok ns)⟩
  · first | trivial | exact ⟨trivial⟩
/-- the law's end -/
theorem law_of {φ : Fn} {ns : List Int} {p : Res Bool} (h : FS false (φ [.fz (.scr ns)]) p (fun t => .fz (enc t)) (fun _ => [.fz (.scr ns)])) (hp : p = .ok true) : ∃ as', φ [.fz (.scr ns)] = .ok (.fz (.bl true)) as' := by
  rw [hp] at h
  exact ⟨_, h.run⟩
end VF

set_option maxRecDepth 100000
set_option maxHeartbeats 4000000
/-! Plain tools: what the mirrors' parts give. -/
namespace VF
set_option autoImplicit false
open PySem L2
/-- a plain result holds: it is there, and as is said -/
def Hd {α : Type} (p : Res α) (Q : α → Prop) : Prop := ∃ a, p = .ok a ∧ Q a
section
variable {α β γ σ τ : Type}
theorem Hd.bind {p : Res α} {q : α → Res β} {Q : β → Prop} {R : α → Prop} (h : Hd p R) (k : ∀ a, R a → Hd (q a) Q) : Hd (p.bind q) Q := by
  obtain ⟨a, rfl, h2⟩ := h
  exact k a h2
theorem Hd.ok {a : α} {Q : α → Prop} (h : Q a) : Hd (.ok a) Q := ⟨a, rfl, h⟩
theorem Hd.eq {p : Res α} {a : α} {Q : α → Prop} (h : p = .ok a) (k : Q a) : Hd p Q := ⟨a, h, k⟩
theorem hd_eq {p : Res α} {a : α} {q : α → Res β} {Q : β → Prop} (h : p = .ok a) (k : Hd (q a) Q) : Hd (p.bind q) Q := by rw [h]; exact k
theorem Hd.true {p : Res Bool} (h : Hd p (· = true)) : p = .ok true := by obtain ⟨a, h1, rfl⟩ := h; exact h1
theorem Hd.mono {p : Res α} {Q R : α → Prop} (h : Hd p Q) (k : ∀ a, Q a → R a) : Hd p R := by obtain ⟨a, h1, h2⟩ := h; exact ⟨a, h1, k a h2⟩
@[simp] theorem bind_ok_self (p : Res α) : (p.bind fun a => .ok a) = p := by cases p <;> rfl
@[simp] theorem bind_ok_self' (p : Res α) : p.bind Res.ok = p := by cases p <;> rfl
/-! sizes -/
theorem size_le {n : Nat} (h : n ≤ 1000000) : n ≤ sizeLine := size_ge (by omega)
theorem size_lt {n : Nat} (h : n ≤ 1000000) : n < sizeLine := size_gt (by omega)
theorem s62 {n : Int} (h : -1000000000 ≤ n) (h2 : n ≤ 1000000000) : small62 n = true := by
  rw [small62_def]; exact decide_eq_true (by omega)
/-! what is partial, where it is there -/
theorem modR_ok {x y : Int} (h : 0 < y) : modR x y = .ok (x % y) := if_pos h
theorem divR_ok {x y : Int} (h : 0 < y) (h2 : y < 1073741824) : divR x y = .ok (x / y) := by unfold divR; rw [okDiv_eq]; exact if_pos (decide_eq_true ⟨h, h2⟩)
theorem mulR_ok {x y : Int} (h : -18446744073709551616 < y ∧ y < 18446744073709551616) : mulR x y = .ok (x * y) := by
  unfold mulR
  rw [okMul_eq, if_pos]
  rw [Bool.or_eq_true]; right
  rw [inB_def]; exact decide_eq_true (by omega)
theorem mulR_ok' {x y : Int} (h : -18446744073709551616 < x ∧ x < 18446744073709551616) : mulR x y = .ok (x * y) := by
  unfold mulR
  rw [okMul_eq, if_pos]
  rw [Bool.or_eq_true]; left
  rw [inB_def]; exact decide_eq_true (by omega)
theorem appR_ok {xs : List α} {x : α} (h : xs.length ≤ 1000000) : appR xs x = .ok (xs ++ [x]) := by unfold appR; rw [okLt_eq]; exact if_pos (decide_eq_true (size_lt h))
theorem catR_ok {xs ys : List α} (h : xs.length + ys.length ≤ 1000000) : catR xs ys = .ok (xs ++ ys) := by unfold catR; rw [okLe_eq]; exact if_pos (decide_eq_true (size_le h))
theorem geti_nat {xs : List α} {i : Nat} (h : i < xs.length) : geti xs (i : Int) = .ok xs[i] := by
  unfold geti
  rw [atI_nonneg _ _ (by omega), Int.toNat_natCast, List.getElem?_eq_getElem h]
theorem geti_int {xs : List α} {i : Int} (h0 : 0 ≤ i) (h : i.toNat < xs.length) : geti xs i = .ok xs[i.toNat] := by
  unfold geti
  rw [atI_nonneg _ _ h0, List.getElem?_eq_getElem h]
theorem geti_some {xs : List α} {i : Int} {x : α} (h0 : 0 ≤ i) (h : xs[i.toNat]? = some x) : geti xs i = .ok x := by
  unfold geti
  rw [atI_nonneg _ _ h0, h]
theorem geti_last {xs : List α} {x : α} (h : xs.getLast? = some x) : geti xs (-1) = .ok x := by
  unfold geti
  rw [atI_neg1, h]
theorem setR_nat {xs : List α} {i : Nat} {x : α} (h : i < xs.length) : setR xs (i : Int) x = .ok (xs.set i x) := by
  unfold setR
  rw [ixN_ok (by omega) (by omega), Int.toNat_natCast]
theorem augR_nat {xs : List Int} {i : Nat} {f : Int → Int → Int} {y : Int} (h : i < xs.length) : augR xs (i : Int) f y = .ok (xs.set i (f xs[i] y)) := by
  unfold augR
  rw [if_pos (by omega), Int.toNat_natCast, List.getElem?_eq_getElem h]
theorem popR_nat {xs : List α} {i : Nat} (h : i < xs.length) (hs : xs.length ≤ 1000000) : popR xs (i : Int) = .ok (xs[i], xs.eraseIdx i) := by
  unfold popR
  rw [if_pos (by omega)]
  have : seqIndex? (i : Int) xs.length = some i := by
    unfold seqIndex?
    have h1 : ¬ ((i : Int) < 0) := by omega
    have h2 : (decide (0 ≤ (i : Int)) && decide ((i : Int) < (xs.length : Int))) = true := by
      rw [Bool.and_eq_true]; exact ⟨decide_eq_true (by omega), decide_eq_true (by omega)⟩
    simp only [if_neg h1, h2, if_true, Int.toNat_natCast]
  rw [this]
  simp only [List.getElem?_eq_getElem h]
/-! ranges -/
theorem irng_len (lo : Int) (n : Nat) : (irng lo n).length = n := by simp [irng]
theorem irng0 (n : Nat) : irng 0 n = (List.range n).map (fun k : Nat => (k : Int)) := by unfold irng; simp
theorem irng_mem {lo : Int} {n : Nat} {x : Int} : x ∈ irng lo n ↔ lo ≤ x ∧ x < lo + n := by
  unfold irng
  rw [List.mem_map]
  constructor
  · rintro ⟨i, hi, rfl⟩
    rw [List.mem_range] at hi
    omega
  · rintro ⟨h1, h2⟩
    exact ⟨(x - lo).toNat, by rw [List.mem_range]; omega, by omega⟩
theorem rng1_ok {n : Int} (h : n ≤ 1000000) (h0 : -1000000 ≤ n) : rng1R n = .ok (irng 0 n.toNat) := by unfold rng1R; rw [ok62_eq]; exact if_pos (s62 (by omega) (by omega))
theorem rng1_nat {n : Nat} (h : n ≤ 1000000) : rng1R (n : Int) = .ok ((List.range n).map fun k : Nat => (k : Int)) := by
  rw [rng1_ok (by omega) (by omega), Int.toNat_natCast, irng0]
theorem rng_ok {a b : Int} (h : -1000000 ≤ a) (h1 : a ≤ 1000000) (h2 : -1000000 ≤ b) (h3 : b ≤ 1000000) : rngR a b = .ok (irng a (b - a).toNat) := by
  unfold rngR
  rw [if_pos]
  rw [ok62_eq, ok62_eq, s62 (by omega) (by omega), s62 (by omega) (by omega)]; rfl
theorem lrng_ok {n : Int} (h : n ≤ 1000000) (h0 : -1000000 ≤ n) : lrngR n = .ok (irng 0 n.toNat) := by unfold lrngR; rw [okLr_eq]; exact if_pos (decide_eq_true ⟨h, by omega⟩)
/-! comprehensions -/
theorem compGo_ok {f : α → σ → Res (Option β × σ)} {g : α → Option β} {s : σ} : ∀ (xs : List α) (acc : List β), (∀ x ∈ xs, f x s = .ok (g x, s)) → compGo f xs s acc = .ok (acc ++ xs.filterMap g, s)
  | [], acc, _ => by simp [compGo]
  | x :: xs, acc, h => by
    have hx := h x List.mem_cons_self
    have ht := fun y hy => h y (List.mem_cons_of_mem _ hy)
    unfold compGo
    rw [hx]
    cases q : g x with
    | none => simp only; rw [compGo_ok xs acc ht, List.filterMap_cons, q]
    | some y => simp only; rw [compGo_ok xs (acc ++ [y]) ht, List.filterMap_cons, q]; simp
theorem filC_some {f : α → Res (Option β)} {g : α → Option β} {xs : List α} (hl : xs.length ≤ 1000000) (h : ∀ x ∈ xs, f x = .ok (g x)) : filC f xs = .ok (xs.filterMap g) := by
  unfold filC filS
  rw [okLe_eq, if_pos (decide_eq_true (size_le hl)), compGo_ok (g := g) xs [] (fun x hx => by rw [h x hx]; rfl)]
  rfl
theorem mapC_ok {f : α → Res β} {g : α → β} {xs : List α} (hl : xs.length ≤ 1000000) (h : ∀ x ∈ xs, f x = .ok (g x)) : mapC f xs = .ok (xs.map g) := by
  unfold mapC
  rw [filC_some (g := fun x => some (g x)) hl (fun x hx => by rw [h x hx]; rfl)]
  simp
theorem filC_ok {f : α → Res (Option β)} {c : α → Bool} {g : α → β} {xs : List α} (hl : xs.length ≤ 1000000) (h : ∀ x ∈ xs, f x = .ok (if c x = true then some (g x) else none)) : filC f xs = .ok ((xs.filter c).map g) := by
  rw [filC_some hl h]
  congr 1
  induction xs with
  | nil => rfl
  | cons x xs ih =>
    have := ih (by simp only [List.length_cons] at hl; omega) (fun y hy => h y (List.mem_cons_of_mem _ hy))
    rw [List.filterMap_cons]
    cases q : c x with
    | true => rw [if_pos rfl, List.filter_cons, q, if_pos rfl, List.map_cons]; simp only; rw [this]
    | false => rw [if_neg (by decide), List.filter_cons, q, if_neg (by decide)]; simp only; rw [this]
/-- .. whose items pass a test and are kept as they are -/
theorem filC_id {f : α → Res (Option α)} {c : α → Bool} {xs : List α} (hl : xs.length ≤ 1000000) (h : ∀ x ∈ xs, f x = .ok (if c x = true then some x else none)) : filC f xs = .ok (xs.filter c) := by
  rw [filC_ok (g := id) hl h, List.map_id]
theorem filC_idI {f : α → Res (Option α)} {c : α → Bool} {xs : List α} (hl : xs.length ≤ 1000000) (h : ∀ x ∈ xs, f x = if c x = true then .ok (some x) else .ok none) : filC f xs = .ok (xs.filter c) :=
  filC_id hl fun x hx => by rw [h x hx]; split <;> rfl
theorem filC_okI {f : α → Res (Option β)} {c : α → Bool} {g : α → β} {xs : List α} (hl : xs.length ≤ 1000000) (h : ∀ x ∈ xs, f x = if c x = true then .ok (some (g x)) else .ok none) : filC f xs = .ok ((xs.filter c).map g) :=
  filC_ok hl fun x hx => by rw [h x hx]; split <;> rfl
theorem mapC_rng {f : Int → Res β} {g : Nat → β} {n : Nat} (hl : n ≤ 1000000) (h : ∀ k, k < n → f (k : Int) = .ok (g k)) : mapC f ((List.range n).map fun k : Nat => (k : Int)) = .ok ((List.range n).map g) := by
  have := mapC_ok (f := f) (g := fun x : Int => g x.toNat) (xs := (List.range n).map fun k : Nat => (k : Int)) (by simpa using hl) (fun x hx => by
    obtain ⟨k, hk, rfl⟩ := List.mem_map.mp hx
    rw [h k (List.mem_range.mp hk), Int.toNat_natCast])
  rw [this, List.map_map]
  rfl
/-- items beside items -/
inductive All2 (Q : α → β → Prop) : List α → List β → Prop
  | nil : All2 Q [] []
  | cons {a : α} {b : β} {as : List α} {bs : List β} : Q a b → All2 Q as bs → All2 Q (a :: as) (b :: bs)
theorem All2.len {Q : α → β → Prop} {as : List α} {bs : List β} (h : All2 Q as bs) : bs.length = as.length := by
  induction h with
  | nil => rfl
  | cons _ _ ih => simp [ih]
theorem All2.mem {Q : α → β → Prop} {as : List α} {bs : List β} (h : All2 Q as bs) : ∀ b ∈ bs, ∃ a ∈ as, Q a b := by
  induction h with
  | nil => intro b hb; cases hb
  | cons q _ ih =>
    intro b hb
    rcases List.mem_cons.mp hb with rfl | hb
    · exact ⟨_, List.mem_cons_self, q⟩
    · obtain ⟨a, h1, h2⟩ := ih b hb
      exact ⟨a, List.mem_cons_of_mem _ h1, h2⟩
theorem All2.get {Q : α → β → Prop} {as : List α} {bs : List β} (h : All2 Q as bs) : ∀ (i : Nat) (h1 : i < as.length) (h2 : i < bs.length), Q as[i] bs[i] := by
  induction h with
  | nil => intro i h1; simp at h1
  | cons q _ ih =>
    intro i h1 h2
    cases i with
    | zero => exact q
    | succ i => exact ih i (by simpa using h1) (by simpa using h2)
theorem compGo_hd {f : α → σ → Res (Option β × σ)} {Q : α → β → Prop} : ∀ (xs : List α) (s : σ) (acc : List β), (∀ x ∈ xs, ∀ s, Hd (f x s) fun p => ∃ y, p.1 = some y ∧ Q x y) → Hd (compGo f xs s acc) fun p => ∃ ys, p.1 = acc ++ ys ∧ All2 Q xs ys
  | [], s, acc, _ => ⟨(acc, s), rfl, [], by simp, .nil⟩
  | x :: xs, s, acc, h => by
    obtain ⟨⟨o, s'⟩, h1, y, h2, h3⟩ := h x List.mem_cons_self s
    cases h2
    obtain ⟨p, h4, ys, h5, h6⟩ := compGo_hd xs s' (acc ++ [y]) (fun y hy => h y (List.mem_cons_of_mem _ hy))
    refine ⟨p, ?_, y :: ys, by rw [h5]; simp, .cons h3 h6⟩
    unfold compGo
    rw [h1]
    exact h4
theorem mapS_hd {f : α → σ → Res (β × σ)} {Q : α → β → Prop} {xs : List α} {s : σ} (hl : xs.length ≤ 1000000) (h : ∀ x ∈ xs, ∀ s, Hd (f x s) fun p => Q x p.1) : Hd (mapS f xs s) fun p => All2 Q xs p.1 := by
  unfold mapS filS
  rw [okLe_eq, if_pos (decide_eq_true (size_le hl))]
  refine (compGo_hd (Q := Q) xs s [] fun x hx s => ?_).mono fun p ⟨ys, h1, h2⟩ => by rw [h1]; simpa using h2
  obtain ⟨p, h1, h2⟩ := h x hx s
  exact ⟨(some p.1, p.2), by rw [h1]; rfl, p.1, rfl, h2⟩
theorem compGo_sub {f : α → σ → Res (Option α × σ)} : ∀ (xs : List α) (s : σ) (acc : List α), (∀ x ∈ xs, ∀ s, Hd (f x s) fun p => p.1 = some x ∨ p.1 = none) → Hd (compGo f xs s acc) fun p => ∃ ys, p.1 = acc ++ ys ∧ ys.Sublist xs
  | [], s, acc, _ => ⟨(acc, s), rfl, [], by simp, .slnil⟩
  | x :: xs, s, acc, h => by
    obtain ⟨⟨o, s'⟩, h1, h2⟩ := h x List.mem_cons_self s
    rcases h2 with h2 | h2
    · cases h2
      obtain ⟨p, h4, ys, h5, h6⟩ := compGo_sub xs s' (acc ++ [x]) (fun y hy => h y (List.mem_cons_of_mem _ hy))
      refine ⟨p, ?_, x :: ys, by rw [h5]; simp, h6.cons_cons _⟩
      unfold compGo
      rw [h1]
      exact h4
    · cases h2
      obtain ⟨p, h4, ys, h5, h6⟩ := compGo_sub xs s' acc (fun y hy => h y (List.mem_cons_of_mem _ hy))
      refine ⟨p, ?_, ys, h5, h6.cons _⟩
      unfold compGo
      rw [h1]
      exact h4
theorem filS_sub {f : α → σ → Res (Option α × σ)} {xs : List α} {s : σ} (hl : xs.length ≤ 1000000) (h : ∀ x ∈ xs, ∀ s, Hd (f x s) fun p => p.1 = some x ∨ p.1 = none) : Hd (filS f xs s) fun p => p.1.Sublist xs := by
  unfold filS
  rw [okLe_eq, if_pos (decide_eq_true (size_le hl))]
  exact (compGo_sub xs s [] h).mono fun p ⟨ys, h1, h2⟩ => by rw [h1]; simpa using h2
/-! loops -/
theorem foldR_hd {f : α → σ → Res σ} {xs : List α} {s : σ} (I : Nat → σ → Prop) (h0 : I 0 s) (step : ∀ (i : Nat) (h : i < xs.length) s, I i s → Hd (f xs[i] s) (I (i + 1))) : Hd (foldR f xs s) (I xs.length) := by
  induction xs generalizing s I with
  | nil => exact ⟨s, rfl, h0⟩
  | cons x xs ih =>
    obtain ⟨s', h1, h2⟩ := step 0 (by simp) s h0
    unfold foldR
    rw [show f x s = .ok s' from h1]
    exact ih (fun i => I (i + 1)) h2 fun i h s hs => step (i + 1) (by simpa using h) s hs
theorem foldR_app {f : α → List β → Res (List β)} {g : α → β} : ∀ (xs : List α) (acc : List β), acc.length + xs.length ≤ 1000000 → (∀ x ∈ xs, ∀ acc, f x acc = appR acc (g x)) → foldR f xs acc = .ok (acc ++ xs.map g)
  | [], acc, _, _ => by simp [foldR]
  | x :: xs, acc, hl, h => by
    rw [List.length_cons] at hl
    unfold foldR
    rw [h x List.mem_cons_self, appR_ok (by omega)]
    show foldR f xs (acc ++ [g x]) = _
    rw [foldR_app xs (acc ++ [g x]) (by simp; omega) fun y hy => h y (List.mem_cons_of_mem _ hy)]
    simp
theorem foldR_app0 {f : α → List β → Res (List β)} {g : α → β} {xs : List α} (hl : xs.length ≤ 1000000) (h : ∀ x ∈ xs, ∀ acc, f x acc = appR acc (g x)) : foldR f xs [] = .ok (xs.map g) := by
  rw [foldR_app xs [] (by simpa using hl) h]; simp
theorem foldR_rng {f : Int → List β → Res (List β)} {g : Nat → β} {n : Nat} (hl : n ≤ 1000000) (h : ∀ k, k < n → ∀ acc, f (k : Int) acc = appR acc (g k)) : foldR f ((List.range n).map fun k : Nat => (k : Int)) [] = .ok ((List.range n).map g) := by
  have := foldR_app0 (f := f) (g := fun x : Int => g x.toNat) (xs := (List.range n).map fun k : Nat => (k : Int)) (by simpa using hl) (fun x hx acc => by
    obtain ⟨k, hk, rfl⟩ := List.mem_map.mp hx
    rw [h k (List.mem_range.mp hk), Int.toNat_natCast])
  rw [this, List.map_map]
  rfl
/-- a loop that only passes on -/
theorem forR_go {f : α → σ → Res (Lp σ τ)} {k : σ → Res τ} {Q : τ → Prop} : ∀ {xs : List α} {s : σ} (I : Nat → σ → Prop), I 0 s → (∀ (i : Nat) (h : i < xs.length) s, I i s → Hd (f xs[i] s) fun l => ∃ s', l = .go s' ∧ I (i + 1) s') → (∀ s, I xs.length s → Hd (k s) Q) → Hd (forR f xs s k) Q
  | [], s, I, h0, _, hk => hk s h0
  | x :: xs, s, I, h0, step, hk => by
    obtain ⟨l, h1, s', rfl, h2⟩ := step 0 (by simp) s h0
    unfold forR
    rw [show f x s = .ok (.go s') from h1]
    exact forR_go (fun i => I (i + 1)) h2 (fun i h s hs => step (i + 1) (by simpa using h) s hs) hk
/-- a search without a state -/
theorem forR_all {f : α → Unit → Res (Lp Unit τ)} {k : Unit → Res τ} {xs : List α} (h : ∀ x ∈ xs, f x () = .ok (.go ())) : forR f xs () k = k () := by
  induction xs with
  | nil => rfl
  | cons x xs ih =>
    unfold forR
    rw [h x List.mem_cons_self]
    exact ih fun y hy => h y (List.mem_cons_of_mem _ hy)
/-! draws -/
theorem drawV_lt' (ds : List Int) (a : Nat) (m : Int) (h : 0 < m) : 0 ≤ drawV ds a m ∧ drawV ds a m < m := by
  unfold drawV
  cases ds[a]? with
  | none => exact ⟨Int.le_refl _, h⟩
  | some d => exact ⟨Int.emod_nonneg _ (by omega), Int.emod_lt_of_pos _ h⟩
theorem hd_draw {b : Bx} {m : Int} {q : Int × Bx → Res β} {Q : β → Prop} (h : 0 < m) (k : ∀ v b, 0 ≤ v → v < m → Hd (q (v, b)) Q) : Hd ((p__law_draw b m).bind q) Q := by
  have := drawV_lt' b.ds b.at_ m h
  unfold p__law_draw
  rw [if_pos h]
  exact k _ _ this.1 this.2
theorem draw_hd {b : Bx} {m : Int} (h : 0 < m) : Hd (p__law_draw b m) fun p => 0 ≤ p.1 ∧ p.1 < m := by
  unfold p__law_draw
  rw [if_pos h]
  exact ⟨_, rfl, drawV_lt' _ _ _ h⟩
theorem hd_digits {ns : List Int} {q : List Int → Res β} {Q : β → Prop} (k : ∀ ds, Hd (q ds) Q) : Hd ((p__law_digits ns 0 63).bind q) Q := by
  unfold p__law_digits
  rw [if_pos ⟨rfl, rfl⟩]
  exact k _
end
end VF

set_option maxRecDepth 100000
set_option maxHeartbeats 4000000
/-! printed by gen.py, gen2.py from the program's defs: total,split,outsiders,gathered_pieces,held_shares,spread_pieces,new_table,_law_prime,_law_numbers,_law_order,_law_pieces,_law_sums,_law_moved -/
namespace V
set_option autoImplicit false
open PySem L2 VF
open Enc (enc)
def d_total : M Fl := (dSeq (dSet 2 (dC (.int 0)))
  (dSeq (dFor (dIt (dVar 1)) (gN 3) (dSet 2 (dOp fMod (dOp (fI (· + ·)) (dVar 2) (dVar 3)) (dVar 0))))
  (dRet (dVar 2))))
def φ_total : Fn := mkFn0 [false, false] 4 d_total
def d_split : M Fl := (dSeq (dSet 3 (dComp [4] (dIt (dVar 2)) (gN 4) dYes (dOp fMod (dVar 4) (dVar 0))))
  (dSeq (dDrop (dApp 3 (dOp fMod (dOp (fI (· - ·)) (dVar 1) (dCB sumD (dCons (dVar 3) dNil))) (dVar 0))))
  (dRet (dVar 3))))
def φ_split : Fn := mkFn0 [false, false, false] 5 d_split
def d_outsiders : M Fl := (dRet (dComp [2] (dRng1 (dCons (dVar 0) dNil)) (gN 2) (dT (dOp fNotIn (dVar 2) (dVar 1))) (dVar 2)))
def φ_outsiders : Fn := mkFn0 [false, false] 3 d_outsiders
def d_gathered_pieces : M Fl := (dSeq (dSet 4 (dLst dNil))
  (dSeq (dFor (dZip (dCons (dVar 2) (dCons (dVar 3) dNil))) (gTp 2 (gCo (gN 5) (gCo (gN 6) gNo))) (dDrop (dApp 4 (dComp [7, 8] (dZip (dCons (dVar 1) (dCons (dVar 6) dNil))) (gTp 2 (gCo (gN 7) (gCo (gN 8) gNo))) dYes (dCall [false, false, false] φ_split (dCons (dVar 0) (dCons (dIx (dVar 7) (dVar 5)) (dCons (dVar 8) dNil))))))))
  (dRet (dVar 4))))
def φ_gathered_pieces : Fn := mkFn0 [false, false, false, false] 9 d_gathered_pieces
def d_held_shares : M Fl := (dSeq (dSet 4 (dLst dNil))
  (dSeq (dFor (dEnum (dCons (dVar 1) dNil)) (gTp 2 (gCo (gN 5) (gCo (gN 6) gNo))) (dSeq (dSet 7 (dLst dNil))
  (dSeq (dFor (dEnum (dCons (dVar 2) dNil)) (gTp 2 (gCo (gN 8) (gCo (gN 9) gNo))) (dDrop (dApp 7 (dCallB 2 φ_total (dCons (dVar 0) (dCons (dAddL (dLst (dCons (dIx (dVar 6) (dVar 9)) dNil)) (dComp [10] (dIt (dVar 3)) (gN 10) dYes (dIx (dIx (dVar 10) (dVar 5)) (dVar 8)))) dNil))))))
  (dDrop (dApp 4 (dVar 7))))))
  (dRet (dVar 4))))
def φ_held_shares : Fn := mkFn0 [false, false, false, false] 11 d_held_shares
def d_spread_pieces : M Fl := (dSeq (dSet 4 (dLst dNil))
  (dSeq (dFor (dRng1 (dCons (dVar 2) dNil)) (gN 5) (dDrop (dApp 4 (dComp [6, 7] (dZip (dCons (dVar 1) (dCons (dIx (dVar 3) (dVar 5)) dNil))) (gTp 2 (gCo (gN 6) (gCo (gN 7) gNo))) dYes (dCall [false, false, false] φ_split (dCons (dVar 0) (dCons (dIx (dVar 6) (dVar 5)) (dCons (dVar 7) dNil))))))))
  (dRet (dVar 4))))
def φ_spread_pieces : Fn := mkFn0 [false, false, false, false] 8 d_spread_pieces
def d_new_table : M Fl := (dSeq (dSet 4 (dLst dNil))
  (dSeq (dFor (dRng1 (dCons (dVar 3) dNil)) (gN 5) (dSeq (dSet 6 (dLst dNil))
  (dSeq (dFor (dRng1 (dCons (dVar 2) dNil)) (gN 7) (dDrop (dApp 6 (dCallB 2 φ_total (dCons (dVar 0) (dCons (dComp [8] (dIt (dVar 1)) (gN 8) dYes (dIx (dIx (dVar 8) (dVar 5)) (dVar 7))) dNil))))))
  (dDrop (dApp 4 (dVar 6))))))
  (dRet (dVar 4))))
def φ_new_table : Fn := mkFn0 [false, false, false, false] 9 d_new_table
def d__law_prime : M Fl := (dRet (dIx (dLst (dCons (dC (.int 2)) (dCons (dC (.int 3)) (dCons (dC (.int 5)) (dCons (dC (.int 7)) (dCons (dC (.int 11)) (dCons (dC (.int 13)) (dCons (dC (.int 17)) (dCons (dC (.int 19)) (dCons (dC (.int 23)) (dCons (dC (.int 97)) (dCons (dC (.int 101)) (dCons (dC (.int 997)) dNil))))))))))))) (dCall [true, false] φ__law_draw (dCons (dVar 0) (dCons (dC (.int 12)) dNil)))))
def φ__law_prime : Fn := mkFn0 [true] 1 d__law_prime
def d__law_numbers : M Fl := (dSeq (dSet 2 (dLst dNil))
  (dSeq (dFor (dRng1 (dCons (dVar 1) dNil)) (gN 3) (dDrop (dApp 2 (dOp (fI (· - ·)) (dOp (fI (· + ·)) (dOp fMul (dCall [true, false] φ__law_draw (dCons (dVar 0) (dCons (dC (.int 1000)) dNil))) (dC (.int 1000))) (dCall [true, false] φ__law_draw (dCons (dVar 0) (dCons (dC (.int 1000)) dNil)))) (dC (.int 300))))))
  (dRet (dVar 2))))
def φ__law_numbers : Fn := mkFn0 [true, false] 4 d__law_numbers
def d__law_order : M Fl := (dSeq (dSet 2 (dComp [4] (dRng1 (dCons (dVar 1) dNil)) (gN 4) dYes (dVar 4)))
  (dSeq (dSet 3 (dLst dNil))
  (dSeq (dFor (dRng1 (dCons (dVar 1) dNil)) (gN 4) (dDrop (dApp 3 (dPopAt 2 (dOp fMod (dCB intD (dCons (dCall [true, false] φ__law_draw (dCons (dVar 0) (dCons (dC (.int 1000)) dNil))) dNil)) (dCB lenD (dCons (dVar 2) dNil)))))))
  (dRet (dVar 3)))))
def φ__law_order : Fn := mkFn0 [true, false] 5 d__law_order
def d__law_pieces : M Fl := (dSeq (dSet 3 (dComp [4] (dIt (dVar 2)) (gN 4) dYes (dOp fMod (dCB intD (dCons (dVar 4) dNil)) (dVar 0))))
  (dSeq (dDrop (dApp 3 (dOp fMod (dCB intD (dCons (dOp (fI (· - ·)) (dVar 1) (dCB sumD (dCons (dVar 3) dNil))) dNil)) (dVar 0))))
  (dRet (dVar 3))))
def φ__law_pieces : Fn := mkFn0 [false, false, false] 5 d__law_pieces
def d__law_sums : M Fl := (dRet (dComp [2] (dIt (dVar 1)) (gN 2) dYes (dOp fMod (dCB intD (dCons (dCB sumD (dCons (dVar 2) dNil)) dNil)) (dVar 0))))
def φ__law_sums : Fn := mkFn0 [false, false] 3 d__law_sums
def d__law_moved : M Fl := (dRet (dComp [2] (dIt (dVar 1)) (gN 2) dYes (dIx (dVar 0) (dVar 2))))
def φ__law_moved : Fn := mkFn0 [false, false] 3 d__law_moved
def p_total (prime : Int) (numbers : List Int) : Res Int :=
(Res.ok (0 : Int)).bind fun result =>
(foldR (fun number result =>
(modR ((result + number)) prime).bind fun t19 =>
(Res.ok (t19 : Int)).bind fun result =>
.ok result) numbers result).bind fun result =>
.ok result
theorem ss_total (prime : Int) (numbers : List Int) : FS false (φ_total [.fz (enc prime), .fz (enc numbers)]) (p_total prime numbers) (fun t => .fz (enc t)) (fun t => [.fz (enc prime), .fz (enc numbers)]) := by
  refine fs_mk0 [.fz (enc prime), .fz (enc numbers), .clr, .clr] rfl (by repeat (first | exact trivial | refine ⟨rfl, ?_⟩)) fun e0 h0 => ?_
  unfold p_total
  unfold d_total
  refine c_seq ?_
  refine c_set ?_
  refine c_pure h0 (p_c) fun r1 k2 => ?_
  refine f_setL (v := (0 : Int)) (fun v => .fz (enc v)) h0 k2 .f (by decide) fun result _ h3 => ?_
  try dsimp only [List.set_cons_zero, List.set_cons_succ] at h3
  refine c_nx ?_
  refine c_seq ?_
  refine c_for ?_
  refine c_it ?_
  refine c_pure h3 (p_fz rfl) fun r4 k5 => ?_
  refine f_it (xs := numbers) h3 k5 .f fun _ h6 => ?_
  refine f_fold (fun (s : Int) => [.fz (enc prime), .fz (enc numbers), .fz (enc s), .cf]) (fun _ _ => tg_n) ?_ ?_ h6 
  · rintro number result _ h14
    try dsimp only [List.set_cons_zero, List.set_cons_succ] at h14 ⊢
    refine c_set ?_
    refine c_op ?_
    refine c_pure h14 (p_int (p_fz rfl) (p_fz rfl)) fun r15 k16 => ?_
    refine c_op2 ?_
    refine c_pure h14 (p_fz rfl) fun r17 k18 => ?_
    refine f_mod h14 k16 k18 (kk := fun t19 => ?_)
    refine f_setL (v := (t19 : Int)) (fun v => .fz (enc v)) h14 rk_f .f (by decide) fun result _ h20 => ?_
    try dsimp only [List.set_cons_zero, List.set_cons_succ] at h20
    exact f_jc h20 
  rintro result _ h22
  try dsimp only [List.set_cons_zero, List.set_cons_succ] at h22 ⊢
  refine c_nx ?_
  refine c_ret ?_
  refine c_pure h22 (p_fz rfl) fun r23 k24 => ?_
  refine f_ret ?_
  exact f_rt h22 k24 .f (.f (.f .nil))
def p_split (prime : Int) (value : Int) (coins : List Int) : Res (List Int) :=
(mapC (fun coin =>
(modR coin prime).bind fun t9 =>
.ok t9) coins).bind fun t10 =>
(Res.ok (t10 : List Int)).bind fun pieces =>
(modR ((value - pieces.sum)) prime).bind fun t19 =>
(appR pieces t19).bind fun pieces =>
.ok pieces
theorem ss_split (prime : Int) (value : Int) (coins : List Int) : FS false (φ_split [.fz (enc prime), .fz (enc value), .fz (enc coins)]) (p_split prime value coins) (fun t => .ol (fzs (encs t))) (fun t => [.fz (enc prime), .fz (enc value), .fz (enc coins)]) := by
  refine fs_mk0 [.fz (enc prime), .fz (enc value), .fz (enc coins), .clr, .clr] rfl (by repeat (first | exact trivial | refine ⟨rfl, ?_⟩)) fun e0 h0 => ?_
  unfold p_split
  unfold d_split
  refine c_seq ?_
  refine c_set ?_
  refine c_comp ?_
  refine c_it ?_
  refine c_pure h0 (p_fz rfl) fun r1 k2 => ?_
  refine f_it (xs := coins) h0 k2 .f fun _ h3 => ?_
  refine f_mapC (ψ := Int) h3 (fun _ => tg_n) ?_ fun t10 r11 _ k12 h13 => ?_
  · rintro coin _ h4
    try dsimp only [List.set_cons_zero, List.set_cons_succ, wipeS] at h4 ⊢
    refine c_op ?_
    refine c_pure h4 (p_fz rfl) fun r5 k6 => ?_
    refine c_op2 ?_
    refine c_pure h4 (p_fz rfl) fun r7 k8 => ?_
    refine f_mod h4 k6 k8 (kk := fun t9 => ?_)
    exact f_el (v := t9) h4 rk_f 
  refine f_setL (v := (t10 : List Int)) (fun v => .ol (encs v)) h13 k12 .w (by decide) fun pieces _ h14 => ?_
  try dsimp only [List.set_cons_zero, List.set_cons_succ] at h14
  refine c_nx ?_
  refine c_seq ?_
  refine c_drop ?_
  refine c_app (ds := encs pieces) h14 rfl ?_
  refine c_op ?_
  refine c_pure h14 (p_int (p_fz rfl) (p_sum (p_ol rfl))) fun r15 k16 => ?_
  refine c_op2 ?_
  refine c_pure h14 (p_fz rfl) fun r17 k18 => ?_
  refine f_mod h14 k16 k18 (kk := fun t19 => ?_)
  refine f_app (xs := pieces) (v := t19) h14 rk_f .f rfl fun pieces r20 _ k21 h22 => ?_
  try dsimp only [List.set_cons_zero, List.set_cons_succ] at h22
  refine f_drop ?_
  refine c_nx ?_
  refine c_ret ?_
  refine c_pure h22 (p_ol rfl) fun r23 k24 => ?_
  refine f_ret ?_
  exact f_rt h22 k24 (.v rfl (by decide)) (.f (.f (.f .nil)))
def p_outsiders (mixers : Int) (holders : List Int) : Res (List Int) :=
(rng1R mixers).bind fun xs3 =>
(filC (fun mixer =>
if (decide (mixer ∉ holders)) = true then
.ok (some mixer)
else .ok none) xs3).bind fun t7 =>
.ok t7
theorem ss_outsiders (mixers : Int) (holders : List Int) : FS false (φ_outsiders [.fz (enc mixers), .fz (enc holders)]) (p_outsiders mixers holders) (fun t => .ol (fzs (encs t))) (fun t => [.fz (enc mixers), .fz (enc holders)]) := by
  refine fs_mk0 [.fz (enc mixers), .fz (enc holders), .clr] rfl (by repeat (first | exact trivial | refine ⟨rfl, ?_⟩)) fun e0 h0 => ?_
  unfold p_outsiders
  unfold d_outsiders
  refine c_ret ?_
  refine c_comp ?_
  refine c_rng1 ?_
  refine c_pureA h0 (pa_cons' (p_fz rfl) pa_nil') fun r1 k2 => ?_
  refine f_rng1' h0 k2 fun xs3 => ?_
  refine f_filC (ψ := Int) h0 (fun _ => tg_n) ?_ fun t7 r8 _ k9 h10 => ?_
  · rintro mixer _ h4
    try dsimp only [List.set_cons_zero, List.set_cons_succ, wipeS] at h4 ⊢
    refine c_pureB h4 (b_t (p_notIn (x := mixer) (xs := holders) (p_fz rfl) (p_fz rfl))) ?_
    refine f_cmp' (fun _ => ?_) (fun _ => ?_)
    · refine c_pure h4 (p_fz rfl) fun r5 k6 => ?_
      exact f_elo (v := mixer) h4 k6 
    · exact f_elno h4 
  refine f_ret ?_
  exact f_rt h10 k9 .w (.f (.f .nil))
def p_gathered_pieces (prime : Int) (table : List (List Int)) (others : List Int) (coins : List (List (List Int))) : Res (List (List (List Int))) :=
(Res.ok (([] : List (List (List Int))) : List (List (List Int)))).bind fun pieces =>
(foldR (fun (mixer, rows) pieces =>
(mapC (fun (row, line) =>
(geti row mixer).bind fun t42 =>
(p_split prime t42 line).bind fun t45 =>
.ok t45) (table.zip rows)).bind fun t49 =>
(appR pieces t49).bind fun pieces =>
.ok pieces) (others.zip coins) pieces).bind fun pieces =>
.ok pieces
theorem ss_gathered_pieces (prime : Int) (table : List (List Int)) (others : List Int) (coins : List (List (List Int))) : FS false (φ_gathered_pieces [.fz (enc prime), .fz (enc table), .fz (enc others), .fz (enc coins)]) (p_gathered_pieces prime table others coins) (fun t => .ol (fzs (encs t))) (fun t => [.fz (enc prime), .fz (enc table), .fz (enc others), .fz (enc coins)]) := by
  refine fs_mk0 [.fz (enc prime), .fz (enc table), .fz (enc others), .fz (enc coins), .clr, .clr, .clr, .clr, .clr] rfl (by repeat (first | exact trivial | refine ⟨rfl, ?_⟩)) fun e0 h0 => ?_
  unfold p_gathered_pieces
  unfold d_gathered_pieces
  refine c_seq ?_
  refine c_set ?_
  refine c_pure h0 (p_lst pa_nil' .nil) fun r1 k2 => ?_
  refine f_setL (v := (([] : List (List (List Int))) : List (List (List Int)))) (fun v => .ol (encs v)) h0 k2 .w (by decide) fun pieces _ h3 => ?_
  try dsimp only [List.set_cons_zero, List.set_cons_succ] at h3
  refine c_nx ?_
  refine c_seq ?_
  refine c_for ?_
  refine c_zip ?_
  refine c_pureA h3 (pa_cons' (p_fz rfl) (pa_cons' (p_fz rfl) pa_nil')) fun r4 k5 => ?_
  refine f_zip' (xs := others) (ys := coins) h3 k5 .f .f fun _ h6 => ?_
  refine f_fold (fun (s : List (List (List Int))) => [.fz (enc prime), .fz (enc table), .fz (enc others), .fz (enc coins), .ol (encs s), .cf, .cf, .clr, .clr]) (fun _ _ => (tg_tup (tgs_co tg_n (tgs_co tg_n tgs_no)))) ?_ ?_ h6 
  · rintro ⟨mixer, rows⟩ pieces _ h31
    try dsimp only [List.set_cons_zero, List.set_cons_succ] at h31 ⊢
    refine c_drop ?_
    refine c_app (ds := encs pieces) h31 rfl ?_
    refine c_comp ?_
    refine c_zip ?_
    refine c_pureA h31 (pa_cons' (p_fz rfl) (pa_cons' (p_fz rfl) pa_nil')) fun r32 k33 => ?_
    refine f_zip' (xs := table) (ys := rows) h31 k33 .f .f fun _ h34 => ?_
    refine f_mapC (ψ := List Int) h34 (fun _ => (tg_tup (tgs_co tg_n (tgs_co tg_n tgs_no)))) ?_ fun t49 r50 _ k51 h52 => ?_
    · rintro ⟨row, line⟩ _ h35
      try dsimp only [List.set_cons_zero, List.set_cons_succ, wipeS] at h35 ⊢
      refine c_call ?_
      refine c_cons ?_
      refine c_pure h35 (p_fz rfl) fun r36 k37 => ?_
      refine c_cons2 ?_
      refine c_cons ?_
      refine c_ix ?_
      refine c_pure h35 (p_fz rfl) fun r38 k39 => ?_
      refine c_ix2 ?_
      refine c_pure h35 (p_fz rfl) fun r40 k41 => ?_
      refine f_ix (xs := row) h35 k39 k41 fun t42 => ?_
      refine c_cons2 ?_
      refine c_cons ?_
      refine c_pure h35 (p_fz rfl) fun r43 k44 => ?_
      refine c_cons2 ?_
      refine c_nil ?_
      refine f_cons ?_
      refine f_cons ?_
      refine f_cons ?_
      refine f_call h35 (rks k37 (rks rk_f (rks k44 rks0))) (.f .f (.f .f (.f .f .nil))) (ss_split prime t42 line) (fun _ => (.f (.f (.f .nil)))) (fun _ => rk_w) fun t45 r46 _ k47 h48 => ?_
      try dsimp only [List.set_cons_zero, List.set_cons_succ] at h48
      exact f_el (v := t45) h48 k47 
    refine f_app (xs := pieces) (v := t49) h52 k51 .w rfl fun pieces r53 _ k54 h55 => ?_
    try dsimp only [List.set_cons_zero, List.set_cons_succ] at h55
    refine f_drop ?_
    exact f_jc h55 
  rintro pieces _ h56
  try dsimp only [List.set_cons_zero, List.set_cons_succ] at h56 ⊢
  refine c_nx ?_
  refine c_ret ?_
  refine c_pure h56 (p_ol rfl) fun r57 k58 => ?_
  refine f_ret ?_
  exact f_rt h56 k58 (.v rfl (by decide)) (.f (.f (.f (.f .nil))))
def p_held_shares (prime : Int) (table : List (List Int)) (holders : List Int) (pieces : List (List (List Int))) : Res (List (List Int)) :=
(Res.ok (([] : List (List Int)) : List (List Int))).bind fun result =>
(foldR (fun (number, row) result =>
(Res.ok (([] : List Int) : List Int)).bind fun line =>
(foldR (fun (place, holder) line =>
(geti row holder).bind fun t146 =>
(mapC (fun rows =>
(geti rows number).bind fun t159 =>
(geti t159 place).bind fun t162 =>
.ok t162) pieces).bind fun t163 =>
(catR (([t146] : List Int)) t163).bind fun t167 =>
(p_total prime t167).bind fun t171 =>
(appR line t171).bind fun line =>
.ok line) (enumL holders) line).bind fun line =>
(appR result line).bind fun result =>
.ok result) (enumL table) result).bind fun result =>
.ok result
theorem ss_held_shares (prime : Int) (table : List (List Int)) (holders : List Int) (pieces : List (List (List Int))) : FS false (φ_held_shares [.fz (enc prime), .fz (enc table), .fz (enc holders), .fz (enc pieces)]) (p_held_shares prime table holders pieces) (fun t => .ol (fzs (encs t))) (fun t => [.fz (enc prime), .fz (enc table), .fz (enc holders), .fz (enc pieces)]) := by
  refine fs_mk0 [.fz (enc prime), .fz (enc table), .fz (enc holders), .fz (enc pieces), .clr, .clr, .clr, .clr, .clr, .clr, .clr] rfl (by repeat (first | exact trivial | refine ⟨rfl, ?_⟩)) fun e0 h0 => ?_
  unfold p_held_shares
  unfold d_held_shares
  refine c_seq ?_
  refine c_set ?_
  refine c_pure h0 (p_lst pa_nil' .nil) fun r1 k2 => ?_
  refine f_setL (v := (([] : List (List Int)) : List (List Int))) (fun v => .ol (encs v)) h0 k2 .w (by decide) fun result _ h3 => ?_
  try dsimp only [List.set_cons_zero, List.set_cons_succ] at h3
  refine c_nx ?_
  refine c_seq ?_
  refine c_for ?_
  refine c_enum ?_
  refine c_pureA h3 (pa_cons' (p_fz rfl) pa_nil') fun r4 k5 => ?_
  refine f_enum' (xs := table) h3 k5 .f fun _ h6 => ?_
  refine f_fold (fun (s : List (List Int)) => [.fz (enc prime), .fz (enc table), .fz (enc holders), .fz (enc pieces), .ol (encs s), .cf, .cf, .cf, .cf, .cf, .clr]) (fun _ _ => (tg_tup (tgs_co tg_n (tgs_co tg_n tgs_no)))) ?_ ?_ h6 
  · rintro ⟨number, row⟩ result _ h95
    try dsimp only [List.set_cons_zero, List.set_cons_succ] at h95 ⊢
    refine c_seq ?_
    refine c_set ?_
    refine c_pure h95 (p_lst pa_nil' .nil) fun r96 k97 => ?_
    refine f_setL (v := (([] : List Int) : List Int)) (fun v => .ol (encs v)) h95 k97 .w (by decide) fun line _ h98 => ?_
    try dsimp only [List.set_cons_zero, List.set_cons_succ] at h98
    refine c_nx ?_
    refine c_seq ?_
    refine c_for ?_
    refine c_enum ?_
    refine c_pureA h98 (pa_cons' (p_fz rfl) pa_nil') fun r99 k100 => ?_
    refine f_enum' (xs := holders) h98 k100 .f fun _ h101 => ?_
    refine f_fold (fun (s : List Int) => [.fz (enc prime), .fz (enc table), .fz (enc holders), .fz (enc pieces), .ol (encs result), .fz (enc number), .fz (enc row), .ol (encs s), .cf, .cf, .clr]) (fun _ _ => (tg_tup (tgs_co tg_n (tgs_co tg_n tgs_no)))) ?_ ?_ h101 
    · rintro ⟨place, holder⟩ line _ h139
      try dsimp only [List.set_cons_zero, List.set_cons_succ] at h139 ⊢
      refine c_drop ?_
      refine c_app (ds := encs line) h139 rfl ?_
      refine c_callB ?_
      refine c_cons ?_
      refine c_pure h139 (p_fz rfl) fun r140 k141 => ?_
      refine c_cons2 ?_
      refine c_cons ?_
      refine c_addL ?_
      refine c_lst ?_
      refine c_cons ?_
      refine c_ix ?_
      refine c_pure h139 (p_fz rfl) fun r142 k143 => ?_
      refine c_ix2 ?_
      refine c_pure h139 (p_fz rfl) fun r144 k145 => ?_
      refine f_ix (xs := row) h139 k143 k145 fun t146 => ?_
      refine c_cons2 ?_
      refine c_nil ?_
      refine f_cons ?_
      refine f_lst h139 (rks rk_f rks0) (.cons .f .nil) (Nat.le_of_ble_eq_true rfl) fun r147 _ k148 h149 => ?_
      refine f_addL1 (xs := ([t146] : List Int)) h149 k148 .w fun _ h150 => ?_
      refine c_comp ?_
      refine c_it ?_
      refine c_pure h150 (p_fz rfl) fun r151 k152 => ?_
      refine f_it (xs := pieces) h150 k152 .f fun _ h153 => ?_
      refine f_mapC (ψ := Int) h153 (fun _ => tg_n) ?_ fun t163 r164 _ k165 h166 => ?_
      · rintro rows _ h154
        try dsimp only [List.set_cons_zero, List.set_cons_succ, wipeS] at h154 ⊢
        refine c_ix ?_
        refine c_ix ?_
        refine c_pure h154 (p_fz rfl) fun r155 k156 => ?_
        refine c_ix2 ?_
        refine c_pure h154 (p_fz rfl) fun r157 k158 => ?_
        refine f_ix (xs := rows) h154 k156 k158 fun t159 => ?_
        refine c_ix2 ?_
        refine c_pure h154 (p_fz rfl) fun r160 k161 => ?_
        refine f_ix (xs := t159) h154 rk_f k161 fun t162 => ?_
        exact f_el (v := t162) h154 rk_f 
      refine f_addL2 h166 k165 .w fun t167 r168 _ k169 h170 => ?_
      refine c_cons2 ?_
      refine c_nil ?_
      refine f_cons ?_
      refine f_cons ?_
      refine f_callB h170 (rks k141 (rks k169 rks0)) (.cons .f (.cons .w .nil)) rfl (ss_total prime t167) imm_I fun t171 r172 k173 => ?_
      refine f_app (xs := line) (v := t171) h170 k173 .f rfl fun line r174 _ k175 h176 => ?_
      try dsimp only [List.set_cons_zero, List.set_cons_succ] at h176
      refine f_drop ?_
      exact f_jc h176 
    rintro line _ h177
    try dsimp only [List.set_cons_zero, List.set_cons_succ] at h177 ⊢
    refine c_nx ?_
    refine c_drop ?_
    refine c_app (ds := encs result) h177 rfl ?_
    refine c_pure h177 (p_ol rfl) fun r178 k179 => ?_
    refine f_app (xs := result) (v := line) h177 k179 (.v rfl) rfl fun result r180 _ k181 h182 => ?_
    try dsimp only [List.set_cons_zero, List.set_cons_succ] at h182
    refine f_drop ?_
    exact f_jc h182 
  rintro result _ h184
  try dsimp only [List.set_cons_zero, List.set_cons_succ] at h184 ⊢
  refine c_nx ?_
  refine c_ret ?_
  refine c_pure h184 (p_ol rfl) fun r185 k186 => ?_
  refine f_ret ?_
  exact f_rt h184 k186 (.v rfl (by decide)) (.f (.f (.f (.f .nil))))
def p_spread_pieces (prime : Int) (ordered : List (List Int)) (many : Int) (coins : List (List (List Int))) : Res (List (List (List Int))) :=
(Res.ok (([] : List (List (List Int))) : List (List (List Int)))).bind fun pieces =>
(rng1R many).bind fun xs6 =>
(foldR (fun place pieces =>
(geti coins place).bind fun t43 =>
(mapC (fun (row, line) =>
(geti row place).bind fun t52 =>
(p_split prime t52 line).bind fun t55 =>
.ok t55) (ordered.zip t43)).bind fun t59 =>
(appR pieces t59).bind fun pieces =>
.ok pieces) xs6 pieces).bind fun pieces =>
.ok pieces
theorem ss_spread_pieces (prime : Int) (ordered : List (List Int)) (many : Int) (coins : List (List (List Int))) : FS false (φ_spread_pieces [.fz (enc prime), .fz (enc ordered), .fz (enc many), .fz (enc coins)]) (p_spread_pieces prime ordered many coins) (fun t => .ol (fzs (encs t))) (fun t => [.fz (enc prime), .fz (enc ordered), .fz (enc many), .fz (enc coins)]) := by
  refine fs_mk0 [.fz (enc prime), .fz (enc ordered), .fz (enc many), .fz (enc coins), .clr, .clr, .clr, .clr] rfl (by repeat (first | exact trivial | refine ⟨rfl, ?_⟩)) fun e0 h0 => ?_
  unfold p_spread_pieces
  unfold d_spread_pieces
  refine c_seq ?_
  refine c_set ?_
  refine c_pure h0 (p_lst pa_nil' .nil) fun r1 k2 => ?_
  refine f_setL (v := (([] : List (List (List Int))) : List (List (List Int)))) (fun v => .ol (encs v)) h0 k2 .w (by decide) fun pieces _ h3 => ?_
  try dsimp only [List.set_cons_zero, List.set_cons_succ] at h3
  refine c_nx ?_
  refine c_seq ?_
  refine c_for ?_
  refine c_rng1 ?_
  refine c_pureA h3 (pa_cons' (p_fz rfl) pa_nil') fun r4 k5 => ?_
  refine f_rng1' h3 k5 fun xs6 => ?_
  refine f_fold (fun (s : List (List (List Int))) => [.fz (enc prime), .fz (enc ordered), .fz (enc many), .fz (enc coins), .ol (encs s), .cf, .clr, .clr]) (fun _ _ => tg_n) ?_ ?_ h3 
  · rintro place pieces _ h36
    try dsimp only [List.set_cons_zero, List.set_cons_succ] at h36 ⊢
    refine c_drop ?_
    refine c_app (ds := encs pieces) h36 rfl ?_
    refine c_comp ?_
    refine c_zip ?_
    refine c_cons ?_
    refine c_pure h36 (p_fz rfl) fun r37 k38 => ?_
    refine c_cons2 ?_
    refine c_cons ?_
    refine c_ix ?_
    refine c_pure h36 (p_fz rfl) fun r39 k40 => ?_
    refine c_ix2 ?_
    refine c_pure h36 (p_fz rfl) fun r41 k42 => ?_
    refine f_ix (xs := coins) h36 k40 k42 fun t43 => ?_
    refine c_cons2 ?_
    refine c_nil ?_
    refine f_cons ?_
    refine f_cons ?_
    refine f_zip' (xs := ordered) (ys := t43) h36 (rks k38 (rks rk_f rks0)) .f .f fun _ h44 => ?_
    refine f_mapC (ψ := List Int) h44 (fun _ => (tg_tup (tgs_co tg_n (tgs_co tg_n tgs_no)))) ?_ fun t59 r60 _ k61 h62 => ?_
    · rintro ⟨row, line⟩ _ h45
      try dsimp only [List.set_cons_zero, List.set_cons_succ, wipeS] at h45 ⊢
      refine c_call ?_
      refine c_cons ?_
      refine c_pure h45 (p_fz rfl) fun r46 k47 => ?_
      refine c_cons2 ?_
      refine c_cons ?_
      refine c_ix ?_
      refine c_pure h45 (p_fz rfl) fun r48 k49 => ?_
      refine c_ix2 ?_
      refine c_pure h45 (p_fz rfl) fun r50 k51 => ?_
      refine f_ix (xs := row) h45 k49 k51 fun t52 => ?_
      refine c_cons2 ?_
      refine c_cons ?_
      refine c_pure h45 (p_fz rfl) fun r53 k54 => ?_
      refine c_cons2 ?_
      refine c_nil ?_
      refine f_cons ?_
      refine f_cons ?_
      refine f_cons ?_
      refine f_call h45 (rks k47 (rks rk_f (rks k54 rks0))) (.f .f (.f .f (.f .f .nil))) (ss_split prime t52 line) (fun _ => (.f (.f (.f .nil)))) (fun _ => rk_w) fun t55 r56 _ k57 h58 => ?_
      try dsimp only [List.set_cons_zero, List.set_cons_succ] at h58
      exact f_el (v := t55) h58 k57 
    refine f_app (xs := pieces) (v := t59) h62 k61 .w rfl fun pieces r63 _ k64 h65 => ?_
    try dsimp only [List.set_cons_zero, List.set_cons_succ] at h65
    refine f_drop ?_
    exact f_jc h65 
  rintro pieces _ h66
  try dsimp only [List.set_cons_zero, List.set_cons_succ] at h66 ⊢
  refine c_nx ?_
  refine c_ret ?_
  refine c_pure h66 (p_ol rfl) fun r67 k68 => ?_
  refine f_ret ?_
  exact f_rt h66 k68 (.v rfl (by decide)) (.f (.f (.f (.f .nil))))
def p_new_table (prime : Int) (pieces : List (List (List Int))) (mixers : Int) (rows : Int) : Res (List (List Int)) :=
(Res.ok (([] : List (List Int)) : List (List Int))).bind fun table =>
(rng1R rows).bind fun xs6 =>
(foldR (fun number table =>
(Res.ok (([] : List Int) : List Int)).bind fun line =>
(rng1R mixers).bind fun xs75 =>
(foldR (fun mixer line =>
(mapC (fun row =>
(geti row number).bind fun t111 =>
(geti t111 mixer).bind fun t114 =>
.ok t114) pieces).bind fun t115 =>
(p_total prime t115).bind fun t119 =>
(appR line t119).bind fun line =>
.ok line) xs75 line).bind fun line =>
(appR table line).bind fun table =>
.ok table) xs6 table).bind fun table =>
.ok table
theorem ss_new_table (prime : Int) (pieces : List (List (List Int))) (mixers : Int) (rows : Int) : FS false (φ_new_table [.fz (enc prime), .fz (enc pieces), .fz (enc mixers), .fz (enc rows)]) (p_new_table prime pieces mixers rows) (fun t => .ol (fzs (encs t))) (fun t => [.fz (enc prime), .fz (enc pieces), .fz (enc mixers), .fz (enc rows)]) := by
  refine fs_mk0 [.fz (enc prime), .fz (enc pieces), .fz (enc mixers), .fz (enc rows), .clr, .clr, .clr, .clr, .clr] rfl (by repeat (first | exact trivial | refine ⟨rfl, ?_⟩)) fun e0 h0 => ?_
  unfold p_new_table
  unfold d_new_table
  refine c_seq ?_
  refine c_set ?_
  refine c_pure h0 (p_lst pa_nil' .nil) fun r1 k2 => ?_
  refine f_setL (v := (([] : List (List Int)) : List (List Int))) (fun v => .ol (encs v)) h0 k2 .w (by decide) fun table _ h3 => ?_
  try dsimp only [List.set_cons_zero, List.set_cons_succ] at h3
  refine c_nx ?_
  refine c_seq ?_
  refine c_for ?_
  refine c_rng1 ?_
  refine c_pureA h3 (pa_cons' (p_fz rfl) pa_nil') fun r4 k5 => ?_
  refine f_rng1' h3 k5 fun xs6 => ?_
  refine f_fold (fun (s : List (List Int)) => [.fz (enc prime), .fz (enc pieces), .fz (enc mixers), .fz (enc rows), .ol (encs s), .cf, .cf, .cf, .clr]) (fun _ _ => tg_n) ?_ ?_ h3 
  · rintro number table _ h69
    try dsimp only [List.set_cons_zero, List.set_cons_succ] at h69 ⊢
    refine c_seq ?_
    refine c_set ?_
    refine c_pure h69 (p_lst pa_nil' .nil) fun r70 k71 => ?_
    refine f_setL (v := (([] : List Int) : List Int)) (fun v => .ol (encs v)) h69 k71 .w (by decide) fun line _ h72 => ?_
    try dsimp only [List.set_cons_zero, List.set_cons_succ] at h72
    refine c_nx ?_
    refine c_seq ?_
    refine c_for ?_
    refine c_rng1 ?_
    refine c_pureA h72 (pa_cons' (p_fz rfl) pa_nil') fun r73 k74 => ?_
    refine f_rng1' h72 k74 fun xs75 => ?_
    refine f_fold (fun (s : List Int) => [.fz (enc prime), .fz (enc pieces), .fz (enc mixers), .fz (enc rows), .ol (encs table), .fz (enc number), .ol (encs s), .cf, .clr]) (fun _ _ => tg_n) ?_ ?_ h72 
    · rintro mixer line _ h100
      try dsimp only [List.set_cons_zero, List.set_cons_succ] at h100 ⊢
      refine c_drop ?_
      refine c_app (ds := encs line) h100 rfl ?_
      refine c_callB ?_
      refine c_cons ?_
      refine c_pure h100 (p_fz rfl) fun r101 k102 => ?_
      refine c_cons2 ?_
      refine c_cons ?_
      refine c_comp ?_
      refine c_it ?_
      refine c_pure h100 (p_fz rfl) fun r103 k104 => ?_
      refine f_it (xs := pieces) h100 k104 .f fun _ h105 => ?_
      refine f_mapC (ψ := Int) h105 (fun _ => tg_n) ?_ fun t115 r116 _ k117 h118 => ?_
      · rintro row _ h106
        try dsimp only [List.set_cons_zero, List.set_cons_succ, wipeS] at h106 ⊢
        refine c_ix ?_
        refine c_ix ?_
        refine c_pure h106 (p_fz rfl) fun r107 k108 => ?_
        refine c_ix2 ?_
        refine c_pure h106 (p_fz rfl) fun r109 k110 => ?_
        refine f_ix (xs := row) h106 k108 k110 fun t111 => ?_
        refine c_ix2 ?_
        refine c_pure h106 (p_fz rfl) fun r112 k113 => ?_
        refine f_ix (xs := t111) h106 rk_f k113 fun t114 => ?_
        exact f_el (v := t114) h106 rk_f 
      refine c_cons2 ?_
      refine c_nil ?_
      refine f_cons ?_
      refine f_cons ?_
      refine f_callB h118 (rks k102 (rks k117 rks0)) (.cons .f (.cons .w .nil)) rfl (ss_total prime t115) imm_I fun t119 r120 k121 => ?_
      refine f_app (xs := line) (v := t119) h118 k121 .f rfl fun line r122 _ k123 h124 => ?_
      try dsimp only [List.set_cons_zero, List.set_cons_succ] at h124
      refine f_drop ?_
      exact f_jc h124 
    rintro line _ h125
    try dsimp only [List.set_cons_zero, List.set_cons_succ] at h125 ⊢
    refine c_nx ?_
    refine c_drop ?_
    refine c_app (ds := encs table) h125 rfl ?_
    refine c_pure h125 (p_ol rfl) fun r126 k127 => ?_
    refine f_app (xs := table) (v := line) h125 k127 (.v rfl) rfl fun table r128 _ k129 h130 => ?_
    try dsimp only [List.set_cons_zero, List.set_cons_succ] at h130
    refine f_drop ?_
    exact f_jc h130 
  rintro table _ h132
  try dsimp only [List.set_cons_zero, List.set_cons_succ] at h132 ⊢
  refine c_nx ?_
  refine c_ret ?_
  refine c_pure h132 (p_ol rfl) fun r133 k134 => ?_
  refine f_ret ?_
  exact f_rt h132 k134 (.v rfl (by decide)) (.f (.f (.f (.f .nil))))
def p__law_prime (box : Bx) : Res (Int × Bx) :=
(p__law_draw box 12).bind fun (t5, box) =>
(geti (([2, 3, 5, 7, 11, 13, 17, 19, 23, 97, 101, 997] : List Int)) t5).bind fun t9 =>
.ok (t9, box)
theorem ss__law_prime (box : Bx) : FS false (φ__law_prime [.ol (fzs (boxD box))]) (p__law_prime box) (fun t => .fz (enc t.1)) (fun t => [.ol (fzs (boxD t.2))]) := by
  refine fs_mk0 [.ol (boxD box)] rfl (by repeat (first | exact trivial | refine ⟨rfl, ?_⟩)) fun e0 h0 => ?_
  unfold p__law_prime
  unfold d__law_prime
  refine c_ret ?_
  refine c_ix ?_
  refine c_pure h0 (p_lst (pa_cons' (p_c) (pa_cons' (p_c) (pa_cons' (p_c) (pa_cons' (p_c) (pa_cons' (p_c) (pa_cons' (p_c) (pa_cons' (p_c) (pa_cons' (p_c) (pa_cons' (p_c) (pa_cons' (p_c) (pa_cons' (p_c) (pa_cons' (p_c) pa_nil')))))))))))) (.cons .f (.cons .f (.cons .f (.cons .f (.cons .f (.cons .f (.cons .f (.cons .f (.cons .f (.cons .f (.cons .f (.cons .f .nil))))))))))))) fun r1 k2 => ?_
  refine c_ix2 ?_
  refine c_call ?_
  refine c_pureA h0 (pa_cons' (p_ol rfl) (pa_cons' (p_c) pa_nil')) fun r3 k4 => ?_
  refine f_call h0 k4 (.t rfl (.f .f .nil)) (ss__law_draw box 12) (fun _ => (.t rfl (.f .nil))) (fun _ => rk_f) ?_
  rintro ⟨t5, box⟩ r6 _ k7 h8
  try dsimp only [List.set_cons_zero, List.set_cons_succ] at h8 ⊢
  refine f_ix (xs := ([2, 3, 5, 7, 11, 13, 17, 19, 23, 97, 101, 997] : List Int)) h8 k2 k7 fun t9 => ?_
  refine f_ret ?_
  exact f_rt h8 rk_f .f (.t rfl .nil)
def p__law_numbers (box : Bx) (many : Int) : Res (List Int × Bx) :=
(Res.ok (([] : List Int) : List Int)).bind fun numbersH =>
(rng1R many).bind fun xs6 =>
(foldR (fun k' (box, numbersH) =>
(p__law_draw box 1000).bind fun (t29, box) =>
(p__law_draw box 1000).bind fun (t37, box) =>
(appR numbersH ((((t29 * 1000) + t37) - 300))).bind fun numbersH =>
.ok (box, numbersH)) xs6 (box, numbersH)).bind fun (box, numbersH) =>
.ok (numbersH, box)
theorem ss__law_numbers (box : Bx) (many : Int) : FS false (φ__law_numbers [.ol (fzs (boxD box)), .fz (enc many)]) (p__law_numbers box many) (fun t => .ol (fzs (encs t.1))) (fun t => [.ol (fzs (boxD t.2)), .fz (enc many)]) := by
  refine fs_mk0 [.ol (boxD box), .fz (enc many), .clr, .clr] rfl (by repeat (first | exact trivial | refine ⟨rfl, ?_⟩)) fun e0 h0 => ?_
  unfold p__law_numbers
  unfold d__law_numbers
  refine c_seq ?_
  refine c_set ?_
  refine c_pure h0 (p_lst pa_nil' .nil) fun r1 k2 => ?_
  refine f_setL (v := (([] : List Int) : List Int)) (fun v => .ol (encs v)) h0 k2 .w (by decide) fun numbersH _ h3 => ?_
  try dsimp only [List.set_cons_zero, List.set_cons_succ] at h3
  refine c_nx ?_
  refine c_seq ?_
  refine c_for ?_
  refine c_rng1 ?_
  refine c_pureA h3 (pa_cons' (p_fz rfl) pa_nil') fun r4 k5 => ?_
  refine f_rng1' h3 k5 fun xs6 => ?_
  refine f_fold (fun (s : Bx × List Int) => [.ol (boxD s.1), .fz (enc many), .ol (encs s.2), .cf]) (fun _ _ => tg_n) ?_ ?_ h3 
  · rintro k' ⟨box, numbersH⟩ _ h26
    try dsimp only [List.set_cons_zero, List.set_cons_succ] at h26 ⊢
    refine c_drop ?_
    refine c_app (ds := encs numbersH) h26 rfl ?_
    refine c_op ?_
    refine c_op ?_
    refine c_op ?_
    refine c_call ?_
    refine c_pureA h26 (pa_cons' (p_ol rfl) (pa_cons' (p_c) pa_nil')) fun r27 k28 => ?_
    refine f_call h26 k28 (.t rfl (.f .f .nil)) (ss__law_draw box 1000) (fun _ => (.t rfl (.f .nil))) (fun _ => rk_f) ?_
    rintro ⟨t29, box⟩ r30 _ k31 h32
    try dsimp only [List.set_cons_zero, List.set_cons_succ] at h32 ⊢
    refine c_op2 ?_
    refine c_pure h32 (p_c) fun r33 k34 => ?_
    refine f_mulR h32 k31 k34 ?_
    refine c_op2 ?_
    refine c_call ?_
    refine c_pureA h32 (pa_cons' (p_ol rfl) (pa_cons' (p_c) pa_nil')) fun r35 k36 => ?_
    refine f_call h32 k36 (.t rfl (.f .f .nil)) (ss__law_draw box 1000) (fun _ => (.t rfl (.f .nil))) (fun _ => rk_f) ?_
    rintro ⟨t37, box⟩ r38 _ k39 h40
    try dsimp only [List.set_cons_zero, List.set_cons_succ] at h40 ⊢
    refine f_int h40 rk_f k39 (kk := ?_)
    refine c_op2 ?_
    refine c_pure h40 (p_c) fun r41 k42 => ?_
    refine f_int h40 rk_f k42 (kk := ?_)
    refine f_app (xs := numbersH) (v := (((t29 * 1000) + t37) - 300)) h40 rk_f .f rfl fun numbersH r43 _ k44 h45 => ?_
    try dsimp only [List.set_cons_zero, List.set_cons_succ] at h45
    refine f_drop ?_
    exact f_jc h45 
  rintro ⟨box, numbersH⟩ _ h46
  try dsimp only [List.set_cons_zero, List.set_cons_succ] at h46 ⊢
  refine c_nx ?_
  refine c_ret ?_
  refine c_pure h46 (p_ol rfl) fun r47 k48 => ?_
  refine f_ret ?_
  exact f_rt h46 k48 (.v rfl (by decide)) (.t rfl (.f .nil))
def p__law_order (box : Bx) (many : Int) : Res (List Int × Bx) :=
(rng1R many).bind fun xs3 =>
(mapC (fun k' =>
.ok k') xs3).bind fun t7 =>
(Res.ok (t7 : List Int)).bind fun left =>
(Res.ok (([] : List Int) : List Int)).bind fun orderH =>
(rng1R many).bind fun xs17 =>
(foldR (fun k' (box, left, orderH) =>
(p__law_draw box 1000).bind fun (t37, box) =>
(modR t37 ((left.length : Int))).bind fun t43 =>
(popR left t43).bind fun (t44, left) =>
(appR orderH t44).bind fun orderH =>
.ok (box, left, orderH)) xs17 (box, left, orderH)).bind fun (box, left, orderH) =>
.ok (orderH, box)
theorem ss__law_order (box : Bx) (many : Int) : FS false (φ__law_order [.ol (fzs (boxD box)), .fz (enc many)]) (p__law_order box many) (fun t => .ol (fzs (encs t.1))) (fun t => [.ol (fzs (boxD t.2)), .fz (enc many)]) := by
  refine fs_mk0 [.ol (boxD box), .fz (enc many), .clr, .clr, .clr] rfl (by repeat (first | exact trivial | refine ⟨rfl, ?_⟩)) fun e0 h0 => ?_
  unfold p__law_order
  unfold d__law_order
  refine c_seq ?_
  refine c_set ?_
  refine c_comp ?_
  refine c_rng1 ?_
  refine c_pureA h0 (pa_cons' (p_fz rfl) pa_nil') fun r1 k2 => ?_
  refine f_rng1' h0 k2 fun xs3 => ?_
  refine f_mapC (ψ := Int) h0 (fun _ => tg_n) ?_ fun t7 r8 _ k9 h10 => ?_
  · rintro k' _ h4
    try dsimp only [List.set_cons_zero, List.set_cons_succ, wipeS] at h4 ⊢
    refine c_pure h4 (p_fz rfl) fun r5 k6 => ?_
    exact f_el (v := k') h4 k6 
  refine f_setL (v := (t7 : List Int)) (fun v => .ol (encs v)) h10 k9 .w (by decide) fun left _ h11 => ?_
  try dsimp only [List.set_cons_zero, List.set_cons_succ] at h11
  refine c_nx ?_
  refine c_seq ?_
  refine c_set ?_
  refine c_pure h11 (p_lst pa_nil' .nil) fun r12 k13 => ?_
  refine f_setL (v := (([] : List Int) : List Int)) (fun v => .ol (encs v)) h11 k13 .w (by decide) fun orderH _ h14 => ?_
  try dsimp only [List.set_cons_zero, List.set_cons_succ] at h14
  refine c_nx ?_
  refine c_seq ?_
  refine c_for ?_
  refine c_rng1 ?_
  refine c_pureA h14 (pa_cons' (p_fz rfl) pa_nil') fun r15 k16 => ?_
  refine f_rng1' h14 k16 fun xs17 => ?_
  refine f_fold (fun (s : Bx × List Int × List Int) => [.ol (boxD s.1), .fz (enc many), .ol (encs s.2.1), .ol (encs s.2.2), .cf]) (fun _ _ => tg_n) ?_ ?_ h14 
  · rintro k' ⟨box, left, orderH⟩ _ h34
    try dsimp only [List.set_cons_zero, List.set_cons_succ] at h34 ⊢
    refine c_drop ?_
    refine c_app (ds := encs orderH) h34 rfl ?_
    refine c_pop (ds := encs left) h34 rfl ?_
    refine c_op ?_
    refine c_cb ?_
    refine c_cons ?_
    refine c_call ?_
    refine c_pureA h34 (pa_cons' (p_ol rfl) (pa_cons' (p_c) pa_nil')) fun r35 k36 => ?_
    refine f_call h34 k36 (.t rfl (.f .f .nil)) (ss__law_draw box 1000) (fun _ => (.t rfl (.f .nil))) (fun _ => rk_f) ?_
    rintro ⟨t37, box⟩ r38 _ k39 h40
    try dsimp only [List.set_cons_zero, List.set_cons_succ] at h40 ⊢
    refine c_cons2 ?_
    refine c_nil ?_
    refine f_cons ?_
    refine f_toInt h40 k39 ?_
    refine c_op2 ?_
    refine c_pure h40 (p_len (p_ol rfl)) fun r41 k42 => ?_
    refine f_mod h40 rk_f k42 (kk := fun t43 => ?_)
    refine f_pop (xs := left) h40 rk_f rfl fun t44 left r45 _ k46 h47 => ?_
    try dsimp only [List.set_cons_zero, List.set_cons_succ] at h47
    refine f_app (xs := orderH) (v := t44) h47 k46 .f rfl fun orderH r48 _ k49 h50 => ?_
    try dsimp only [List.set_cons_zero, List.set_cons_succ] at h50
    refine f_drop ?_
    exact f_jc h50 
  rintro ⟨box, left, orderH⟩ _ h51
  try dsimp only [List.set_cons_zero, List.set_cons_succ] at h51 ⊢
  refine c_nx ?_
  refine c_ret ?_
  refine c_pure h51 (p_ol rfl) fun r52 k53 => ?_
  refine f_ret ?_
  exact f_rt h51 k53 (.v rfl (by decide)) (.t rfl (.f .nil))
def p__law_pieces (primeH : Int) (value : Int) (coins : List Int) : Res (List Int) :=
(mapC (fun coin =>
(modR coin primeH).bind fun t9 =>
.ok t9) coins).bind fun t10 =>
(Res.ok (t10 : List Int)).bind fun piecesH =>
(modR ((value - piecesH.sum)) primeH).bind fun t19 =>
(appR piecesH t19).bind fun piecesH =>
.ok piecesH
theorem ss__law_pieces (primeH : Int) (value : Int) (coins : List Int) : FS false (φ__law_pieces [.fz (enc primeH), .fz (enc value), .fz (enc coins)]) (p__law_pieces primeH value coins) (fun t => .ol (fzs (encs t))) (fun t => [.fz (enc primeH), .fz (enc value), .fz (enc coins)]) := by
  refine fs_mk0 [.fz (enc primeH), .fz (enc value), .fz (enc coins), .clr, .clr] rfl (by repeat (first | exact trivial | refine ⟨rfl, ?_⟩)) fun e0 h0 => ?_
  unfold p__law_pieces
  unfold d__law_pieces
  refine c_seq ?_
  refine c_set ?_
  refine c_comp ?_
  refine c_it ?_
  refine c_pure h0 (p_fz rfl) fun r1 k2 => ?_
  refine f_it (xs := coins) h0 k2 .f fun _ h3 => ?_
  refine f_mapC (ψ := Int) h3 (fun _ => tg_n) ?_ fun t10 r11 _ k12 h13 => ?_
  · rintro coin _ h4
    try dsimp only [List.set_cons_zero, List.set_cons_succ, wipeS] at h4 ⊢
    refine c_op ?_
    refine c_pure h4 (p_toInt (p_fz rfl)) fun r5 k6 => ?_
    refine c_op2 ?_
    refine c_pure h4 (p_fz rfl) fun r7 k8 => ?_
    refine f_mod h4 k6 k8 (kk := fun t9 => ?_)
    exact f_el (v := t9) h4 rk_f 
  refine f_setL (v := (t10 : List Int)) (fun v => .ol (encs v)) h13 k12 .w (by decide) fun piecesH _ h14 => ?_
  try dsimp only [List.set_cons_zero, List.set_cons_succ] at h14
  refine c_nx ?_
  refine c_seq ?_
  refine c_drop ?_
  refine c_app (ds := encs piecesH) h14 rfl ?_
  refine c_op ?_
  refine c_pure h14 (p_toInt (p_int (p_fz rfl) (p_sum (p_ol rfl)))) fun r15 k16 => ?_
  refine c_op2 ?_
  refine c_pure h14 (p_fz rfl) fun r17 k18 => ?_
  refine f_mod h14 k16 k18 (kk := fun t19 => ?_)
  refine f_app (xs := piecesH) (v := t19) h14 rk_f .f rfl fun piecesH r20 _ k21 h22 => ?_
  try dsimp only [List.set_cons_zero, List.set_cons_succ] at h22
  refine f_drop ?_
  refine c_nx ?_
  refine c_ret ?_
  refine c_pure h22 (p_ol rfl) fun r23 k24 => ?_
  refine f_ret ?_
  exact f_rt h22 k24 (.v rfl (by decide)) (.f (.f (.f .nil)))
def p__law_sums (primeH : Int) (rows : List (List Int)) : Res (List Int) :=
(mapC (fun row =>
(modR row.sum primeH).bind fun t9 =>
.ok t9) rows).bind fun t10 =>
.ok t10
theorem ss__law_sums (primeH : Int) (rows : List (List Int)) : FS false (φ__law_sums [.fz (enc primeH), .fz (enc rows)]) (p__law_sums primeH rows) (fun t => .ol (fzs (encs t))) (fun t => [.fz (enc primeH), .fz (enc rows)]) := by
  refine fs_mk0 [.fz (enc primeH), .fz (enc rows), .clr] rfl (by repeat (first | exact trivial | refine ⟨rfl, ?_⟩)) fun e0 h0 => ?_
  unfold p__law_sums
  unfold d__law_sums
  refine c_ret ?_
  refine c_comp ?_
  refine c_it ?_
  refine c_pure h0 (p_fz rfl) fun r1 k2 => ?_
  refine f_it (xs := rows) h0 k2 .f fun _ h3 => ?_
  refine f_mapC (ψ := Int) h3 (fun _ => tg_n) ?_ fun t10 r11 _ k12 h13 => ?_
  · rintro row _ h4
    try dsimp only [List.set_cons_zero, List.set_cons_succ, wipeS] at h4 ⊢
    refine c_op ?_
    refine c_pure h4 (p_toInt (p_sum (p_fz rfl))) fun r5 k6 => ?_
    refine c_op2 ?_
    refine c_pure h4 (p_fz rfl) fun r7 k8 => ?_
    refine f_mod h4 k6 k8 (kk := fun t9 => ?_)
    exact f_el (v := t9) h4 rk_f 
  refine f_ret ?_
  exact f_rt h13 k12 .w (.f (.f .nil))
def p__law_moved {α : Type} (rows : List α) (orderH : List Int) : Res (List α) :=
(mapC (fun k' =>
(geti rows k').bind fun t9 =>
.ok t9) orderH).bind fun t10 =>
.ok t10
theorem ss__law_moved {α : Type} [Enc α] (rows : List α) (orderH : List Int) : FS false (φ__law_moved [.fz (enc rows), .fz (enc orderH)]) (p__law_moved rows orderH) (fun t => .ol (fzs (encs t))) (fun t => [.fz (enc rows), .fz (enc orderH)]) := by
  refine fs_mk0 [.fz (enc rows), .fz (enc orderH), .clr] rfl (by repeat (first | exact trivial | refine ⟨rfl, ?_⟩)) fun e0 h0 => ?_
  unfold p__law_moved
  unfold d__law_moved
  refine c_ret ?_
  refine c_comp ?_
  refine c_it ?_
  refine c_pure h0 (p_fz rfl) fun r1 k2 => ?_
  refine f_it (xs := orderH) h0 k2 .f fun _ h3 => ?_
  refine f_mapC (ψ := α) h3 (fun _ => tg_n) ?_ fun t10 r11 _ k12 h13 => ?_
  · rintro k' _ h4
    try dsimp only [List.set_cons_zero, List.set_cons_succ, wipeS] at h4 ⊢
    refine c_ix ?_
    refine c_pure h4 (p_fz rfl) fun r5 k6 => ?_
    refine c_ix2 ?_
    refine c_pure h4 (p_fz rfl) fun r7 k8 => ?_
    refine f_ix (xs := rows) h4 k6 k8 fun t9 => ?_
    exact f_el (v := t9) h4 rk_f 
  refine f_ret ?_
  exact f_rt h13 k12 .w (.f (.f .nil))
end V

set_option maxRecDepth 100000
set_option maxHeartbeats 4000000
/-! What the common defs give; sums. -/
namespace V
set_option autoImplicit false
open PySem L2 VF
section
variable {α β γ : Type}
/-! ### sums -/
def Sg : Nat → (Nat → Int) → Int
  | 0, _ => 0
  | n + 1, f => Sg n f + f n
theorem sum_range (n : Nat) (f : Nat → Int) : ((List.range n).map f).sum = Sg n f := by
  induction n with
  | zero => rfl
  | succ n ih => rw [List.range_succ, List.map_append, List.sum_append, ih]; simp [Sg]
theorem Sg_congr {n : Nat} {f g : Nat → Int} (h : ∀ i, i < n → f i = g i) : Sg n f = Sg n g := by
  induction n with
  | zero => rfl
  | succ n ih => unfold Sg; rw [ih fun i hi => h i (by omega), h n (by omega)]
theorem Sg_add (n : Nat) (f g : Nat → Int) : Sg n (fun i => f i + g i) = Sg n f + Sg n g := by
  induction n with
  | zero => rfl
  | succ n ih => simp only [Sg]; rw [ih]; omega
theorem Sg_zero (n : Nat) : Sg n (fun _ => 0) = 0 := by
  induction n with
  | zero => rfl
  | succ n ih => unfold Sg; rw [ih]; rfl
theorem Sg_comm (n m : Nat) (f : Nat → Nat → Int) : Sg n (fun i => Sg m (f i)) = Sg m (fun j => Sg n fun i => f i j) := by
  induction n with
  | zero => simp only [Sg]; rw [Sg_zero]
  | succ n ih => simp only [Sg]; rw [ih, ← Sg_add]
theorem add_emod' (a b p : Int) : (a % p + b) % p = (a + b) % p := Int.emod_add_emod ..
theorem Sg_mod (n : Nat) (f : Nat → Int) (p : Int) : Sg n (fun i => f i % p) % p = Sg n f % p := by
  induction n with
  | zero => rfl
  | succ n ih => unfold Sg; rw [Int.add_emod_emod, ← Int.emod_add_emod, ih, Int.emod_add_emod]
theorem Sg_modc {n : Nat} {f g : Nat → Int} {p : Int} (h : ∀ i, i < n → f i % p = g i % p) : Sg n f % p = Sg n g % p := by
  rw [← Sg_mod n f, ← Sg_mod n g, Sg_congr h]
theorem map_getD (xs : List α) (d : α) : (List.range xs.length).map (fun i => xs.getD i d) = xs := by
  refine List.ext_getElem (by simp) fun i h1 h2 => ?_
  simp only [List.getElem_map, List.getElem_range]
  rw [List.getD_eq_getElem?_getD, List.getElem?_eq_getElem h2]; rfl
theorem map_rng_of {xs : List α} {n : Nat} (d : α) (h : xs.length = n) (f : α → β) : xs.map f = (List.range n).map fun i => f (xs.getD i d) := by
  subst h
  conv => lhs; rw [← map_getD xs d]
  rw [List.map_map]; rfl
theorem sum_getD (xs : List Int) : xs.sum = Sg xs.length fun i => xs.getD i 0 := by
  rw [← sum_range, map_getD]
theorem getD_lt {xs : List α} {i : Nat} (d : α) (h : i < xs.length) : xs.getD i d = xs[i] := by
  rw [List.getD_eq_getElem?_getD, List.getElem?_eq_getElem h]; rfl
theorem getD_map_rng {n i : Nat} (d : β) (f : Nat → β) (h : i < n) : ((List.range n).map f).getD i d = f i := by
  rw [getD_lt d (by simpa using h)]; simp
theorem zip_rng {xs : List α} {ys : List β} {n : Nat} (a : α) (b : β) (h1 : xs.length = n) (h2 : ys.length = n) (f : α × β → γ) : (xs.zip ys).map f = (List.range n).map fun i => f (xs.getD i a, ys.getD i b) := by
  refine List.ext_getElem (by simp [h1, h2]) fun i h3 h4 => ?_
  have hi : i < n := by simpa using h4
  simp only [List.getElem_map, List.getElem_zip, List.getElem_range]
  rw [getD_lt a (by omega), getD_lt b (by omega)]
theorem geti_D {xs : List α} {i : Nat} (d : α) (h : i < xs.length) : geti xs (i : Int) = .ok (xs.getD i d) := by rw [geti_nat h, getD_lt d h]
theorem geti_Di {xs : List α} {i : Int} (d : α) (h0 : 0 ≤ i) (h : i.toNat < xs.length) : geti xs i = .ok (xs.getD i.toNat d) := by rw [geti_int h0 h, getD_lt d h]
theorem Sg_range (xs : List Int) (f : Int → Int) : (xs.map f).sum = Sg xs.length fun i => f (xs.getD i 0) := by
  rw [map_rng_of 0 rfl f, sum_range]
/-- a sum in two parts -/
theorem sum_split (xs : List α) (c : α → Bool) (f : α → Int) : (xs.map f).sum = ((xs.filter c).map f).sum + ((xs.filter fun x => !c x).map f).sum := by
  induction xs with
  | nil => rfl
  | cons x xs ih =>
    rw [List.map_cons, List.sum_cons, ih, List.filter_cons, List.filter_cons]
    cases c x with
    | true => simp only [if_true, List.map_cons, List.sum_cons, Bool.not_true]; rw [if_neg (by decide)]; omega
    | false => simp only [Bool.not_false, if_true, List.map_cons, List.sum_cons]; rw [if_neg (by decide)]; omega
/-- a part of a list without doubles, in order, is what is filtered -/
theorem sub_filter [DecidableEq α] {ys xs : List α} (h : ys.Sublist xs) (nd : xs.Nodup) : xs.filter (fun x => decide (x ∈ ys)) = ys := by
  induction h with
  | slnil => rfl
  | cons a h ih =>
    rename_i ys xs
    rw [List.nodup_cons] at nd
    rw [List.filter_cons, if_neg (by simpa using fun hm => nd.1 (h.subset hm))]
    exact ih nd.2
  | cons_cons a h ih =>
    rename_i ys xs
    rw [List.nodup_cons] at nd
    rw [List.filter_cons, if_pos (by simp)]
    congr 1
    conv => rhs; rw [← ih nd.2]
    refine List.filter_congr fun x hx => ?_
    have : x ≠ a := fun e => nd.1 (e ▸ hx)
    simp [this]
theorem irng_nodup (lo : Int) (n : Nat) : (irng lo n).Nodup := by
  unfold irng
  exact List.Pairwise.map _ (fun a b h => by omega) List.nodup_range
end
/-! ### total, split -/
theorem total_ok {p : Int} (hp : 0 < p) (ns : List Int) : p_total p ns = .ok (ns.sum % p) := by
  unfold p_total
  simp only [Res.bind_ok, bind_ok_self]
  have : ∀ (ns : List Int) (a : Int), foldR (fun number result => modR (result + number) p) ns (a % p) = .ok ((a + ns.sum) % p) := by
    intro ns
    induction ns with
    | nil => intro a; simp [foldR]
    | cons n ns ih =>
      intro a
      unfold foldR
      rw [modR_ok hp, Res.bind_ok, Int.emod_add_emod, ih (a + n), List.sum_cons]
      congr 2; omega
  have h := this ns 0
  rwa [Int.zero_emod, Int.zero_add] at h
def splitL (p v : Int) (cs : List Int) : List Int := (cs.map fun c => c % p) ++ [(v - (cs.map fun c => c % p).sum) % p]
theorem splitL_len (p v : Int) (cs : List Int) : (splitL p v cs).length = cs.length + 1 := by simp [splitL]
theorem splitL_sum (p v : Int) (cs : List Int) : (splitL p v cs).sum % p = v % p := by
  unfold splitL
  rw [List.sum_append, List.sum_singleton, Int.add_emod_emod]
  congr 1; omega
theorem splitL_in {p : Int} (hp : 0 < p) (v : Int) (cs : List Int) : ∀ x ∈ splitL p v cs, 0 ≤ x ∧ x < p := by
  intro x hx
  unfold splitL at hx
  rcases List.mem_append.mp hx with h | h
  · obtain ⟨c, _, rfl⟩ := List.mem_map.mp h
    exact ⟨Int.emod_nonneg _ (by omega), Int.emod_lt_of_pos _ hp⟩
  · rw [List.mem_singleton] at h
    subst h
    exact ⟨Int.emod_nonneg _ (by omega), Int.emod_lt_of_pos _ hp⟩
theorem split_ok {p : Int} (hp : 0 < p) (v : Int) {cs : List Int} (hl : cs.length ≤ 100000) : p_split p v cs = .ok (splitL p v cs) := by
  unfold p_split
  rw [mapC_ok (g := fun c => c % p) (by omega) (fun c _ => by rw [modR_ok hp]; rfl)]
  simp only [Res.bind_ok, modR_ok hp, bind_ok_self]
  rw [appR_ok (by simp; omega)]
  rfl
theorem pieces_ok {p : Int} (hp : 0 < p) (v : Int) {cs : List Int} (hl : cs.length ≤ 100000) : p__law_pieces p v cs = .ok (splitL p v cs) := by
  unfold p__law_pieces
  rw [mapC_ok (g := fun c => c % p) (by omega) (fun c _ => by rw [modR_ok hp]; rfl)]
  simp only [Res.bind_ok, modR_ok hp, bind_ok_self]
  rw [appR_ok (by simp; omega)]
  rfl
theorem outsiders_ok {m : Int} (h : -1000000 ≤ m) (h2 : m ≤ 1000000) (held : List Int) : p_outsiders m held = .ok ((irng 0 m.toNat).filter fun x => decide (x ∉ held)) := by
  unfold p_outsiders
  rw [rng1_ok h2 h, Res.bind_ok, filC_idI (c := fun x => decide (x ∉ held)) (by rw [irng_len]; omega) (fun x _ => rfl)]
  rfl
theorem sums_ok {p : Int} (hp : 0 < p) {rows : List (List Int)} (hl : rows.length ≤ 100000) : p__law_sums p rows = .ok (rows.map fun r => r.sum % p) := by
  unfold p__law_sums
  rw [mapC_ok (g := fun r => r.sum % p) (by omega) (fun c _ => by rw [modR_ok hp]; rfl)]
  rfl
/-! ### the laws' draws -/
abbrev primes : List Int := [2, 3, 5, 7, 11, 13, 17, 19, 23, 97, 101, 997]
theorem prime_hd (b : Bx) : Hd (p__law_prime b) fun q => q.1 ∈ primes := by
  unfold p__law_prime
  refine hd_draw (by decide) fun v b h0 h1 => ?_
  dsimp only
  rw [geti_Di 2 h0 (by show v.toNat < 12; omega), Res.bind_ok]
  refine Hd.ok ?_
  show primes.getD v.toNat 2 ∈ primes
  rw [getD_lt 2 (by show v.toNat < 12; omega)]
  exact List.getElem_mem _
theorem primes_ge {p : Int} (h : p ∈ primes) : 2 ≤ p ∧ p ≤ 997 := by
  simp only [primes, List.mem_cons, List.not_mem_nil, or_false] at h
  omega
theorem numbers_hd (b : Bx) {n : Int} (h : -1000000 ≤ n) (h2 : n ≤ 1000000) : Hd (p__law_numbers b n) fun q => q.1.length = n.toNat ∧ ∀ x ∈ q.1, -300 ≤ x ∧ x < 1000000 := by
  unfold p__law_numbers
  rw [rng1_ok h2 h]
  simp only [Res.bind_ok]
  have := foldR_hd (f := fun k' (x : Bx × List Int) => match x with
    | (box, numbersH) => (p__law_draw box 1000).bind fun (t29, box) => (p__law_draw box 1000).bind fun (t37, box) => (appR numbersH (t29 * 1000 + t37 - 300)).bind fun numbersH => Res.ok (box, numbersH)) (xs := irng 0 n.toNat) (s := (b, [])) (fun i s => s.2.length = i ∧ ∀ x ∈ s.2, -300 ≤ x ∧ x < 1000000) ⟨rfl, by simp⟩ (by
    rintro i hi ⟨b, L⟩ ⟨h3, h4⟩
    rw [irng_len] at hi
    refine hd_draw (by decide) fun v b a0 a1 => ?_
    refine hd_draw (by decide) fun w b c0 c1 => ?_
    dsimp only
    rw [appR_ok (by simp only at h3; omega), Res.bind_ok]
    refine Hd.ok ⟨by simp only at h3; simp [h3], ?_⟩
    intro x hx
    simp only [List.mem_append, List.mem_singleton] at hx
    rcases hx with hx | hx
    · exact h4 x hx
    · omega)
  rw [irng_len] at this
  refine this.bind fun s hs => ?_
  obtain ⟨b, L⟩ := s
  exact Hd.ok hs
end V

set_option maxRecDepth 100000
set_option maxHeartbeats 4000000
/-! A stage's pieces and sums. -/
namespace V
set_option autoImplicit false
open PySem L2 VF
section
variable {α β γ : Type}
theorem foldR_rngE {f : α → List β → Res (List β)} {g : Nat → β} {e : Nat → α} {n : Nat} (hl : n ≤ 1000000) (h : ∀ k, k < n → ∀ acc, f (e k) acc = appR acc (g k)) : foldR f ((List.range n).map e) [] = .ok ((List.range n).map g) := by
  have : ∀ (ks : List Nat) (acc : List β), acc.length + ks.length ≤ 1000000 → (∀ k ∈ ks, k < n) → foldR f (ks.map e) acc = .ok (acc ++ ks.map g) := by
    intro ks
    induction ks with
    | nil => intro acc _ _; simp [foldR]
    | cons k ks ih =>
      intro acc hl2 hk
      rw [List.length_cons] at hl2
      rw [List.map_cons]
      unfold foldR
      rw [h k (hk k List.mem_cons_self), appR_ok (by omega), Res.bind_ok, ih _ (by simp; omega) fun j hj => hk j (List.mem_cons_of_mem _ hj)]
      simp
  have := this (List.range n) [] (by simpa using hl) (fun k hk => List.mem_range.mp hk)
  simpa using this
theorem mapC_rngE {f : α → Res β} {g : Nat → β} {e : Nat → α} {n : Nat} (hl : n ≤ 1000000) (h : ∀ k, k < n → f (e k) = .ok (g k)) : mapC f ((List.range n).map e) = .ok ((List.range n).map g) := by
  have : ∀ (ks : List Nat) (acc : List β), (∀ k ∈ ks, k < n) → compGo (fun x (_ : Unit) => ((f x).bind fun y => .ok (some y)).bind fun o => .ok (o, ())) (ks.map e) () acc = .ok (acc ++ ks.map g, ()) := by
    intro ks
    induction ks with
    | nil => intro acc _; simp [compGo]
    | cons k ks ih =>
      intro acc hk
      rw [List.map_cons]
      unfold compGo
      rw [h k (hk k List.mem_cons_self)]
      simp only [Res.bind_ok]
      have := ih (acc ++ [g k]) fun j hj => hk j (List.mem_cons_of_mem _ hj)
      rw [this]; simp
  unfold mapC filC filS
  rw [okLe_eq, if_pos (decide_eq_true (size_le (by simpa using hl))), this (List.range n) [] (fun k hk => List.mem_range.mp hk)]
  simp
theorem enumL_rng (d : α) (xs : List α) : enumL xs = (List.range xs.length).map fun i : Nat => ((i : Int), xs.getD i d) := by
  refine List.ext_getElem (by simp [enumL]) fun i h1 h2 => ?_
  have hi : i < xs.length := by simpa using h2
  simp only [enumL, List.getElem_mapIdx, List.getElem_map, List.getElem_range]
  rw [getD_lt d hi]
theorem zip_rngE (a : α) (b : β) {xs : List α} {ys : List β} {n : Nat} (h1 : xs.length = n) (h2 : ys.length = n) : xs.zip ys = (List.range n).map fun i => (xs.getD i a, ys.getD i b) := by
  have := zip_rng a b h1 h2 id
  simpa using this
theorem rng_getD {n i : Nat} {d : β} {f : Nat → β} (h : i < n) : ((List.range n).map f).getD i d = f i := getD_map_rng d f h
end
/-- a table's share -/
def tb (t : List (List Int)) (k : Nat) (m : Int) : Int := (t.getD k []).getD m.toNat 0
def gatL (p : Int) (t : List (List Int)) (others : List Int) (cs : List (List (List Int))) : List (List (List Int)) :=
  (List.range others.length).map fun a => (List.range t.length).map fun k => splitL p (tb t k (others.getD a 0)) ((cs.getD a []).getD k [])
/-- what is there at three places -/
def at3 (ps : List (List (List Int))) (a k h : Nat) : Int := ((ps.getD a []).getD k []).getD h 0
def heldL (p : Int) (t : List (List Int)) (held : List Int) (ps : List (List (List Int))) : List (List Int) :=
  (List.range t.length).map fun k => (List.range held.length).map fun h => (tb t k (held.getD h 0) + Sg ps.length fun a => at3 ps a k h) % p
def sprL (p : Int) (s : List (List Int)) (n : Nat) (cs : List (List (List Int))) : List (List (List Int)) :=
  (List.range n).map fun h => (List.range s.length).map fun k => splitL p ((s.getD k []).getD h 0) ((cs.getD h []).getD k [])
def newL (p : Int) (ps : List (List (List Int))) (m n : Nat) : List (List Int) :=
  (List.range n).map fun k => (List.range m).map fun j => (Sg ps.length fun h => at3 ps h k j) % p
/-- a table of a width -/
def Wd (t : List (List Int)) (m : Nat) : Prop := ∀ k, k < t.length → (t.getD k []).length = m
/-- lists of rows of coins -/
def Cw (cs : List (List (List Int))) (a k w : Nat) : Prop := cs.length = a ∧ ∀ i, i < a → (cs.getD i []).length = k ∧ ∀ j, j < k → ((cs.getD i []).getD j []).length = w
theorem tb_geti {t : List (List Int)} {m k : Nat} {x : Int} (w : Wd t m) (hk : k < t.length) (h0 : 0 ≤ x) (h1 : x < m) : geti (t.getD k []) x = .ok (tb t k x) := geti_Di 0 h0 (by rw [w k hk]; omega)
theorem gathered_ok {p : Int} (hp : 0 < p) {t : List (List Int)} {m w : Nat} {others : List Int} {cs : List (List (List Int))} (ht : Wd t m) (ho : ∀ x ∈ others, 0 ≤ x ∧ x < (m : Int)) (hc : Cw cs others.length t.length w) (s1 : t.length ≤ 1000) (s2 : others.length ≤ 1000) (s3 : w ≤ 1000) : p_gathered_pieces p t others cs = .ok (gatL p t others cs) := by
  unfold p_gathered_pieces
  simp only [Res.bind_ok, bind_ok_self]
  rw [zip_rngE 0 [] rfl hc.1]
  refine foldR_rngE (by omega) fun a ha acc => ?_
  dsimp only
  obtain ⟨c1, c2⟩ := hc.2 a ha
  have hx := ho (others.getD a 0) (by rw [getD_lt 0 ha]; exact List.getElem_mem _)
  rw [zip_rngE [] [] rfl c1, mapC_rngE (g := fun k => splitL p (tb t k (others.getD a 0)) ((cs.getD a []).getD k [])) (by omega) fun k hk => by
    dsimp only
    rw [tb_geti ht hk hx.1 hx.2, Res.bind_ok, split_ok hp _ (by rw [c2 k hk]; omega)]]
  rfl
theorem held_ok {p : Int} (hp : 0 < p) {t : List (List Int)} {m : Nat} {held : List Int} {ps : List (List (List Int))} {w : Nat} (ht : Wd t m) (ho : ∀ x ∈ held, 0 ≤ x ∧ x < (m : Int)) (hc : Cw ps w t.length held.length) (s1 : t.length ≤ 1000) (s2 : held.length ≤ 1000) (s3 : w ≤ 1000) : p_held_shares p t held ps = .ok (heldL p t held ps) := by
  unfold p_held_shares
  simp only [Res.bind_ok, bind_ok_self]
  rw [enumL_rng []]
  refine foldR_rngE (by omega) fun k hk acc => ?_
  dsimp only
  rw [enumL_rng 0, foldR_rngE (g := fun h => (tb t k (held.getD h 0) + Sg ps.length fun a => at3 ps a k h) % p) (by omega) fun h hh acc => ?_]
  · rfl
  · dsimp only
    have hx := ho (held.getD h 0) (by rw [getD_lt 0 hh]; exact List.getElem_mem _)
    rw [tb_geti ht hk hx.1 hx.2, Res.bind_ok, mapC_ok (g := fun rows => (rows.getD k []).getD h 0) (by rw [hc.1]; omega) fun rows hr => ?_]
    · rw [Res.bind_ok, catR_ok (by simp; rw [hc.1]; omega), Res.bind_ok, total_ok hp, Res.bind_ok]
      congr 1
      rw [List.singleton_append, List.sum_cons, map_rng_of [] rfl, sum_range]
      rfl
    · obtain ⟨i, hi, rfl⟩ := List.mem_iff_getElem.mp hr
      rw [hc.1] at hi
      obtain ⟨c1, c2⟩ := hc.2 i hi
      rw [getD_lt [] (by rw [hc.1]; exact hi)] at c1 c2
      rw [geti_D [] (by rw [c1]; exact hk), Res.bind_ok, geti_D 0 (by rw [c2 k hk]; exact hh)]
theorem spread_ok {p : Int} (hp : 0 < p) {s : List (List Int)} {n w : Nat} {cs : List (List (List Int))} (hs : Wd s n) (hc : Cw cs n s.length w) (s1 : s.length ≤ 1000) (s2 : n ≤ 1000) (s3 : w ≤ 1000) : p_spread_pieces p s (n : Int) cs = .ok (sprL p s n cs) := by
  unfold p_spread_pieces
  simp only [Res.bind_ok, bind_ok_self]
  rw [rng1_nat (by omega), Res.bind_ok]
  refine foldR_rngE (by omega) fun h hh acc => ?_
  obtain ⟨c1, c2⟩ := hc.2 h hh
  rw [geti_D [] (by rw [hc.1]; exact hh), Res.bind_ok, zip_rngE [] [] rfl c1, mapC_rngE (g := fun k => splitL p ((s.getD k []).getD h 0) ((cs.getD h []).getD k [])) (by omega) fun k hk => by
    dsimp only
    rw [geti_D 0 (by rw [hs k hk]; exact hh), Res.bind_ok, split_ok hp _ (by rw [c2 k hk]; omega)]]
  rfl
theorem new_ok {p : Int} (hp : 0 < p) {ps : List (List (List Int))} {m n w : Nat} (hc : Cw ps w n m) (s1 : n ≤ 1000) (s2 : m ≤ 1000) (s3 : w ≤ 1000) : p_new_table p ps (m : Int) (n : Int) = .ok (newL p ps m n) := by
  unfold p_new_table
  simp only [Res.bind_ok, bind_ok_self]
  rw [rng1_nat (by omega), Res.bind_ok]
  refine foldR_rngE (by omega) fun k hk acc => ?_
  rw [rng1_nat (by omega), Res.bind_ok, foldR_rngE (g := fun j => (Sg ps.length fun h => at3 ps h k j) % p) (by omega) fun j hj acc => ?_]
  · rfl
  · rw [mapC_ok (g := fun rows => (rows.getD k []).getD j 0) (by rw [hc.1]; omega) fun rows hr => ?_]
    · rw [Res.bind_ok, total_ok hp, Res.bind_ok]
      congr 1
      rw [map_rng_of [] rfl, sum_range]
      rfl
    · obtain ⟨i, hi, rfl⟩ := List.mem_iff_getElem.mp hr
      rw [hc.1] at hi
      obtain ⟨c1, c2⟩ := hc.2 i hi
      rw [getD_lt [] (by rw [hc.1]; exact hi)] at c1 c2
      rw [geti_D [] (by rw [c1]; exact hk), Res.bind_ok, geti_D 0 (by rw [c2 k hk]; exact hj)]
theorem gatL_cw {p : Int} {t : List (List Int)} {others : List Int} {cs : List (List (List Int))} {w : Nat} (hc : Cw cs others.length t.length w) : Cw (gatL p t others cs) others.length t.length (w + 1) := by
  refine ⟨by simp [gatL], fun a ha => ⟨by unfold gatL; rw [rng_getD ha]; simp, fun k hk => ?_⟩⟩
  unfold gatL
  rw [rng_getD ha, rng_getD hk, splitL_len, (hc.2 a ha).2 k hk]
theorem sprL_cw {p : Int} {s : List (List Int)} {n w : Nat} {cs : List (List (List Int))} (hc : Cw cs n s.length w) : Cw (sprL p s n cs) n s.length (w + 1) := by
  refine ⟨by simp [sprL], fun a ha => ⟨by unfold sprL; rw [rng_getD ha]; simp, fun k hk => ?_⟩⟩
  unfold sprL
  rw [rng_getD ha, rng_getD hk, splitL_len, (hc.2 a ha).2 k hk]
theorem heldL_wd {p : Int} {t : List (List Int)} {held : List Int} {ps : List (List (List Int))} : (heldL p t held ps).length = t.length ∧ Wd (heldL p t held ps) held.length := by
  refine ⟨by simp [heldL], fun k hk => ?_⟩
  have hk' : k < t.length := by simpa [heldL] using hk
  unfold heldL
  rw [rng_getD hk']; simp
theorem newL_wd {p : Int} {ps : List (List (List Int))} {m n : Nat} : (newL p ps m n).length = n ∧ Wd (newL p ps m n) m := by
  refine ⟨by simp [newL], fun k hk => ?_⟩
  have hk' : k < n := by simpa [newL] using hk
  unfold newL
  rw [rng_getD hk']; simp
/-! ### the sums -/
theorem sum_at (xs : List Int) {n : Nat} (h : xs.length = n) : Sg n (fun i => xs.getD i 0) = xs.sum := by subst h; exact (sum_getD xs).symm
theorem new_sum {p : Int} {s : List (List Int)} {n m : Nat} {cs : List (List (List Int))} (hs : Wd s n) (hc : Cw cs n s.length m) {k : Nat} (hk : k < s.length) : ((newL p (sprL p s n cs) (m + 1) s.length).getD k []).sum % p = ((s.getD k []).sum) % p := by
  have c := sprL_cw (p := p) hc
  unfold newL
  rw [rng_getD hk, sum_range, Sg_mod, Sg_comm, c.1, ← sum_at (s.getD k []) (hs k hk)]
  refine Sg_modc fun h hh => ?_
  have e : Sg (m + 1) (fun j => at3 (sprL p s n cs) h k j) = (splitL p ((s.getD k []).getD h 0) ((cs.getD h []).getD k [])).sum := by
    rw [← sum_at _ (show (splitL p ((s.getD k []).getD h 0) ((cs.getD h []).getD k [])).length = m + 1 by rw [splitL_len, (hc.2 h hh).2 k hk])]
    refine Sg_congr fun j hj => ?_
    unfold at3 sprL
    rw [rng_getD hh, rng_getD hk]
  rw [e, splitL_sum]
theorem part_sum {m : Nat} {held : List Int} (hh : held.Sublist (irng 0 m)) (f : Int → Int) : Sg m (fun i => f (i : Int)) = (held.map f).sum + (((irng 0 m).filter fun x => decide (x ∉ held)).map f).sum := by
  have h1 : Sg m (fun i => f (i : Int)) = ((irng 0 m).map f).sum := by
    rw [irng0, List.map_map, ← sum_range]; rfl
  rw [h1, sum_split (irng 0 m) (fun x => decide (x ∈ held)) f, sub_filter hh (irng_nodup 0 m)]
  congr 3
  refine List.filter_congr fun x _ => ?_
  simp
theorem held_sum {p : Int} {t : List (List Int)} {m w : Nat} {held : List Int} {cs : List (List (List Int))} (hw : held.length = w + 1) (ht : Wd t m) (hh : held.Sublist (irng 0 m)) (hc : Cw cs ((irng 0 m).filter fun x => decide (x ∉ held)).length t.length w) {k : Nat} (hk : k < t.length) :
    ((heldL p t held (gatL p t ((irng 0 m).filter fun x => decide (x ∉ held)) cs)).getD k []).sum % p = (t.getD k []).sum % p := by
  have c := gatL_cw (p := p) hc
  generalize ho : ((irng 0 m).filter fun x => decide (x ∉ held)) = others at *
  unfold heldL
  rw [rng_getD hk, sum_range, Sg_mod, Sg_add, Sg_comm, c.1]
  have e1 : Sg held.length (fun h => tb t k (held.getD h 0)) = (held.map fun x => tb t k x).sum := (Sg_range held _).symm
  have e2 : Sg others.length (fun a => Sg held.length fun h => at3 (gatL p t others cs) a k h) % p = (others.map fun x => tb t k x).sum % p := by
    rw [Sg_range]
    refine Sg_modc fun a ha => ?_
    have e : Sg held.length (fun h => at3 (gatL p t others cs) a k h) = (splitL p (tb t k (others.getD a 0)) ((cs.getD a []).getD k [])).sum := by
      rw [← sum_at _ (show (splitL p (tb t k (others.getD a 0)) ((cs.getD a []).getD k [])).length = held.length by rw [splitL_len, (hc.2 a ha).2 k hk, hw])]
      refine Sg_congr fun j hj => ?_
      unfold at3 gatL
      rw [rng_getD ha, rng_getD hk]
    rw [e, splitL_sum]
  rw [← Int.add_emod_emod, e2, Int.add_emod_emod, e1, ← sum_at (t.getD k []) (ht k hk)]
  have := part_sum hh (fun x => tb t k x)
  rw [ho] at this
  rw [← this]
  congr 1
end V

set_option maxRecDepth 100000
set_option maxHeartbeats 4000000
/-! Mirrors of defs that let own errors out, of raise and try; is True. -/
namespace VF
set_option autoImplicit false
open PySem L2
open Enc (enc)
/-- no error gets through -/
def noX {α : Type} (p : Res α) : Res α := match p with
  | .ex _ => .st
  | .ok a => .ok a
  | .st => .st
@[simp] theorem noX_ok {α : Type} (a : α) : noX (.ok a) = .ok a := (rfl)
/-- try: p, an error: h, else k -/
def tryR {σ τ : Type} (p : Res (Lp σ τ)) (h : Exc → Option τ) (k : σ → Res τ) : Res τ := match p with
  | .ok (.go s) => k s
  | .ok (.out t) => .ok t
  | .ok (.bk _) => .st
  | .ex x => (match h x with
    | some t => .ok t
    | none => .st)
  | .st => .st
@[simp] theorem tryR_go {σ τ : Type} (s : σ) (h : Exc → Option τ) (k : σ → Res τ) : tryR (.ok (.go s)) h k = k s := (rfl)
@[simp] theorem tryR_out {σ τ : Type} (t : τ) (h : Exc → Option τ) (k : σ → Res τ) : tryR (.ok (.out t)) h k = .ok t := (rfl)
theorem tryR_ex {σ τ : Type} {x : Exc} {t : τ} {h : Exc → Option τ} {k : σ → Res τ} (q : h x = some t) : tryR (.ex x) h k = .ok t := by unfold tryR; simp only; rw [q]
/-- fields read back -/
class Dec (α : Type) extends Enc α where
  dec : D → Option α
  de : ∀ (d : D) (a : α), dec d = some a → d = Enc.enc a
  ed : ∀ a : α, dec (Enc.enc a) = some a
instance : Dec Int where
  dec := fun d => match d with | .int i => some i | _ => none
  de := fun d a h => by cases d <;> first | (cases h; rfl) | cases h
  ed := fun _ => rfl
instance : Dec Str where
  dec := fun d => match d with | .str i => some i | _ => none
  de := fun d a h => by cases d <;> first | (cases h; rfl) | cases h
  ed := fun _ => rfl
instance : Dec (Option Int) where
  dec := fun d => match d with | .int i => some (some i) | .non => some none | _ => none
  de := fun d a h => by cases d <;> first | (cases h; rfl) | cases h
  ed := fun a => by cases a <;> rfl
def decs {α : Type} (f : D → Option α) : List D → Option (List α)
  | [] => some []
  | d :: ds => match f d, decs f ds with
    | some a, some as => some (a :: as)
    | _, _ => none
theorem decs_de {α : Type} [Dec α] : ∀ (ds : List D) (as : List α), decs Dec.dec ds = some as → ds = as.map enc
  | [], as, h => by cases h; rfl
  | d :: ds, as, h => by
    unfold decs at h
    cases z1 : Dec.dec (α := α) d with
    | none => rw [z1] at h; cases h
    | some a =>
      cases z2 : decs (Dec.dec (α := α)) ds with
      | none => rw [z1, z2] at h; cases h
      | some as' =>
        rw [z1, z2] at h
        cases h
        rw [List.map_cons, ← decs_de ds as' z2, ← Dec.de d a z1]
theorem decs_ed {α : Type} [Dec α] : ∀ as : List α, decs (Dec.dec (α := α)) (as.map enc) = some as
  | [] => rfl
  | a :: as => by
    show decs _ (enc a :: as.map enc) = _
    unfold decs
    rw [Dec.ed, decs_ed as]
instance {α : Type} [Dec α] : Dec (List α) where
  dec := fun d => match d with | .lst ds => decs Dec.dec ds | _ => none
  de := fun d as h => by cases d <;> first | (show D.lst _ = D.lst _; rw [decs_de _ as h]) | cases h
  ed := fun as => decs_ed as
section
variable {α β τ : Type} [Dec α] [Dec β]
def ex0 (c : Str) (t : Option τ) (x : Exc) : Option τ := if x.c = c ∧ x.ns = [] then (match x.ds with
  | [] => t
  | _ => none) else none
def ex1 (c f : Str) (k : α → Option τ) (x : Exc) : Option τ := if x.c = c ∧ x.ns = [f] then (match x.ds with
  | [d] => (match Dec.dec (α := α) d with
    | some a => k a
    | none => none)
  | _ => none) else none
/-- the fields' names from the last one -/
def ex2 (c f g : Str) (k : α → β → Option τ) (x : Exc) : Option τ := if x.c = c ∧ x.ns = [g, f] then (match x.ds with
  | [d', d] => (match Dec.dec (α := α) d, Dec.dec (α := β) d' with
    | some a, some b => k a b
    | _, _ => none)
  | _ => none) else none
theorem ex0_some {c : Str} {t : Option τ} {x : Exc} {r : τ} (h : ex0 c t x = some r) : x = ⟨c, [], []⟩ ∧ t = some r := by
  unfold ex0 at h
  split at h
  · rename_i q
    obtain ⟨c', n', d'⟩ := x
    obtain ⟨rfl, rfl⟩ := q
    cases d' with
    | nil => exact ⟨rfl, h⟩
    | cons _ _ => cases h
  · cases h
theorem ex1_some {c f : Str} {k : α → Option τ} {x : Exc} {r : τ} (h : ex1 c f k x = some r) : ∃ a, x = ⟨c, [f], [enc a]⟩ ∧ k a = some r := by
  unfold ex1 at h
  split at h
  · rename_i q
    obtain ⟨c', n', d'⟩ := x
    obtain ⟨rfl, rfl⟩ := q
    match d', h with
    | [d], h =>
      simp only at h
      cases z : Dec.dec (α := α) d with
      | none => rw [z] at h; cases h
      | some a =>
        rw [z] at h
        exact ⟨a, by rw [Dec.de d a z], h⟩
  · cases h
theorem ex2_some {c f g : Str} {k : α → β → Option τ} {x : Exc} {r : τ} (h : ex2 c f g k x = some r) : ∃ a b, x = ⟨c, [g, f], [enc b, enc a]⟩ ∧ k a b = some r := by
  unfold ex2 at h
  split at h
  · rename_i q
    obtain ⟨c', n', d'⟩ := x
    obtain ⟨rfl, rfl⟩ := q
    match d', h with
    | [d', d], h =>
      simp only at h
      cases z : Dec.dec (α := α) d with
      | none => rw [z] at h; cases h
      | some a =>
        cases z' : Dec.dec (α := β) d' with
        | none => rw [z, z'] at h; cases h
        | some b =>
          rw [z, z'] at h
          exact ⟨a, b, by rw [Dec.de d a z, Dec.de d' b z'], h⟩
  · cases h
@[simp] theorem ex1_at (c f : Str) (k : α → Option τ) (a : α) : ex1 c f k ⟨c, [f], [enc a]⟩ = k a := by unfold ex1; simp [Dec.ed]
@[simp] theorem ex2_at (c f g : Str) (k : α → β → Option τ) (a : α) (b : β) : ex2 c f g k ⟨c, [g, f], [enc b, enc a]⟩ = k a b := by unfold ex2; simp [Dec.ed]
@[simp] theorem ex0_at (c : Str) (t : Option τ) : ex0 c t ⟨c, [], []⟩ = t := by unfold ex0; simp
end
theorem orR {τ : Type} {a b : Option τ} {t : τ} (h : a.or b = some t) : a = some t ∨ b = some t := by
  cases a with
  | none => exact .inr h
  | some _ => exact .inl h
abbrev XT : Exc → Env → Prop := fun _ _ => True
theorem outs_f : ∀ {md : List Bool} {i : Nat} {ss : List SV} {e : Env}, md.all (fun b => !b) = true → okArgs md ss = true → outs i md ss e = some ss
  | [], _, [], _, _, _ => rfl
  | [], _, _ :: _, _, _, h => by cases h
  | true :: _, _, _, _, h, _ => by cases h
  | false :: md, i, [], _, _, h => by cases h
  | false :: md, i, s :: ss, e, h, ha => by
    have h' : md.all (fun b => !b) = true := by simpa using h
    have ha' : okArgs md ss = true := by cases s <;> first | exact ha | cases ha
    rw [out_false, outs_f h' ha']
theorem outs_len : ∀ {md : List Bool} {i : Nat} {ss as : List SV} {e : Env}, outs i md ss e = some as → as.length = md.length
  | [], _, [], as, _, h => by cases h; rfl
  | [], _, _ :: _, _, _, h => by cases h
  | false :: md, i, [], _, _, h => by cases h
  | false :: md, i, s :: ss, as, e, h => by
    rw [out_false] at h
    cases q : outs (i + 1) md ss e with
    | none => rw [q] at h; cases h
    | some r => rw [q] at h; cases h; exact congrArg Nat.succ (outs_len q)
  | true :: md, i, [], _, _, h => by cases h
  | true :: md, i, s :: ss, as, e, h => by
    have h' : (match e.sl[i]? with | some (some s) => (match outs (i + 1) md ss (e.clr i) with | some r => some (s :: r) | none => none) | _ => none) = some as := h
    cases z : e.sl[i]? with
    | none => rw [z] at h'; cases h'
    | some o =>
      cases o with
      | none => rw [z] at h'; cases h'
      | some s' =>
        rw [z] at h'
        simp only at h'
        cases q : outs (i + 1) md ss (e.clr i) with
        | none => rw [q] at h'; cases h'
        | some r => rw [q] at h'; cases h'; exact congrArg Nat.succ (outs_len q)
theorem mkFn_ex {md : List Bool} {n : Nat} {m : M Fl} {ss : List SV} {x : Exc} {as : List SV} (h : mkFn md n m ss = .ex x as) : as.length = md.length := by
  unfold mkFn at h
  split at h
  · cases q : m (env0 md n ss) with
    | st => rw [q] at h; cases h
    | ok f e =>
      rw [q] at h
      simp only at h
      cases q2 : resOf f e with
      | none => rw [q2] at h; cases h
      | some p =>
        rw [q2] at h
        simp only at h
        cases q3 : outs 0 md ss p.2 with
        | none => rw [q3] at h; cases h
        | some r => rw [q3] at h; cases h
    | ex y e =>
      rw [q] at h
      simp only at h
      cases q3 : outs 0 md ss e with
      | none => rw [q3] at h; cases h
      | some r => rw [q3] at h; cases h; exact outs_len q3
  · cases h
theorem unload_f : ∀ {md : List Bool} {rs : List RV} {ss : List SV} {e : Env}, md.all (fun b => !b) = true → rs.length = md.length → ss.length = md.length → unload md rs ss e = some e
  | [], [], [], _, _, _, _ => rfl
  | [], _ :: _, _, _, _, h, _ => by cases h
  | [], [], _ :: _, _, _, _, h => by cases h
  | true :: _, _, _, _, h, _, _ => by cases h
  | false :: md, [], _, _, _, h, _ => by cases h
  | false :: md, _ :: _, [], _, _, _, h => by cases h
  | false :: md, r :: rs, s :: ss, e, h, h1, h2 => unload_f (md := md) (rs := rs) (ss := ss) (e := e) (by simpa using h) (by simpa using h1) (by simpa using h2)
section
variable {α β γ δ σ τ ω : Type} {pn : List Nat} {S S' S1 : List SD} {e : Env} {X : Exc → Env → Prop} {P : Res α} {G : α → γ → Env → Prop} {r q : RV} {o oa ob : Opd}
theorem f_callX {md : List Bool} {φ : Fn} {rs : List RV} {os : List Opd} {ss : List SV} {p : Res τ} {ro : τ → SV} {au : τ → List SV} {oo : τ → Opd} {S2 : τ → List SD} {K : RV → M γ} {k : τ → Res α} (h : Has pn S e) (kr : ROks rs os) (ld : Ld S md os ss S1) (hf : FS true (φ ss) p ro au)
    (hφ : ∀ x as, φ ss = .ex x as → as.length = md.length) (hmd : md.all (fun b => !b) = true) (hX : ∀ x e, Has pn S1 e → X x e) (ul : ∀ t, Ul S1 md os (au t) (S2 t)) (ho : ∀ t, ROk (svR (ro t)) (oo t))
    (kk : ∀ t r e', ROk r (oo t) → Has pn (S2 t) e' → Sm (K r e') (k t) G X) : Sm (callK md φ K rs e) (p.bind k) G X := by
  obtain ⟨e1, h1, h2⟩ := ld.load h kr
  unfold callK
  rw [h1]
  cases p with
  | st => exact ⟨trivial⟩
  | ex x =>
    obtain ⟨_, as, hf'⟩ := hf.run
    have l := load_len h1
    simp only [hf', unload_f hmd l (hφ x as hf')]
    exact ⟨e1, rfl, hX x e1 h2⟩
  | ok t =>
    have hf' : φ ss = .ok (ro t) (au t) := hf.run
    obtain ⟨e2, h3, h4⟩ := (ul t).unload h2 kr
    simp only [hf', h3]
    exact kk t _ e2 (ho t) h4
theorem fs_noX {φr : FR} {p : Res τ} {ro : τ → SV} {au : τ → List SV} (hf : FS true φr p ro au) : FS false φr (noX p) ro au := by
  cases p with
  | st => exact ⟨trivial⟩
  | ok t => exact ⟨hf.run⟩
  | ex x => exact ⟨trivial⟩
theorem f_callBX [Enc τ] {n : Nat} {φ : Fn} {rs : List RV} {os : List Opd} {ds : List D} {p : Res τ} {au : τ → List SV} {K : RV → M γ} {k : τ → Res α} (h : Has pn S e) (kr : ROks rs os) (da : Dts S os ds) (hn : ds.length = n) (hf : FS true (φ (ds.map .fz)) p (fun t => .fz (enc t)) au) (hX : ∀ x e, Has pn S e → X x e) (hi : ∀ t : τ, immS (.fz (enc t)) = some (enc t))
    (kk : ∀ t r, ROk r (.f (enc t)) → Sm (K r e) (k t) G X) : Sm (callBK n φ K rs e) (p.bind k) G X := by
  unfold callBK
  rw [da.view h kr]
  simp only
  rw [if_pos hn]
  cases p with
  | st => exact ⟨trivial⟩
  | ex x =>
    obtain ⟨_, as, hf'⟩ := hf.run
    rw [hf']
    exact ⟨e, rfl, hX x e h⟩
  | ok t =>
    have hf' : φ (ds.map .fz) = .ok (.fz (enc t)) (au t) := hf.run
    rw [hf']
    simp only [hi t]
    exact kk t _ rfl
/-- raise -/
theorem c_raise {x : Exc} {K : Fl → M γ} (hX : X x e) : Sm ((dRaise x e).bind K) (.ex x : Res α) G X := ⟨e, rfl, hX⟩
/-! try -/
def GT (pn : List Nat) (I : σ → List SD) (K : Fl → M γ) (G : α → γ → Env → Prop) (X : Exc → Env → Prop) : Lp σ α → Fl → Env → Prop
  | .go s, f, e => f = .nx ∧ Has pn (I s) e
  | .bk _, _, _ => True
  | .out t, f, e => Sm (K f e) (.ok t) G X
theorem f_tgo {I : σ → List SD} {K : Fl → M γ} {s : σ} {X' : Exc → Env → Prop} (h : Has pn S e) (w : W S (I s) := by first | exact W.refl _ | (repeat (first | exact W.nil | refine W.rf ?_ | refine W.cz ?_ | refine W.cc ?_ | refine W.vz ?_ | refine W.vo ?_ | refine W.an ?_))) : Sm (okK Fl.nx e) (.ok (.go s)) (GT pn I K G X) X' := ⟨.nx, e, rfl, rfl, h.weak w⟩
theorem f_tout {I : σ → List SD} {K : Fl → M γ} {t : α} {X' : Exc → Env → Prop} (k : Sm (K (.rt r) e) (.ok t) G X) : Sm (okK (Fl.rt r) e) (.ok (.out t)) (GT pn I K G X) X' := ⟨.rt r, e, rfl, k⟩
theorem c_try {h : Exc → Option SV} {m : M Fl} {p : Res (Lp σ α)} {hR : Exc → Option α} {k : σ → Res α} {K : Fl → M γ} (_h : Has pn S e) (I : σ → List SD) (hb : Sm ((m e).bind okK) p (GT pn I K G X) XT)
    (kx : ∀ x t, hR x = some t → ∃ s, h x = some s ∧ okRes s = true ∧ ∀ e1, Sm (K (.rt (svR s)) e1) (.ok t) G X) (kk : ∀ s e', Has pn (I s) e' → Sm (K .nx e') (k s) G X) : Sm ((dTryX h m e).bind K) (tryR p hR k) G X := by
  have hb' := hb.top
  cases p with
  | st => exact ⟨trivial⟩
  | ex x =>
    obtain ⟨e1, h1, _⟩ := hb'
    have h1 : m e = .ex x e1 := h1
    unfold tryR
    simp only
    cases q : hR x with
    | none => exact ⟨trivial⟩
    | some t =>
      obtain ⟨s, q2, q3, kd⟩ := kx _ _ q
      have : dTryX h m e = .ok (.rt (svR s)) e1 := by
        unfold dTryX
        rw [h1]
        simp only
        rw [q2]
        simp only
        rw [if_pos q3]
      rw [this]
      exact kd e1
  | ok l =>
    obtain ⟨f, e1, h1, hg⟩ := hb'
    have h1 : m e = .ok f e1 := h1
    have : dTryX h m e = .ok f e1 := by unfold dTryX; rw [h1]
    rw [this]
    cases l with
    | go s =>
      obtain ⟨rfl, h2⟩ := hg
      exact kk s e1 h2
    | bk s => exact ⟨trivial⟩
    | out t => exact hg
theorem f_rtX {md : List Bool} {ss : List SV} {ro : τ → SV} {au : τ → List SV} {t : τ} {s : SV} {e1 : Env} (q : ro t = s) (qa : au t = ss) (hs : okRes s = true) (hmd : md.all (fun b => !b) = true) (hok : okArgs md ss = true) : Sm (okK (Fl.rt (svR s)) e1) (.ok t) (GF md ss ro au) X := by
  refine ⟨.rt (svR s), e1, rfl, e1, ?_, by rw [qa]; exact outs_f hmd hok⟩
  rw [q]
  cases s <;> first | rfl | cases hs
/-- raise, with fields -/
def raiseR {α : Type} (c : Str) (ns : List Str) (ds : List D) : Res α := if okDs ns.length ds = true then .ex ⟨c, ns.reverse, ds.reverse⟩ else .st
theorem c_raiseF {c : Str} {ns : List Str} {a : M (List RV)} {K : Fl → M γ} (k : Sm ((a e).bind fun rs e => match rs.mapM (view e) with
    | some ds => if okDs ns.length ds = true then .ex ⟨c, ns.reverse, ds.reverse⟩ e else .st
    | none => .st) P G X) : Sm ((dRaiseF c ns a e).bind K) P G X := by
  have : (dRaiseF c ns a e).bind K = (a e).bind fun rs e => match rs.mapM (view e) with
    | some ds => if okDs ns.length ds = true then .ex ⟨c, ns.reverse, ds.reverse⟩ e else .st
    | none => .st := by
    unfold dRaiseF M.bind
    rw [rbind_assoc]
    congr 1; funext rs e
    cases rs.mapM (view e) with
    | none => rfl
    | some ds => simp only; split <;> rfl
  rw [this]; exact k
theorem f_raiseF {c : Str} {ns : List Str} {rs : List RV} {os : List Opd} {ds : List D} (h : Has pn S e) (kr : ROks rs os) (da : Dts S os ds) (hX : ∀ x e, X x e) : Sm (match rs.mapM (view e) with
    | some ds => if okDs ns.length ds = true then (.ex ⟨c, ns.reverse, ds.reverse⟩ e : R γ) else .st
    | none => .st) (raiseR c ns ds : Res α) G X := by
  rw [da.view h kr]
  simp only
  unfold raiseR
  split
  · exact ⟨e, rfl, hX _ _⟩
  · exact ⟨trivial⟩
theorem fs_mkX {md : List Bool} {n : Nat} {m : M Fl} {ss : List SV} {p : Res τ} {ro : τ → SV} {au : τ → List SV} (hmd : md.all (fun b => !b) = true) (S0 : List SD) (hok : okArgs md ss = true) (h0 : F2 S0 (env0 md n ss).sl) (hb : ∀ e, Has (pinIx 0 md) S0 e → Sm ((m e).bind okK) p (GF md ss ro au) XT) : FS true (mkFn md n m ss) p ro au := by
  have hb' := (hb (env0 md n ss) ⟨rfl, h0⟩).top
  cases p with
  | st => exact ⟨trivial⟩
  | ex x =>
    obtain ⟨e, h1, _⟩ := hb'
    refine ⟨rfl, ss, ?_⟩
    unfold mkFn
    rw [if_pos hok, show m (env0 md n ss) = .ex x e from h1]
    simp only
    rw [outs_f hmd hok]
  | ok t =>
    obtain ⟨f, e, h1, e1, h2, h3⟩ := hb'
    refine ⟨?_⟩
    show mkFn md n m ss = .ok (ro t) (au t)
    unfold mkFn
    rw [if_pos hok, show m (env0 md n ss) = .ok f e from h1]
    simp only [h2, h3]
/-- an __init__: its object stands in the first slot -/
def XI : Exc → Env → Prop := fun _ e => ∃ s, e.sl[0]? = some (some s)
theorem xI {s : SV} (h : Has pn (.x s :: S) e) : ∀ x, XI x e := fun _ => by
  obtain ⟨o, h1, h2⟩ := h.slot (i := 0) rfl
  cases h2
  exact ⟨_, h1⟩
theorem fs_mkXI {md : List Bool} {n : Nat} {m : M Fl} {s0 : SV} {ss : List SV} {p : Res τ} {ro : τ → SV} {au : τ → List SV} (hmd : md.all (fun b => !b) = true) (S0 : List SD) (hok : okArgs (true :: md) (s0 :: ss) = true) (h0 : F2 S0 (env0 (true :: md) n (s0 :: ss)).sl) (hb : ∀ e, Has (pinIx 0 (true :: md)) S0 e → Sm ((m e).bind okK) p (GF (true :: md) (s0 :: ss) ro au) XI) : FS true (mkFn (true :: md) n m (s0 :: ss)) p ro au := by
  have hb' := (hb (env0 (true :: md) n (s0 :: ss)) ⟨rfl, h0⟩).top
  cases p with
  | st => exact ⟨trivial⟩
  | ex x =>
    obtain ⟨e, h1, s, h2⟩ := hb'
    refine ⟨rfl, s :: ss, ?_⟩
    unfold mkFn
    rw [if_pos hok, show m (env0 (true :: md) n (s0 :: ss)) = .ex x e from h1]
    simp only
    have ha : okArgs md ss = true := hok
    show (match (match e.sl[0]? with | some (some s) => (match outs (0 + 1) md ss (e.clr 0) with | some r => some (s :: r) | none => none) | _ => none) with | some ss' => FR.ex x ss' | none => FR.st) = _
    rw [h2]
    simp only [outs_f hmd ha]
  | ok t =>
    obtain ⟨f, e, h1, e1, h2, h3⟩ := hb'
    refine ⟨?_⟩
    show mkFn (true :: md) n m (s0 :: ss) = .ok (ro t) (au t)
    unfold mkFn
    rw [if_pos hok, show m (env0 (true :: md) n (s0 :: ss)) = .ok f e from h1]
    simp only [h2, h3]
/-! is True -/
theorem p_isB {a b : M RV} {x y : Bool} (ha : PJ pn S a oa) (hb : PJ pn S b ob) (da : Dt S oa (.bl x) := by first | exact .f | exact .u rfl) (db : Dt S ob (.bl y) := by first | exact .f | exact .u rfl) : PJ pn S (dOp fIsB a b) (.f (.bl (decide (x = y)))) := p_op ha hb da db rfl
theorem p_notB {a b : M RV} {x y : Bool} (ha : PJ pn S a oa) (hb : PJ pn S b ob) (da : Dt S oa (.bl x) := by first | exact .f | exact .u rfl) (db : Dt S ob (.bl y) := by first | exact .f | exact .u rfl) : PJ pn S (dOp fNotB a b) (.f (.bl (!decide (x = y)))) := p_op ha hb da db rfl
theorem f_isB {b c : Bool} {K : RV → M γ} (h : Has pn S e) (k1 : ROk r oa) (k2 : ROk q ob) (k : Sm (K (.fz (.bl (decide (b = c)))) e) P G X) (da : Dt S oa (.bl b) := by first | exact .f | exact .u rfl) (db : Dt S ob (.bl c) := by first | exact .f | exact .u rfl) : Sm (opK2 fIsB r K q e) P G X := f_op h k1 k2 da db rfl k
theorem f_notB {b c : Bool} {K : RV → M γ} (h : Has pn S e) (k1 : ROk r oa) (k2 : ROk q ob) (k : Sm (K (.fz (.bl (!decide (b = c)))) e) P G X) (da : Dt S oa (.bl b) := by first | exact .f | exact .u rfl) (db : Dt S ob (.bl c) := by first | exact .f | exact .u rfl) : Sm (opK2 fNotB r K q e) P G X := f_op h k1 k2 da db rfl k
/-! x *= e -/
def augKM (i : Nat) (x : Int) (K : Fl → M γ) : RV → M γ := fun r e => match view e r with
    | some (.int y) => if (inB x 64 || inB y 64) = true then (match putR i (.fz (.int (x * y))) e with
      | some e' => K .nx e'
      | none => .st) else .st
    | _ => .st
theorem c_augM {i : Nat} {x : Int} {a : M RV} {K : Fl → M γ} (h : Has pn S e) (hi : S[i]? = some (.fz (.int x))) (k : Sm ((a e).bind (augKM i x K)) P G X) : Sm ((dAugM i a e).bind K) P G X := by
  obtain ⟨o, h1, h2⟩ := h.slot hi
  cases h2
  have : (dAugM i a e).bind K = (a e).bind (augKM i x K) := by
    unfold dAugM
    rw [h1]
    simp only [rbind_assoc]
    congr 1; funext r e
    unfold augKM
    cases view e r with
    | none => rfl
    | some d => cases d <;> first | rfl | (simp only; split <;> first | rfl | (cases putR i _ e <;> rfl))
  rw [this]; exact k
theorem f_augM {i : Nat} {x y : Int} {K : Fl → M γ} {k : Int → Res α} (h : Has pn S e) (kr : ROk r o) (kk : ∀ v e', Has pn (S.set i (.fz (.int v))) e' → Sm (K .nx e') (k v) G X) (da : Dt S o (.int y) := by first | exact .f | exact .u rfl) (hi : i ∉ pn := by decide) : Sm (augKM i x K r e) ((mulR x y).bind k) G X := by
  unfold augKM mulR
  rw [da.view h kr, okMul_eq]
  have hi' : i ∉ e.pn := by rw [h.pn]; exact hi
  simp only [putR, if_neg hi']
  split
  · exact kk _ _ (h.setS i rfl)
  · exact ⟨trivial⟩
/-! values of several kinds -/
instance : Enc VF.D := ⟨id⟩
def eqDR (a b : VF.D) : Res Bool := match fEq a b with
  | some (.bl c) => .ok c
  | _ => .st
def neDR (a b : VF.D) : Res Bool := match fNe a b with
  | some (.bl c) => .ok c
  | _ => .st
theorem f_eqD {a b : VF.D} {K : RV → M γ} {k : Bool → Res α} (h : Has pn S e) (k1 : ROk r oa) (k2 : ROk q ob) (kk : ∀ c, Sm (K (.fz (.bl c)) e) (k c) G X) (da : Dt S oa a := by first | exact .f | exact .v rfl | exact .vz rfl | exact .w | exact .y | exact .u rfl) (db : Dt S ob b := by first | exact .f | exact .v rfl | exact .vz rfl | exact .w | exact .y | exact .u rfl) : Sm (opK2 fEq r K q e) ((eqDR a b).bind k) G X := by
  unfold eqDR
  split
  · rename_i c hc
    exact f_op h k1 k2 da db hc (kk c)
  · exact ⟨trivial⟩
theorem f_neD {a b : VF.D} {K : RV → M γ} {k : Bool → Res α} (h : Has pn S e) (k1 : ROk r oa) (k2 : ROk q ob) (kk : ∀ c, Sm (K (.fz (.bl c)) e) (k c) G X) (da : Dt S oa a := by first | exact .f | exact .v rfl | exact .vz rfl | exact .w | exact .y | exact .u rfl) (db : Dt S ob b := by first | exact .f | exact .v rfl | exact .vz rfl | exact .w | exact .y | exact .u rfl) : Sm (opK2 fNe r K q e) ((neDR a b).bind k) G X := by
  unfold neDR
  split
  · rename_i c hc
    exact f_op h k1 k2 da db hc (kk c)
  · exact ⟨trivial⟩
/-! a chain whose end is run -/
theorem f_chainR {f g : Int → Int → Bool} {i j : Int} {c : M RV} {P1 : Res Int} {K : RV → M γ} {k : Bool → Res α} (h : Has pn S e) (k1 : ROk r oa) (k2 : ROk q ob) (hc : f i j = true → Sm ((c e).bind okK) P1 (Ve pn S fun l : Int => .f (enc l)) X)
    (kk : ∀ b e', Has pn S e' → Sm (K (.fz (.bl b)) e') (k b) G X) (da : Dt S oa (.int i) := by first | exact .f | exact .u rfl) (db : Dt S ob (.int j) := by first | exact .f | exact .u rfl) :
    Sm (chK2 (fB f) (fB g) c r K q e) ((if f i j = true then P1.bind fun l => .ok (g j l) else .ok false).bind k) G X := by
  unfold chK2
  rw [da.view h k1, db.view h k2]
  simp only [fB_int, Option.bind, blOf_bl]
  cases hh : f i j with
  | false => exact kk false e h
  | true =>
    have := hc hh
    simp only
    rw [if_pos True.intro, Res.bind_assoc]
    refine this.top.bind fun l p e' hj => ?_
    obtain ⟨hk, he⟩ := hj
    rw [db.view he k2, Dt.view he hk .f, Res.bind_ok]
    exact kk _ e' he
/-! a value of several kinds, taken as one of them -/
def unD {τ : Type} [Dec τ] (d : VF.D) : Res τ := match Dec.dec d with
  | some a => .ok a
  | none => .st
theorem f_unD {τ : Type} [Dec τ] {d : VF.D} {rr : R γ} {k : τ → Res α} (kk : ∀ a : τ, d = enc a → Sm rr (k a) G X) : Sm rr ((unD d).bind k) G X := by
  unfold unD
  cases z : Dec.dec (α := τ) d with
  | none => exact ⟨trivial⟩
  | some a => exact kk a (Dec.de d a z)
@[simp] theorem unD_enc {τ : Type} [Dec τ] (a : τ) : unD (enc a) = .ok a := by unfold unD; rw [Dec.ed]
end
end VF

set_option maxRecDepth 100000
set_option maxHeartbeats 4000000
/-! More plain tools: loops that end early, least and greatest, orders. -/
namespace V
set_option autoImplicit false
open PySem L2 VF
section
variable {α β γ σ τ : Type}
theorem unO_some (x : α) : unO (some x) = .ok x := rfl
def okOf (p : Res α) (d : α) : α := match p with
  | .ok a => a
  | _ => d
theorem okOf_ok {p : Res α} {a d : α} (h : p = .ok a) : okOf p d = a := by rw [h]; rfl
theorem okOf_hd {p : Res α} {d : α} {Q : α → Prop} (h : Hd p Q) : p = .ok (okOf p d) ∧ Q (okOf p d) := by
  obtain ⟨a, h1, h2⟩ := h
  rw [okOf_ok h1]; exact ⟨h1, h2⟩
/-- a loop that passes on or ends with a true answer -/
theorem forR_inv {f : α → σ → Res (Lp σ τ)} {k : σ → Res τ} {Q : τ → Prop} : ∀ {xs : List α} {s : σ} (I : Nat → σ → Prop), I 0 s → (∀ (i : Nat) (h : i < xs.length) s, I i s → Hd (f xs[i] s) fun l => (∃ s', l = .go s' ∧ I (i + 1) s') ∨ ∃ t, l = .out t ∧ Q t) → (∀ s, I xs.length s → Hd (k s) Q) → Hd (forR f xs s k) Q
  | [], s, I, h0, _, hk => hk s h0
  | x :: xs, s, I, h0, step, hk => by
    obtain ⟨l, h1, h2⟩ := step 0 (by simp) s h0
    unfold forR
    rw [show f x s = .ok l from h1, Res.bind_ok]
    rcases h2 with ⟨s', rfl, h2⟩ | ⟨t, rfl, h2⟩
    · exact forR_inv (fun i => I (i + 1)) h2 (fun i h s hs => step (i + 1) (by simpa using h) s hs) hk
    · exact Hd.ok h2
/-- a search -/
theorem forR_find {f : α → Unit → Res (Lp Unit τ)} {k : Unit → Res τ} {c : α → Bool} {g : α → τ} : ∀ {xs : List α}, (∀ x ∈ xs, f x () = if c x = true then .ok (.out (g x)) else .ok (.go ())) → forR f xs () k = (xs.find? c).elim (k ()) fun x => .ok (g x)
  | [], _ => rfl
  | x :: xs, h => by
    unfold forR
    rw [h x List.mem_cons_self, List.find?_cons]
    cases q : c x with
    | true => simp
    | false => exact forR_find fun y hy => h y (List.mem_cons_of_mem _ hy)
/-- a loop that ends with one answer at the first item that has the mark -/
theorem forR_any {f : α → Unit → Res (Lp Unit τ)} {k : Unit → Res τ} {c : α → Bool} {v : τ} {xs : List α} (h : ∀ x ∈ xs, f x () = if c x = true then .ok (.out v) else .ok (.go ())) : forR f xs () k = if xs.any c = true then .ok v else k () := by
  rw [forR_find (c := c) (g := fun _ => v) h]
  cases q : xs.find? c with
  | none =>
    rw [if_neg]; rfl
    intro e
    rw [List.any_eq_true] at e
    obtain ⟨x, hx, hc⟩ := e
    exact List.find?_eq_none.mp q x hx hc
  | some x => rw [if_pos (List.any_eq_true.mpr ⟨x, List.mem_of_find?_eq_some q, List.find?_some q⟩)]; rfl
theorem foldR_pure {f : α → σ → Res σ} {g : σ → α → σ} : ∀ {xs : List α} {s : σ}, (∀ x ∈ xs, ∀ s, f x s = .ok (g s x)) → foldR f xs s = .ok (xs.foldl g s)
  | [], s, _ => rfl
  | x :: xs, s, h => by
    unfold foldR
    rw [h x List.mem_cons_self s, Res.bind_ok, List.foldl_cons]
    exact foldR_pure fun y hy => h y (List.mem_cons_of_mem _ hy)
theorem mapC_id {xs : List α} (h : xs.length ≤ 1000000) : mapC (fun y => Res.ok y) xs = .ok xs := by
  rw [mapC_ok (g := fun y => y) h fun _ _ => rfl, List.map_id']
theorem filter_uniq [DecidableEq α] {p : α → Bool} {o : α} : ∀ {xs : List α}, xs.Nodup → o ∈ xs → (∀ x ∈ xs, p x = true ↔ x = o) → xs.filter p = [o]
  | [], _, h, _ => absurd h List.not_mem_nil
  | x :: xs, nd, h, hp => by
    rw [List.nodup_cons] at nd
    by_cases c : x = o
    · subst c
      rw [List.filter_cons, if_pos ((hp x List.mem_cons_self).mpr rfl)]
      congr 1
      rw [List.filter_eq_nil_iff]
      intro y hy e
      rw [(hp y (List.mem_cons_of_mem _ hy)).mp e] at hy
      exact nd.1 hy
    · rw [List.filter_cons, if_neg (fun e => c ((hp x List.mem_cons_self).mp e))]
      refine filter_uniq nd.2 ?_ fun y hy => hp y (List.mem_cons_of_mem _ hy)
      rcases List.mem_cons.mp h with e | e
      · exact absurd e.symm c
      · exact e
theorem filter_last {f : α → Bool} {l : List α} {x : α} (h : (l.filter f).getLast? = some x) : ∃ j : Nat, l[j]? = some x ∧ f x = true ∧ ∀ (i : Nat) (y : α), j < i → l[i]? = some y → f y = false := by
  induction l with
  | nil => simp at h
  | cons a l ih =>
    rw [List.filter_cons] at h
    by_cases hl : l.filter f = []
    · rw [hl] at h
      by_cases ha : f a = true
      · rw [if_pos ha] at h
        have e : a = x := by simpa using h
        subst e
        refine ⟨0, rfl, ha, fun i y hi hy => ?_⟩
        obtain ⟨i, rfl⟩ : ∃ k, i = k + 1 := ⟨i - 1, by omega⟩
        have := List.filter_eq_nil_iff.mp hl y (List.mem_of_getElem? (by simpa using hy))
        simpa using this
      · rw [if_neg ha] at h
        simp at h
    · have h2 : (l.filter f).getLast? = some x := by
        by_cases ha : f a = true
        · rw [if_pos ha, List.getLast?_cons_of_ne_nil hl] at h; exact h
        · rw [if_neg ha] at h; exact h
      obtain ⟨j, h3, h4, h5⟩ := ih h2
      refine ⟨j + 1, by simpa using h3, h4, fun i y hi hy => ?_⟩
      obtain ⟨i, rfl⟩ : ∃ k, i = k + 1 := ⟨i - 1, by omega⟩
      exact h5 i y (by omega) (by simpa using hy)
end
theorem maxR_spec {xs : List Int} (h : xs ≠ []) : ∃ m, maxR xs = .ok m ∧ m ∈ xs ∧ ∀ x ∈ xs, x ≤ m := by
  have key : ∀ (x : Int) (ys : List Int), maxI x ys ∈ x :: ys ∧ ∀ z ∈ x :: ys, z ≤ maxI x ys := fun x ys => by
    obtain ⟨h1, h2, h3⟩ := maxI_ge ys x
    refine ⟨?_, fun z hz => ?_⟩
    · rcases h3 with h3 | h3
      · rw [h3]; exact List.mem_cons_self
      · exact List.mem_cons_of_mem _ h3
    · rcases List.mem_cons.mp hz with rfl | hz
      · exact h1
      · exact h2 z hz
  match xs with
  | [] => exact absurd rfl h
  | [x] => exact ⟨x, rfl, List.mem_cons_self, fun z hz => by rw [List.mem_singleton] at hz; omega⟩
  | [x, y] => exact ⟨_, rfl, (key x [y]).1, (key x [y]).2⟩
  | x :: y :: z :: r => exact ⟨_, rfl, (key x (y :: z :: r)).1, (key x (y :: z :: r)).2⟩
theorem minR_spec {xs : List Int} (h : xs ≠ []) : ∃ m, minR xs = .ok m ∧ m ∈ xs ∧ ∀ x ∈ xs, m ≤ x := by
  have key : ∀ (x : Int) (ys : List Int), minI x ys ∈ x :: ys ∧ ∀ z ∈ x :: ys, minI x ys ≤ z := fun x ys => by
    obtain ⟨h1, h2, h3⟩ := minI_le ys x
    refine ⟨?_, fun z hz => ?_⟩
    · rcases h3 with h3 | h3
      · rw [h3]; exact List.mem_cons_self
      · exact List.mem_cons_of_mem _ h3
    · rcases List.mem_cons.mp hz with rfl | hz
      · exact h1
      · exact h2 z hz
  match xs with
  | [] => exact absurd rfl h
  | [x] => exact ⟨x, rfl, List.mem_cons_self, fun z hz => by rw [List.mem_singleton] at hz; omega⟩
  | [x, y] => exact ⟨_, rfl, (key x [y]).1, (key x [y]).2⟩
  | x :: y :: z :: r => exact ⟨_, rfl, (key x (y :: z :: r)).1, (key x (y :: z :: r)).2⟩
/-- the number at a place -/
abbrev nt (L : List Int) (j : Nat) : Int := L.getD j 0
theorem nt_mem {L : List Int} {j : Nat} (h : j < L.length) : nt L j ∈ L := by unfold nt; rw [getD_lt 0 h]; exact List.getElem_mem _
theorem mem_nt {L : List Int} {x : Int} (h : x ∈ L) : ∃ j, j < L.length ∧ nt L j = x := by
  obtain ⟨j, hj, rfl⟩ := List.mem_iff_getElem.mp h
  exact ⟨j, hj, getD_lt 0 hj⟩
theorem erase_perm {α : Type} : ∀ {l : List α} {j : Nat} (h : j < l.length), (l[j] :: l.eraseIdx j).Perm l
  | x :: l, 0, h => .refl _
  | x :: l, j + 1, h => by
    simp only [List.getElem_cons_succ, List.eraseIdx_cons_succ]
    exact (List.Perm.swap _ _ _).trans ((erase_perm (l := l) (by simpa using h)).cons x)
theorem order_hd (b : Bx) {n : Int} (h : -1000 ≤ n) (h2 : n ≤ 1000) : Hd (p__law_order b n) fun q => q.1.Perm (irng 0 n.toNat) := by
  unfold p__law_order
  rw [rng1_ok (by omega) (by omega), Res.bind_ok, mapC_id (by rw [irng_len]; omega), Res.bind_ok, Res.bind_ok, Res.bind_ok, Res.bind_ok]
  refine (foldR_hd (fun i (s : Bx × List Int × List Int) => (s.2.1 ++ s.2.2).Perm (irng 0 n.toNat) ∧ s.2.2.length = i) (by simp) fun i hi s hs => ?_).bind fun s hs => Hd.ok ?_
  · obtain ⟨b, l, o⟩ := s
    obtain ⟨h3, h4⟩ := hs
    dsimp only at h3 h4 ⊢
    have hl := h3.length_eq
    rw [List.length_append, irng_len] at hl
    rw [irng_len] at hi
    refine hd_draw (by decide) fun v b v0 v1 => ?_
    dsimp only
    have lp : (0 : Int) < l.length := by omega
    rw [modR_ok lp, Res.bind_ok]
    have m0 := Int.emod_nonneg v (show (l.length : Int) ≠ 0 by omega)
    have m1 := Int.emod_lt_of_pos v lp
    obtain ⟨j, hj⟩ := Int.eq_ofNat_of_zero_le m0
    rw [hj] at m1 ⊢
    have hjl : j < l.length := by omega
    rw [popR_nat hjl (by omega), Res.bind_ok]
    dsimp only
    rw [appR_ok (by omega), Res.bind_ok]
    refine Hd.ok ⟨?_, by simp [h4]⟩
    have p := erase_perm hjl
    dsimp only
    refine List.Perm.trans ?_ h3
    have : (l.eraseIdx j ++ (o ++ [l[j]])).Perm (l[j] :: l.eraseIdx j ++ o) := by
      rw [← List.append_assoc]
      exact List.perm_append_comm
    exact this.trans (p.append_right o)
  · obtain ⟨b, l, o⟩ := s
    obtain ⟨h3, h4⟩ := hs
    dsimp only at h3 h4 ⊢
    have hl := h3.length_eq
    rw [List.length_append, irng_len, h4, irng_len] at hl
    have : l = [] := List.eq_nil_of_length_eq_zero (by omega)
    subst this
    simpa using h3
/-! the last place of the least number, the first of the greatest -/
structure LM (L : List Int) (j : Nat) : Prop where
  lt : j < L.length
  le : ∀ i, i < L.length → nt L j ≤ nt L i
  last : ∀ i, i < L.length → j < i → nt L j < nt L i
theorem LM.uniq {L : List Int} {i j : Nat} (h : LM L i) (k : LM L j) : i = j := by
  have a1 := h.le j k.lt
  have a2 := k.le i h.lt
  rcases Nat.lt_trichotomy i j with c | c | c
  · have := h.last j k.lt c; omega
  · exact c
  · have := k.last i h.lt c; omega
structure FM (L : List Int) (j : Nat) : Prop where
  lt : j < L.length
  ge : ∀ i, i < L.length → nt L i ≤ nt L j
  first : ∀ i, i < j → nt L i < nt L j
theorem fm_ok {L : List Int} (h : L ≠ []) : ∃ j, FM L j ∧ maxR L = .ok (nt L j) ∧ idxR L (nt L j) = .ok (j : Int) := by
  obtain ⟨m, h1, h2, h3⟩ := maxR_spec h
  cases q : L.findIdx? (fun y => decide (y = m)) with
  | none =>
    rw [List.findIdx?_eq_none_iff] at q
    have := q m h2
    simp at this
  | some j =>
    have q' := q
    rw [List.findIdx?_eq_some_iff_getElem] at q
    obtain ⟨a1, a2, a3⟩ := q
    have e : nt L j = m := by unfold nt; rw [getD_lt 0 a1]; exact of_decide_eq_true a2
    refine ⟨j, ⟨a1, fun i hi => ?_, fun i hi => ?_⟩, by rw [e]; exact h1, ?_⟩
    · rw [e]; exact h3 _ (nt_mem hi)
    · rw [e]
      have b1 := h3 _ (nt_mem (L := L) (j := i) (by omega))
      have b2 := a3 i hi
      have b3 : nt L i = L[i] := getD_lt 0 (by omega)
      have : ¬ L[i] = m := by simpa using b2
      omega
    · unfold idxR
      rw [e, q']
end V

set_option maxHeartbeats 4000000
namespace V
section
set_option autoImplicit false
open PySem L2 VF
open Enc (enc)
def d_is_greater : M Fl := (dRet (dOp (fB fun i j => decide (j < i)) (dOp fMul (dVar 0) (dVar 3)) (dOp fMul (dVar 2) (dVar 1))))
def φ_is_greater : Fn := mkFn0 [false, false, false, false] 4 d_is_greater
def d_next_seat : M Fl := (dSeq (dSet 3 (dC (.int 0)))
  (dSeq (dFor (dRng2 (dCons (dC (.int 1)) (dCons (dCB lenD (dCons (dVar 0) dNil)) dNil))) (gN 4) (dIf (dTru (dCallB 4 φ_is_greater (dCons (dIx (dVar 0) (dVar 4)) (dCons (dOp (fI (· + ·)) (dOp fMul (dVar 2) (dIx (dVar 1) (dVar 4))) (dC (.int 1))) (dCons (dIx (dVar 0) (dVar 3)) (dCons (dOp (fI (· + ·)) (dOp fMul (dVar 2) (dIx (dVar 1) (dVar 3))) (dC (.int 1))) dNil)))))) (dSet 3 (dVar 4)) dNext))
  (dRet (dVar 3))))
def φ_next_seat : Fn := mkFn0 [false, false, false] 5 d_next_seat
def d_by_averages : M Fl := (dSeq (dSet 3 (dComp [5] (dIt (dVar 0)) (gN 5) dYes (dC (.int 0))))
  (dSeq (dIf (dNot (dTru (dVar 0))) (dRet (dVar 3)) dNext)
  (dSeq (dFor (dRng1 (dCons (dVar 1) dNil)) (gN 4) (dAugIx 3 (dCallB 3 φ_next_seat (dCons (dVar 0) (dCons (dVar 3) (dCons (dVar 2) dNil)))) (· + ·) (dC (.int 1))))
  (dRet (dVar 3)))))
def φ_by_averages : Fn := mkFn0 [false, false, false] 6 d_by_averages
def d_by_remainders : M Fl := (dSeq (dSet 2 (dCB sumD (dCons (dVar 0) dNil)))
  (dSeq (dIf (dT (dOp fEq (dVar 2) (dC (.int 0)))) (dRet (dComp [7] (dIt (dVar 0)) (gN 7) dYes (dC (.int 0)))) dNext)
  (dSeq (dSet 3 (dComp [7] (dIt (dVar 0)) (gN 7) dYes (dOp fDiv (dOp fMul (dVar 7) (dVar 1)) (dVar 2))))
  (dSeq (dSet 4 (dComp [7] (dIt (dVar 0)) (gN 7) dYes (dOp fMod (dOp fMul (dVar 7) (dVar 1)) (dVar 2))))
  (dSeq (dFor (dRng1 (dCons (dOp (fI (· - ·)) (dVar 1) (dCB sumD (dCons (dVar 3) dNil))) dNil)) (gN 5) (dSeq (dSet 6 (dMt indexD (dVar 4) (dCons (dCB maxD (dCons (dVar 4) dNil)) dNil)))
  (dSeq (dAugIx 3 (dVar 6) (· + ·) (dC (.int 1)))
  (dSetIx 4 (dVar 6) (dC (.int (-1)))))))
  (dRet (dVar 3)))))))
def φ_by_remainders : Fn := mkFn0 [false, false] 8 d_by_remainders
def d__law_are_values : M Fl := (dSeq (dIf (dNot (dTru (dCB isiD (dCons (dVar 0) (dCons (dC (.ty "list")) dNil))))) (dRet (dC (.bl false))) dNext)
  (dSeq (dFor (dIt (dVar 0)) (gN 2) (dIf (dOr (dNot (dTru (dCallB 1 φ__law_is_int (dCons (dVar 2) dNil)))) (dNot (dT (dChain (fB fun i j => decide (i ≤ j)) (fB fun i j => decide (i < j)) (dC (.int 0)) (dVar 2) (dVar 1))))) (dRet (dC (.bl false))) dNext))
  (dRet (dC (.bl true)))))
def φ__law_are_values : Fn := mkFn0 [false, false] 3 d__law_are_values
def d__law_next : M Fl := (dSeq (dSet 3 (dC (.int 0)))
  (dSeq (dFor (dRng1 (dCons (dCB lenD (dCons (dVar 0) dNil)) dNil)) (gN 4) (dIf (dT (dOp (fB fun i j => decide (j < i)) (dOp fMul (dIx (dVar 0) (dVar 4)) (dOp (fI (· + ·)) (dOp fMul (dVar 2) (dIx (dVar 1) (dVar 3))) (dC (.int 1)))) (dOp fMul (dIx (dVar 0) (dVar 3)) (dOp (fI (· + ·)) (dOp fMul (dVar 2) (dIx (dVar 1) (dVar 4))) (dC (.int 1)))))) (dSet 3 (dVar 4)) dNext))
  (dRet (dVar 3))))
def φ__law_next : Fn := mkFn0 [false, false, false] 5 d__law_next
def d__law_rests : M Fl := (dSeq (dSet 3 (dCB sumD (dCons (dVar 0) dNil)))
  (dSeq (dSet 4 (dLst dNil))
  (dSeq (dFor (dRng1 (dCons (dCB lenD (dCons (dVar 0) dNil)) dNil)) (gN 5) (dSeq (dSet 6 (dOp (fI (· - ·)) (dIx (dVar 2) (dVar 5)) (dOp fDiv (dOp fMul (dIx (dVar 0) (dVar 5)) (dVar 1)) (dVar 3))))
  (dSeq (dIf (dAnd (dT (dOp fNe (dVar 6) (dC (.int 0)))) (dT (dOp fNe (dVar 6) (dC (.int 1))))) (dRet (dC (.bl false))) dNext)
  (dDrop (dApp 4 (dVar 6))))))
  (dSeq (dFor (dRng1 (dCons (dCB lenD (dCons (dVar 0) dNil)) dNil)) (gN 5) (dFor (dRng1 (dCons (dCB lenD (dCons (dVar 0) dNil)) dNil)) (gN 7) (dSeq (dSet 8 (dOp fMod (dCB intD (dCons (dOp fMul (dIx (dVar 0) (dVar 5)) (dVar 1)) dNil)) (dVar 3)))
  (dSeq (dSet 9 (dOp fMod (dCB intD (dCons (dOp fMul (dIx (dVar 0) (dVar 7)) (dVar 1)) dNil)) (dVar 3)))
  (dIf (dAnd (dT (dOp fEq (dIx (dVar 4) (dVar 5)) (dC (.int 0)))) (dAnd (dT (dOp fEq (dIx (dVar 4) (dVar 7)) (dC (.int 1)))) (dOr (dT (dOp (fB fun i j => decide (j < i)) (dVar 8) (dVar 9))) (dAnd (dT (dOp fEq (dVar 8) (dVar 9))) (dT (dOp (fB fun i j => decide (i < j)) (dVar 5) (dVar 7))))))) (dRet (dC (.bl false))) dNext)))))
  (dRet (dC (.bl true)))))))
def φ__law_rests : Fn := mkFn0 [false, false, false] 10 d__law_rests
def d_law_0 : M Fl := (dSet 1 (dLst (dCons (dCall [false, false, false] φ__law_digits (dCons (dVar 0) (dCons (dC (.int 0)) (dCons (dC (.int 63)) dNil)))) (dCons (dC (.int 0)) dNil))))
def d_law_1 : M Fl := (dSet 2 (dComp [9] (dRng1 (dCons (dCall [true, false] φ__law_draw (dCons (dVar 1) (dCons (dC (.int 7)) dNil))) dNil)) (gN 9) dYes (dCall [true, false] φ__law_draw (dCons (dVar 1) (dCons (dC (.int 41)) dNil)))))
def d_law_2 : M Fl := (dSet 3 (dCall [true, false] φ__law_draw (dCons (dVar 1) (dCons (dC (.int 13)) dNil))))
def d_law_3 : M Fl := (dSet 4 (dOp (fI (· + ·)) (dC (.int 1)) (dCall [true, false] φ__law_draw (dCons (dVar 1) (dCons (dC (.int 3)) dNil)))))
def d_law_4 : M Fl := (dSet 5 (dComp [10] (dIt (dVar 2)) (gN 10) dYes (dVar 10)))
def d_law_5 : M Fl := (dSet 6 (dComp [10] (dIt (dVar 2)) (gN 10) dYes (dC (.int 0))))
def d_law_6 : M Fl := (dIf (dT (dOp (fB fun i j => decide (j < i)) (dCB lenD (dCons (dVar 2) dNil)) (dC (.int 0)))) (dFor (dRng1 (dCons (dVar 3) dNil)) (gN 8) (dSeq (dIf (dT (dOp fNe (dCallB 3 φ_next_seat (dCons (dVar 2) (dCons (dVar 6) (dCons (dVar 4) dNil)))) (dCallB 3 φ__law_next (dCons (dVar 2) (dCons (dVar 6) (dCons (dVar 4) dNil)))))) (dRet (dC (.bl false))) dNext)
  (dSeq (dSet 11 (dCallB 3 φ__law_next (dCons (dVar 2) (dCons (dVar 6) (dCons (dVar 4) dNil)))))
  (dSetIx 6 (dVar 11) (dOp (fI (· + ·)) (dIx (dVar 6) (dVar 11)) (dC (.int 1))))))) dNext)
def d_law_7 : M Fl := (dIf (dOr (dT (dOp fNe (dCall [false, false, false] φ_by_averages (dCons (dVar 2) (dCons (dVar 3) (dCons (dVar 4) dNil)))) (dVar 6))) (dT (dOp fNe (dVar 2) (dVar 5)))) (dRet (dC (.bl false))) dNext)
def d_law_8 : M Fl := (dIf (dAnd (dT (dOp fEq (dVar 4) (dC (.int 1)))) (dT (dOp fNe (dCall [false, false, false] φ_by_averages (dCons (dVar 2) (dCons (dVar 3) (dCons (dC (.int 1)) dNil)))) (dVar 6)))) (dRet (dC (.bl false))) dNext)
def d_law_9 : M Fl := (dSet 7 (dCall [false, false] φ_by_remainders (dCons (dVar 2) (dCons (dVar 3) dNil))))
def d_law_10 : M Fl := (dIf (dOr (dNot (dTru (dCB isiD (dCons (dVar 7) (dCons (dC (.ty "list")) dNil))))) (dOr (dT (dOp fNe (dCB lenD (dCons (dVar 7) dNil)) (dCB lenD (dCons (dVar 2) dNil)))) (dT (dOp fNe (dVar 2) (dVar 5))))) (dRet (dC (.bl false))) dNext)
def d_law_11 : M Fl := (dIf (dT (dOp fEq (dCB sumD (dCons (dVar 2) dNil)) (dC (.int 0)))) (dRet (dOp fEq (dVar 7) (dComp [10] (dIt (dVar 2)) (gN 10) dYes (dC (.int 0))))) dNext)
def d_law_12 : M Fl := (dRet (dAndV (dOp fEq (dCB sumD (dCons (dVar 7) dNil)) (dVar 3)) (dCallB 3 φ__law_rests (dCons (dVar 2) (dCons (dVar 3) (dCons (dVar 7) dNil))))))
def d_law : M Fl := (dSeq d_law_0 (dSeq d_law_1 (dSeq d_law_2 (dSeq d_law_3 (dSeq d_law_4 (dSeq d_law_5 (dSeq d_law_6 (dSeq d_law_7 (dSeq d_law_8 (dSeq d_law_9 (dSeq d_law_10 (dSeq d_law_11 d_law_12))))))))))))
def φ_law : Fn := mkFn0 [false] 12 d_law
def p_is_greater (number : Int) (divisor : Int) (other : Int) (other_divisor : Int) : Res Bool :=
(mulR number other_divisor).bind fun t5 =>
(mulR other divisor).bind fun t10 =>
Res.ok (decide (t10 < t5))
theorem ss_is_greater (number : Int) (divisor : Int) (other : Int) (other_divisor : Int) : FS false (φ_is_greater [.fz (enc number), .fz (enc divisor), .fz (enc other), .fz (enc other_divisor)]) (p_is_greater number divisor other other_divisor) (fun t => .fz (enc t)) (fun t => [.fz (enc number), .fz (enc divisor), .fz (enc other), .fz (enc other_divisor)]) := by
  refine fs_mk0 [.fz (enc number), .fz (enc divisor), .fz (enc other), .fz (enc other_divisor)] rfl (by repeat (first | exact trivial | refine ⟨rfl, ?_⟩)) fun e0 h0 => ?_
  unfold p_is_greater
  unfold d_is_greater
  refine c_ret ?_
  refine c_op ?_
  refine c_op ?_
  refine c_pure h0 (p_fz rfl) fun r1 k2 => ?_
  refine c_op2 ?_
  refine c_pure h0 (p_fz rfl) fun r3 k4 => ?_
  refine f_mul h0 k2 k4 (kk := fun t5 => ?_)
  refine c_op2 ?_
  refine c_op ?_
  refine c_pure h0 (p_fz rfl) fun r6 k7 => ?_
  refine c_op2 ?_
  refine c_pure h0 (p_fz rfl) fun r8 k9 => ?_
  refine f_mul h0 k7 k9 (kk := fun t10 => ?_)
  refine f_cmp h0 rk_f rk_f (kk := ?_)
  refine f_ret ?_
  exact f_rt h0 rk_f .f (.f (.f (.f (.f .nil))))
def p_next_seat (numbers : List Int) (seats : List Int) (step : Int) : Res Int :=
(Res.ok (0 : Int)).bind fun best =>
(rngR 1 ((numbers.length : Int))).bind fun xs6 =>
(foldR (fun (option : Int) best =>
(geti numbers option).bind fun t54 =>
(geti seats option).bind fun t61 =>
(mulR step t61).bind fun t62 =>
(geti numbers best).bind fun t69 =>
(geti seats best).bind fun t76 =>
(mulR step t76).bind fun t77 =>
(p_is_greater t54 ((t62 + 1)) t69 ((t77 + 1))).bind fun t80 =>
(if t80 = true then
(Res.ok (option : Int)).bind fun best =>
Res.ok best
else
Res.ok best).bind fun best =>
Res.ok best) xs6 best).bind fun best =>
Res.ok best
theorem ss_next_seat (numbers : List Int) (seats : List Int) (step : Int) : FS false (φ_next_seat [.fz (enc numbers), .fz (enc seats), .fz (enc step)]) (p_next_seat numbers seats step) (fun t => .fz (enc t)) (fun t => [.fz (enc numbers), .fz (enc seats), .fz (enc step)]) := by
  refine fs_mk0 [.fz (enc numbers), .fz (enc seats), .fz (enc step), .clr, .clr] rfl (by repeat (first | exact trivial | refine ⟨rfl, ?_⟩)) fun e0 h0 => ?_
  unfold p_next_seat
  unfold d_next_seat
  refine c_seq ?_
  refine c_set ?_
  refine c_pure h0 (p_c) fun r1 k2 => ?_
  refine f_setL (v := (0 : Int)) (fun v => .fz (enc v)) h0 k2 .f (by decide) fun best _ h3 => ?_
  try dsimp only [List.set_cons_zero, List.set_cons_succ] at h3
  refine c_nx ?_
  refine c_seq ?_
  refine c_for ?_
  refine c_rng2 ?_
  refine c_pureA h3 (pa_cons' (p_c) (pa_cons' (p_len (p_fz rfl)) pa_nil')) fun r4 k5 => ?_
  refine f_rng2' h3 k5 fun xs6 => ?_
  refine f_fold (fun (s : Int) => [.fz (enc numbers), .fz (enc seats), .fz (enc step), .fz (enc s), .cf]) (fun _ _ => tg_n) ?_ ?_ h3 
  · rintro option best _ h49
    try dsimp only [List.set_cons_zero, List.set_cons_succ] at h49 ⊢
    refine c_if ?_
    refine c_tru ?_
    refine c_callB ?_
    refine c_cons ?_
    refine c_ix ?_
    refine c_pure h49 (p_fz rfl) fun r50 k51 => ?_
    refine c_ix2 ?_
    refine c_pure h49 (p_fz rfl) fun r52 k53 => ?_
    refine f_ix (xs := numbers) h49 k51 k53 fun t54 => ?_
    refine c_cons2 ?_
    refine c_cons ?_
    refine c_op ?_
    refine c_op ?_
    refine c_pure h49 (p_fz rfl) fun r55 k56 => ?_
    refine c_op2 ?_
    refine c_ix ?_
    refine c_pure h49 (p_fz rfl) fun r57 k58 => ?_
    refine c_ix2 ?_
    refine c_pure h49 (p_fz rfl) fun r59 k60 => ?_
    refine f_ix (xs := seats) h49 k58 k60 fun t61 => ?_
    refine f_mul h49 k56 rk_f (kk := fun t62 => ?_)
    refine c_op2 ?_
    refine c_pure h49 (p_c) fun r63 k64 => ?_
    refine f_int h49 rk_f k64 (kk := ?_)
    refine c_cons2 ?_
    refine c_cons ?_
    refine c_ix ?_
    refine c_pure h49 (p_fz rfl) fun r65 k66 => ?_
    refine c_ix2 ?_
    refine c_pure h49 (p_fz rfl) fun r67 k68 => ?_
    refine f_ix (xs := numbers) h49 k66 k68 fun t69 => ?_
    refine c_cons2 ?_
    refine c_cons ?_
    refine c_op ?_
    refine c_op ?_
    refine c_pure h49 (p_fz rfl) fun r70 k71 => ?_
    refine c_op2 ?_
    refine c_ix ?_
    refine c_pure h49 (p_fz rfl) fun r72 k73 => ?_
    refine c_ix2 ?_
    refine c_pure h49 (p_fz rfl) fun r74 k75 => ?_
    refine f_ix (xs := seats) h49 k73 k75 fun t76 => ?_
    refine f_mul h49 k71 rk_f (kk := fun t77 => ?_)
    refine c_op2 ?_
    refine c_pure h49 (p_c) fun r78 k79 => ?_
    refine f_int h49 rk_f k79 (kk := ?_)
    refine c_cons2 ?_
    refine c_nil ?_
    refine f_cons ?_
    refine f_cons ?_
    refine f_cons ?_
    refine f_cons ?_
    refine f_callB h49 (rks rk_f (rks rk_f (rks rk_f (rks rk_f rks0)))) (.cons .f (.cons .f (.cons .f (.cons .f .nil)))) rfl (ss_is_greater t54 ((t62 + 1)) t69 ((t77 + 1))) imm_B fun t80 r81 k82 => ?_
    refine f_truB h49 k82 ?_
    refine f_ifJ h49 (fun (s : Int) => [.fz (enc numbers), .fz (enc seats), .fz (enc step), .fz (enc s), .fz (enc option)]) (fun _ => ?_) (fun _ => ?_) ?_
    · refine c_set ?_
      refine c_pure h49 (p_fz rfl) fun r87 k88 => ?_
      refine f_setL (v := (option : Int)) (fun v => .fz (enc v)) h49 k88 .f (by decide) fun best _ h89 => ?_
      try dsimp only [List.set_cons_zero, List.set_cons_succ] at h89
      exact f_jn h89 
    · refine c_next ?_
      exact f_jn h49 
    rintro best _ h91
    try dsimp only [List.set_cons_zero, List.set_cons_succ] at h91 ⊢
    exact f_jc h91 
  rintro best _ h92
  try dsimp only [List.set_cons_zero, List.set_cons_succ] at h92 ⊢
  refine c_nx ?_
  refine c_ret ?_
  refine c_pure h92 (p_fz rfl) fun r93 k94 => ?_
  refine f_ret ?_
  exact f_rt h92 k94 .f (.f (.f (.f .nil)))
def p_by_averages (numbers : List Int) (many : Int) (step : Int) : Res (List Int) :=
(mapC (fun (number : Int) =>
Res.ok 0) numbers).bind fun t7 =>
(Res.ok (t7 : List Int)).bind fun seats =>
if (!(!numbers.isEmpty)) = true then
Res.ok seats
else
(rng1R many).bind fun xs16 =>
(foldR (fun (turn : Int) seats =>
(p_next_seat numbers seats step).bind fun t26 =>
(augR seats t26 (· + ·) 1).bind fun seats =>
Res.ok seats) xs16 seats).bind fun seats =>
Res.ok seats
theorem ss_by_averages (numbers : List Int) (many : Int) (step : Int) : FS false (φ_by_averages [.fz (enc numbers), .fz (enc many), .fz (enc step)]) (p_by_averages numbers many step) (fun t => .ol (fzs (encs t))) (fun t => [.fz (enc numbers), .fz (enc many), .fz (enc step)]) := by
  refine fs_mk0 [.fz (enc numbers), .fz (enc many), .fz (enc step), .clr, .clr, .clr] rfl (by repeat (first | exact trivial | refine ⟨rfl, ?_⟩)) fun e0 h0 => ?_
  unfold p_by_averages
  unfold d_by_averages
  refine c_seq ?_
  refine c_set ?_
  refine c_comp ?_
  refine c_it ?_
  refine c_pure h0 (p_fz rfl) fun r1 k2 => ?_
  refine f_it (xs := numbers) h0 k2 .f fun _ h3 => ?_
  refine f_mapC (ψ := Int) h3 (fun _ => tg_n) ?_ fun t7 r8 _ k9 h10 => ?_
  · rintro number _ h4
    try dsimp only [List.set_cons_zero, List.set_cons_succ, wipeS] at h4 ⊢
    refine c_pure h4 (p_c) fun r5 k6 => ?_
    exact f_el (v := 0) h4 k6  
  refine f_setL (v := (t7 : List Int)) (fun v => .ol (encs v)) h10 k9 .w (by decide) fun seats _ h11 => ?_
  try dsimp only [List.set_cons_zero, List.set_cons_succ] at h11
  refine c_nx ?_
  refine c_seq ?_
  refine c_if ?_
  refine c_pureB h11 (b_not (b_truL (p_fz rfl))) ?_
  refine f_if (fun _ => ?_) (fun _ => ?_)
  · refine c_ret ?_
    refine c_pure h11 (p_ol rfl) fun r12 k13 => ?_
    refine f_ret ?_
    exact f_rt h11 k13 (.v rfl (by decide)) (.f (.f (.f .nil)))
  · refine c_next ?_
    refine c_nx ?_
    refine c_seq ?_
    refine c_for ?_
    refine c_rng1 ?_
    refine c_pureA h11 (pa_cons' (p_fz rfl) pa_nil') fun r14 k15 => ?_
    refine f_rng1' h11 k15 fun xs16 => ?_
    refine f_fold (fun (s : List Int) => [.fz (enc numbers), .fz (enc many), .fz (enc step), .ol (encs s), .cf, .clr]) (fun _ _ => tg_n) ?_ ?_ h11 
    · rintro turn seats _ h23
      try dsimp only [List.set_cons_zero, List.set_cons_succ] at h23 ⊢
      refine c_augIx (ds := encs seats) h23 rfl ?_
      refine c_callB ?_
      refine c_pureA h23 (pa_cons' (p_fz rfl) (pa_cons' (p_ol rfl) (pa_cons' (p_fz rfl) pa_nil'))) fun r24 k25 => ?_
      refine f_callB h23 k25 (.cons .f (.cons (.v rfl) (.cons .f .nil))) rfl (ss_next_seat numbers seats step) imm_I fun t26 r27 k28 => ?_
      refine f_augIxP (xs := seats) h23 rfl k28 (p_c) fun seats _ h29 => ?_
      try dsimp only [List.set_cons_zero, List.set_cons_succ] at h29
      exact f_jc h29 
    rintro seats _ h30
    try dsimp only [List.set_cons_zero, List.set_cons_succ] at h30 ⊢
    refine c_nx ?_
    refine c_ret ?_
    refine c_pure h30 (p_ol rfl) fun r31 k32 => ?_
    refine f_ret ?_
    exact f_rt h30 k32 (.v rfl (by decide)) (.f (.f (.f .nil)))
def p_by_remainders (numbers : List Int) (many : Int) : Res (List Int) :=
(Res.ok (numbers.sum : Int)).bind fun total =>
if (decide (total = 0)) = true then
(mapC (fun (number : Int) =>
Res.ok 0) numbers).bind fun t10 =>
Res.ok t10
else
(mapC (fun (number : Int) =>
(mulR number many).bind fun t22 =>
(divR t22 total).bind fun t25 =>
Res.ok t25) numbers).bind fun t26 =>
(Res.ok (t26 : List Int)).bind fun seats =>
(mapC (fun (number : Int) =>
(mulR number many).bind fun t39 =>
(modR t39 total).bind fun t42 =>
Res.ok t42) numbers).bind fun t43 =>
(Res.ok (t43 : List Int)).bind fun rests =>
(rng1R ((many - seats.sum))).bind fun xs50 =>
(foldR (fun (turn : Int) (seats, rests) =>
(maxR rests).bind fun t72 =>
(idxR rests t72).bind fun t73 =>
(Res.ok (t73 : Int)).bind fun option =>
(augR seats option (· + ·) 1).bind fun seats =>
(setR rests option (-1)).bind fun rests =>
Res.ok (seats, rests)) xs50 (seats, rests)).bind fun (seats, rests) =>
Res.ok seats
theorem ss_by_remainders (numbers : List Int) (many : Int) : FS false (φ_by_remainders [.fz (enc numbers), .fz (enc many)]) (p_by_remainders numbers many) (fun t => .ol (fzs (encs t))) (fun t => [.fz (enc numbers), .fz (enc many)]) := by
  refine fs_mk0 [.fz (enc numbers), .fz (enc many), .clr, .clr, .clr, .clr, .clr, .clr] rfl (by repeat (first | exact trivial | refine ⟨rfl, ?_⟩)) fun e0 h0 => ?_
  unfold p_by_remainders
  unfold d_by_remainders
  refine c_seq ?_
  refine c_set ?_
  refine c_pure h0 (p_sum (p_fz rfl)) fun r1 k2 => ?_
  refine f_setL (v := (numbers.sum : Int)) (fun v => .fz (enc v)) h0 k2 .f (by decide) fun total _ h3 => ?_
  try dsimp only [List.set_cons_zero, List.set_cons_succ] at h3
  refine c_nx ?_
  refine c_seq ?_
  refine c_if ?_
  refine c_pureB h3 (b_t (p_eq (x := total) (y := 0) (p_fz rfl) (p_c))) ?_
  refine f_if (fun _ => ?_) (fun _ => ?_)
  · refine c_ret ?_
    refine c_comp ?_
    refine c_it ?_
    refine c_pure h3 (p_fz rfl) fun r4 k5 => ?_
    refine f_it (xs := numbers) h3 k5 .f fun _ h6 => ?_
    refine f_mapC (ψ := Int) h6 (fun _ => tg_n) ?_ fun t10 r11 _ k12 h13 => ?_
    · rintro number _ h7
      try dsimp only [List.set_cons_zero, List.set_cons_succ, wipeS] at h7 ⊢
      refine c_pure h7 (p_c) fun r8 k9 => ?_
      exact f_el (v := 0) h7 k9  
    refine f_ret ?_
    exact f_rt h13 k12 .w (.f (.f .nil))
  · refine c_next ?_
    refine c_nx ?_
    refine c_seq ?_
    refine c_set ?_
    refine c_comp ?_
    refine c_it ?_
    refine c_pure h3 (p_fz rfl) fun r14 k15 => ?_
    refine f_it (xs := numbers) h3 k15 .f fun _ h16 => ?_
    refine f_mapC (ψ := Int) h16 (fun _ => tg_n) ?_ fun t26 r27 _ k28 h29 => ?_
    · rintro number _ h17
      try dsimp only [List.set_cons_zero, List.set_cons_succ, wipeS] at h17 ⊢
      refine c_op ?_
      refine c_op ?_
      refine c_pure h17 (p_fz rfl) fun r18 k19 => ?_
      refine c_op2 ?_
      refine c_pure h17 (p_fz rfl) fun r20 k21 => ?_
      refine f_mul h17 k19 k21 (kk := fun t22 => ?_)
      refine c_op2 ?_
      refine c_pure h17 (p_fz rfl) fun r23 k24 => ?_
      refine f_div h17 rk_f k24 (kk := fun t25 => ?_)
      exact f_el (v := t25) h17 rk_f  
    refine f_setL (v := (t26 : List Int)) (fun v => .ol (encs v)) h29 k28 .w (by decide) fun seats _ h30 => ?_
    try dsimp only [List.set_cons_zero, List.set_cons_succ] at h30
    refine c_nx ?_
    refine c_seq ?_
    refine c_set ?_
    refine c_comp ?_
    refine c_it ?_
    refine c_pure h30 (p_fz rfl) fun r31 k32 => ?_
    refine f_it (xs := numbers) h30 k32 .f fun _ h33 => ?_
    refine f_mapC (ψ := Int) h33 (fun _ => tg_n) ?_ fun t43 r44 _ k45 h46 => ?_
    · rintro number _ h34
      try dsimp only [List.set_cons_zero, List.set_cons_succ, wipeS] at h34 ⊢
      refine c_op ?_
      refine c_op ?_
      refine c_pure h34 (p_fz rfl) fun r35 k36 => ?_
      refine c_op2 ?_
      refine c_pure h34 (p_fz rfl) fun r37 k38 => ?_
      refine f_mul h34 k36 k38 (kk := fun t39 => ?_)
      refine c_op2 ?_
      refine c_pure h34 (p_fz rfl) fun r40 k41 => ?_
      refine f_mod h34 rk_f k41 (kk := fun t42 => ?_)
      exact f_el (v := t42) h34 rk_f  
    refine f_setL (v := (t43 : List Int)) (fun v => .ol (encs v)) h46 k45 .w (by decide) fun rests _ h47 => ?_
    try dsimp only [List.set_cons_zero, List.set_cons_succ] at h47
    refine c_nx ?_
    refine c_seq ?_
    refine c_for ?_
    refine c_rng1 ?_
    refine c_pureA h47 (pa_cons' (p_int (p_fz rfl) (p_sum (p_ol rfl))) pa_nil') fun r48 k49 => ?_
    refine f_rng1' h47 k49 fun xs50 => ?_
    refine f_fold (fun (s : List Int × List Int) => [.fz (enc numbers), .fz (enc many), .fz (enc total), .ol (encs s.1), .ol (encs s.2), .cf, .cf, .clr]) (fun _ _ => tg_n) ?_ ?_ h47 
    · rintro turn ⟨seats, rests⟩ _ h67
      try dsimp only [List.set_cons_zero, List.set_cons_succ] at h67 ⊢
      refine c_seq ?_
      refine c_set ?_
      refine c_mt ?_
      refine c_pure h67 (p_ol rfl) fun r68 k69 => ?_
      refine c_mt2 h67 k69 (.v rfl) ?_
      refine c_cons ?_
      refine c_cb ?_
      refine c_cons ?_
      refine c_pure h67 (p_ol rfl) fun r70 k71 => ?_
      refine c_cons2 ?_
      refine c_nil ?_
      refine f_cons ?_
      refine f_max (xs := rests) h67 k71 fun t72 => ?_
      refine c_cons2 ?_
      refine c_nil ?_
      refine f_cons ?_
      refine f_index' (xs := rests) (v := t72) h67 k69 (rks rk_f rks0) fun t73 => ?_
      refine f_setL (v := (t73 : Int)) (fun v => .fz (enc v)) h67 rk_f .f (by decide) fun option _ h74 => ?_
      try dsimp only [List.set_cons_zero, List.set_cons_succ] at h74
      refine c_nx ?_
      refine c_seq ?_
      refine c_augIx (ds := encs seats) h74 rfl ?_
      refine c_pure h74 (p_fz rfl) fun r75 k76 => ?_
      refine f_augIxP (xs := seats) h74 rfl k76 (p_c) fun seats _ h77 => ?_
      try dsimp only [List.set_cons_zero, List.set_cons_succ] at h77
      refine c_nx ?_
      refine c_setIx ?_
      refine c_pure h77 (p_c) fun r78 k79 => ?_
      refine c_setIx2 (ds := encs rests) h77 rfl ?_
      refine c_pure h77 (p_fz rfl) fun r80 k81 => ?_
      refine f_setIx (xs := rests) (v := (-1)) h77 k79 k81 .f rfl fun rests _ h82 => ?_
      try dsimp only [List.set_cons_zero, List.set_cons_succ] at h82
      exact f_jc h82 
    rintro ⟨seats, rests⟩ _ h84
    try dsimp only [List.set_cons_zero, List.set_cons_succ] at h84 ⊢
    refine c_nx ?_
    refine c_ret ?_
    refine c_pure h84 (p_ol rfl) fun r85 k86 => ?_
    refine f_ret ?_
    exact f_rt h84 k86 (.v rfl (by decide)) (.f (.f .nil))
def p__law_is_int (x : Int) : Res Bool :=
Res.ok (true && (!false))
theorem ss__law_is_int (x : Int) : FS false (φ__law_is_int [.fz (enc x)]) (p__law_is_int x) (fun t => .fz (enc t)) (fun t => [.fz (enc x)]) := by
  refine fs_mk0 [.fz (enc x)] rfl (by repeat (first | exact trivial | refine ⟨rfl, ?_⟩)) fun e0 h0 => ?_
  unfold p__law_is_int
  unfold d__law_is_int
  refine c_ret ?_
  refine c_pure h0 (p_andV (p_isi (p_fz rfl) (p_c) .f rfl kb_ii) (p_notV (p_isi (p_fz rfl) (p_c) .f rfl kb_ib))) fun r1 k2 => ?_
  refine f_ret ?_
  exact f_rt h0 k2 .f (.f .nil)
def p__law_are_values (xs : List Int) (primeH : Int) : Res Bool :=
if (!true) = true then
Res.ok false
else
forR (fun (x : Int) _ =>
(p__law_is_int x).bind fun t16 =>
if ((!t16) || (!(decide (0 ≤ x) && decide (x < primeH)))) = true then
Res.ok (Lp.out false)
else
Res.ok (Lp.go ())) xs () fun _ =>
Res.ok true
theorem ss__law_are_values (xs : List Int) (primeH : Int) : FS false (φ__law_are_values [.fz (enc xs), .fz (enc primeH)]) (p__law_are_values xs primeH) (fun t => .fz (enc t)) (fun t => [.fz (enc xs), .fz (enc primeH)]) := by
  refine fs_mk0 [.fz (enc xs), .fz (enc primeH), .clr] rfl (by repeat (first | exact trivial | refine ⟨rfl, ?_⟩)) fun e0 h0 => ?_
  unfold p__law_are_values
  unfold d__law_are_values
  refine c_seq ?_
  refine c_if ?_
  refine c_pureB h0 (b_not (b_truB (p_isi (p_fz rfl) (p_c) .f rfl kb_ll))) ?_
  refine f_if (fun _ => ?_) (fun _ => ?_)
  · refine c_ret ?_
    refine c_pure h0 (p_c) fun r1 k2 => ?_
    refine f_ret ?_
    exact f_rt h0 k2 .f (.f (.f .nil))
  · refine c_next ?_
    refine c_nx ?_
    refine c_seq ?_
    refine c_for ?_
    refine c_it ?_
    refine c_pure h0 (p_fz rfl) fun r3 k4 => ?_
    refine f_it (xs := xs) h0 k4 .f fun _ h5 => ?_
    refine f_for (fun (s : Unit) => [.fz (enc xs), .fz (enc primeH), .cf]) (fun _ _ => tg_n) ?_ ?_ h5 
    · rintro x _ _ h13
      try dsimp only [List.set_cons_zero, List.set_cons_succ] at h13 ⊢
      refine c_if ?_
      refine c_or ?_
      refine c_not ?_
      refine c_tru ?_
      refine c_callB ?_
      refine c_pureA h13 (pa_cons' (p_fz rfl) pa_nil') fun r14 k15 => ?_
      refine f_callB h13 k15 (.cons .f .nil) rfl (ss__law_is_int x) imm_B fun t16 r17 k18 => ?_
      refine f_truB h13 k18 ?_
      refine f_not ?_
      refine f_orP h13 (b_not (b_t (p_chain (p_c) (p_fz rfl) (p_fz rfl)))) ?_
      refine f_if (fun _ => ?_) (fun _ => ?_)
      · refine c_ret ?_
        refine c_pure h13 (p_c) fun r19 k20 => ?_
        refine f_ret ?_
        refine f_out ?_
        exact f_rt h13 k20 .f (.f (.f .nil))
      · refine c_next ?_
        exact f_go h13 
    rintro _ _ h21
    try dsimp only [List.set_cons_zero, List.set_cons_succ] at h21 ⊢
    refine c_nx ?_
    refine c_ret ?_
    refine c_pure h21 (p_c) fun r22 k23 => ?_
    refine f_ret ?_
    exact f_rt h21 k23 .f (.f (.f .nil))
def p__law_next (numbersH : List Int) (seats : List Int) (step : Int) : Res Int :=
(Res.ok (0 : Int)).bind fun best =>
(rng1R ((numbersH.length : Int))).bind fun xs6 =>
(foldR (fun k' best =>
(geti numbersH k').bind fun t53 =>
(geti seats best).bind fun t60 =>
(mulR step t60).bind fun t61 =>
(mulR t53 ((t61 + 1))).bind fun t64 =>
(geti numbersH best).bind fun t69 =>
(geti seats k').bind fun t76 =>
(mulR step t76).bind fun t77 =>
(mulR t69 ((t77 + 1))).bind fun t80 =>
(if (decide (t80 < t64)) = true then
(Res.ok (k' : Int)).bind fun best =>
Res.ok best
else
Res.ok best).bind fun best =>
Res.ok best) xs6 best).bind fun best =>
Res.ok best
theorem ss__law_next (numbersH : List Int) (seats : List Int) (step : Int) : FS false (φ__law_next [.fz (enc numbersH), .fz (enc seats), .fz (enc step)]) (p__law_next numbersH seats step) (fun t => .fz (enc t)) (fun t => [.fz (enc numbersH), .fz (enc seats), .fz (enc step)]) := by
  refine fs_mk0 [.fz (enc numbersH), .fz (enc seats), .fz (enc step), .clr, .clr] rfl (by repeat (first | exact trivial | refine ⟨rfl, ?_⟩)) fun e0 h0 => ?_
  unfold p__law_next
  unfold d__law_next
  refine c_seq ?_
  refine c_set ?_
  refine c_pure h0 (p_c) fun r1 k2 => ?_
  refine f_setL (v := (0 : Int)) (fun v => .fz (enc v)) h0 k2 .f (by decide) fun best _ h3 => ?_
  try dsimp only [List.set_cons_zero, List.set_cons_succ] at h3
  refine c_nx ?_
  refine c_seq ?_
  refine c_for ?_
  refine c_rng1 ?_
  refine c_pureA h3 (pa_cons' (p_len (p_fz rfl)) pa_nil') fun r4 k5 => ?_
  refine f_rng1' h3 k5 fun xs6 => ?_
  refine f_fold (fun (s : Int) => [.fz (enc numbersH), .fz (enc seats), .fz (enc step), .fz (enc s), .cf]) (fun _ _ => tg_n) ?_ ?_ h3 
  · rintro k' best _ h48
    try dsimp only [List.set_cons_zero, List.set_cons_succ] at h48 ⊢
    refine c_if ?_
    refine c_t ?_
    refine c_op ?_
    refine c_op ?_
    refine c_ix ?_
    refine c_pure h48 (p_fz rfl) fun r49 k50 => ?_
    refine c_ix2 ?_
    refine c_pure h48 (p_fz rfl) fun r51 k52 => ?_
    refine f_ix (xs := numbersH) h48 k50 k52 fun t53 => ?_
    refine c_op2 ?_
    refine c_op ?_
    refine c_op ?_
    refine c_pure h48 (p_fz rfl) fun r54 k55 => ?_
    refine c_op2 ?_
    refine c_ix ?_
    refine c_pure h48 (p_fz rfl) fun r56 k57 => ?_
    refine c_ix2 ?_
    refine c_pure h48 (p_fz rfl) fun r58 k59 => ?_
    refine f_ix (xs := seats) h48 k57 k59 fun t60 => ?_
    refine f_mul h48 k55 rk_f (kk := fun t61 => ?_)
    refine c_op2 ?_
    refine c_pure h48 (p_c) fun r62 k63 => ?_
    refine f_int h48 rk_f k63 (kk := ?_)
    refine f_mul h48 rk_f rk_f (kk := fun t64 => ?_)
    refine c_op2 ?_
    refine c_op ?_
    refine c_ix ?_
    refine c_pure h48 (p_fz rfl) fun r65 k66 => ?_
    refine c_ix2 ?_
    refine c_pure h48 (p_fz rfl) fun r67 k68 => ?_
    refine f_ix (xs := numbersH) h48 k66 k68 fun t69 => ?_
    refine c_op2 ?_
    refine c_op ?_
    refine c_op ?_
    refine c_pure h48 (p_fz rfl) fun r70 k71 => ?_
    refine c_op2 ?_
    refine c_ix ?_
    refine c_pure h48 (p_fz rfl) fun r72 k73 => ?_
    refine c_ix2 ?_
    refine c_pure h48 (p_fz rfl) fun r74 k75 => ?_
    refine f_ix (xs := seats) h48 k73 k75 fun t76 => ?_
    refine f_mul h48 k71 rk_f (kk := fun t77 => ?_)
    refine c_op2 ?_
    refine c_pure h48 (p_c) fun r78 k79 => ?_
    refine f_int h48 rk_f k79 (kk := ?_)
    refine f_mul h48 rk_f rk_f (kk := fun t80 => ?_)
    refine f_cmp h48 rk_f rk_f (kk := ?_)
    refine f_t h48 rk_f ?_
    refine f_ifJ h48 (fun (s : Int) => [.fz (enc numbersH), .fz (enc seats), .fz (enc step), .fz (enc s), .fz (enc k')]) (fun _ => ?_) (fun _ => ?_) ?_
    · refine c_set ?_
      refine c_pure h48 (p_fz rfl) fun r85 k86 => ?_
      refine f_setL (v := (k' : Int)) (fun v => .fz (enc v)) h48 k86 .f (by decide) fun best _ h87 => ?_
      try dsimp only [List.set_cons_zero, List.set_cons_succ] at h87
      exact f_jn h87 
    · refine c_next ?_
      exact f_jn h48 
    rintro best _ h89
    try dsimp only [List.set_cons_zero, List.set_cons_succ] at h89 ⊢
    exact f_jc h89 
  rintro best _ h90
  try dsimp only [List.set_cons_zero, List.set_cons_succ] at h90 ⊢
  refine c_nx ?_
  refine c_ret ?_
  refine c_pure h90 (p_fz rfl) fun r91 k92 => ?_
  refine f_ret ?_
  exact f_rt h90 k92 .f (.f (.f (.f .nil)))
def p__law_rests (numbersH : List Int) (many : Int) (seats : List Int) : Res Bool :=
(Res.ok (numbersH.sum : Int)).bind fun total =>
(Res.ok (([] : List Int) : List Int)).bind fun more =>
(rng1R ((numbersH.length : Int))).bind fun xs9 =>
forR (fun k' more =>
(geti seats k').bind fun t40 =>
(geti numbersH k').bind fun t45 =>
(mulR t45 many).bind fun t48 =>
(divR t48 total).bind fun t51 =>
(Res.ok ((t40 - t51) : Int)).bind fun extra =>
if ((decide (extra ≠ 0)) && (decide (extra ≠ 1))) = true then
Res.ok (Lp.out false)
else
(appR more extra).bind fun more =>
Res.ok (Lp.go more)) xs9 more fun more =>
(rng1R ((numbersH.length : Int))).bind fun xs64 =>
forR (fun k' _ =>
(rng1R ((numbersH.length : Int))).bind fun xs175 =>
forR (fun (other : Int) _ =>
(geti numbersH k').bind fun t232 =>
(mulR t232 many).bind fun t235 =>
(modR t235 total).bind fun t238 =>
(Res.ok (t238 : Int)).bind fun mine =>
(geti numbersH other).bind fun t244 =>
(mulR t244 many).bind fun t247 =>
(modR t247 total).bind fun t250 =>
(Res.ok (t250 : Int)).bind fun its =>
(geti more k').bind fun t256 =>
(if (decide (t256 = 0)) = true then
(geti more other).bind fun t270 =>
Res.ok ((decide (t270 = 1)) && ((decide (its < mine)) || ((decide (mine = its)) && (decide (k' < other)))))
else Res.ok false).bind fun t273 =>
if t273 = true then
Res.ok (Lp.out (Lp.out false))
else
Res.ok (Lp.go ())) xs175 () fun _ =>
Res.ok (Lp.go ())) xs64 () fun _ =>
Res.ok true
theorem ss__law_rests (numbersH : List Int) (many : Int) (seats : List Int) : FS false (φ__law_rests [.fz (enc numbersH), .fz (enc many), .fz (enc seats)]) (p__law_rests numbersH many seats) (fun t => .fz (enc t)) (fun t => [.fz (enc numbersH), .fz (enc many), .fz (enc seats)]) := by
  refine fs_mk0 [.fz (enc numbersH), .fz (enc many), .fz (enc seats), .clr, .clr, .clr, .clr, .clr, .clr, .clr] rfl (by repeat (first | exact trivial | refine ⟨rfl, ?_⟩)) fun e0 h0 => ?_
  unfold p__law_rests
  unfold d__law_rests
  refine c_seq ?_
  refine c_set ?_
  refine c_pure h0 (p_sum (p_fz rfl)) fun r1 k2 => ?_
  refine f_setL (v := (numbersH.sum : Int)) (fun v => .fz (enc v)) h0 k2 .f (by decide) fun total _ h3 => ?_
  try dsimp only [List.set_cons_zero, List.set_cons_succ] at h3
  refine c_nx ?_
  refine c_seq ?_
  refine c_set ?_
  refine c_pure h3 (p_lst pa_nil' .nil) fun r4 k5 => ?_
  refine f_setL (v := (([] : List Int) : List Int)) (fun v => .ol (encs v)) h3 k5 .w (by decide) fun more _ h6 => ?_
  try dsimp only [List.set_cons_zero, List.set_cons_succ] at h6
  refine c_nx ?_
  refine c_seq ?_
  refine c_for ?_
  refine c_rng1 ?_
  refine c_pureA h6 (pa_cons' (p_len (p_fz rfl)) pa_nil') fun r7 k8 => ?_
  refine f_rng1' h6 k8 fun xs9 => ?_
  refine f_for (fun (s : List Int) => [.fz (enc numbersH), .fz (enc many), .fz (enc seats), .fz (enc total), .ol (encs s), .cf, .cf, .clr, .clr, .clr]) (fun _ _ => tg_n) ?_ ?_ h6 
  · rintro k' more _ h35
    try dsimp only [List.set_cons_zero, List.set_cons_succ] at h35 ⊢
    refine c_seq ?_
    refine c_set ?_
    refine c_op ?_
    refine c_ix ?_
    refine c_pure h35 (p_fz rfl) fun r36 k37 => ?_
    refine c_ix2 ?_
    refine c_pure h35 (p_fz rfl) fun r38 k39 => ?_
    refine f_ix (xs := seats) h35 k37 k39 fun t40 => ?_
    refine c_op2 ?_
    refine c_op ?_
    refine c_op ?_
    refine c_ix ?_
    refine c_pure h35 (p_fz rfl) fun r41 k42 => ?_
    refine c_ix2 ?_
    refine c_pure h35 (p_fz rfl) fun r43 k44 => ?_
    refine f_ix (xs := numbersH) h35 k42 k44 fun t45 => ?_
    refine c_op2 ?_
    refine c_pure h35 (p_fz rfl) fun r46 k47 => ?_
    refine f_mul h35 rk_f k47 (kk := fun t48 => ?_)
    refine c_op2 ?_
    refine c_pure h35 (p_fz rfl) fun r49 k50 => ?_
    refine f_div h35 rk_f k50 (kk := fun t51 => ?_)
    refine f_int h35 rk_f rk_f (kk := ?_)
    refine f_setL (v := ((t40 - t51) : Int)) (fun v => .fz (enc v)) h35 rk_f .f (by decide) fun extra _ h52 => ?_
    try dsimp only [List.set_cons_zero, List.set_cons_succ] at h52
    refine c_nx ?_
    refine c_seq ?_
    refine c_if ?_
    refine c_pureB h52 (b_and (b_t (p_ne (x := extra) (y := 0) (p_fz rfl) (p_c))) (b_t (p_ne (x := extra) (y := 1) (p_fz rfl) (p_c)))) ?_
    refine f_if (fun _ => ?_) (fun _ => ?_)
    · refine c_ret ?_
      refine c_pure h52 (p_c) fun r53 k54 => ?_
      refine f_ret ?_
      refine f_out ?_
      exact f_rt h52 k54 .f (.f (.f (.f .nil)))
    · refine c_next ?_
      refine c_nx ?_
      refine c_drop ?_
      refine c_app (ds := encs more) h52 rfl ?_
      refine c_pure h52 (p_fz rfl) fun r55 k56 => ?_
      refine f_app (xs := more) (v := extra) h52 k56 .f rfl fun more r57 _ k58 h59 => ?_
      try dsimp only [List.set_cons_zero, List.set_cons_succ] at h59
      refine f_drop ?_
      exact f_go h59 
  rintro more _ h61
  try dsimp only [List.set_cons_zero, List.set_cons_succ] at h61 ⊢
  refine c_nx ?_
  refine c_seq ?_
  refine c_for ?_
  refine c_rng1 ?_
  refine c_pureA h61 (pa_cons' (p_len (p_fz rfl)) pa_nil') fun r62 k63 => ?_
  refine f_rng1' h61 k63 fun xs64 => ?_
  refine f_for (fun (s : Unit) => [.fz (enc numbersH), .fz (enc many), .fz (enc seats), .fz (enc total), .ol (encs more), .cf, .cf, .cf, .cf, .cf]) (fun _ _ => tg_n) ?_ ?_ h61 
  · rintro k' _ _ h172
    try dsimp only [List.set_cons_zero, List.set_cons_succ] at h172 ⊢
    refine c_for ?_
    refine c_rng1 ?_
    refine c_pureA h172 (pa_cons' (p_len (p_fz rfl)) pa_nil') fun r173 k174 => ?_
    refine f_rng1' h172 k174 fun xs175 => ?_
    refine f_for (fun (s : Unit) => [.fz (enc numbersH), .fz (enc many), .fz (enc seats), .fz (enc total), .ol (encs more), .fz (enc k'), .cf, .cf, .cf, .cf]) (fun _ _ => tg_n) ?_ ?_ h172 
    · rintro other _ _ h227
      try dsimp only [List.set_cons_zero, List.set_cons_succ] at h227 ⊢
      refine c_seq ?_
      refine c_set ?_
      refine c_op ?_
      refine c_cb ?_
      refine c_cons ?_
      refine c_op ?_
      refine c_ix ?_
      refine c_pure h227 (p_fz rfl) fun r228 k229 => ?_
      refine c_ix2 ?_
      refine c_pure h227 (p_fz rfl) fun r230 k231 => ?_
      refine f_ix (xs := numbersH) h227 k229 k231 fun t232 => ?_
      refine c_op2 ?_
      refine c_pure h227 (p_fz rfl) fun r233 k234 => ?_
      refine f_mul h227 rk_f k234 (kk := fun t235 => ?_)
      refine c_cons2 ?_
      refine c_nil ?_
      refine f_cons ?_
      refine f_toInt h227 rk_f ?_
      refine c_op2 ?_
      refine c_pure h227 (p_fz rfl) fun r236 k237 => ?_
      refine f_mod h227 rk_f k237 (kk := fun t238 => ?_)
      refine f_setL (v := (t238 : Int)) (fun v => .fz (enc v)) h227 rk_f .f (by decide) fun mine _ h239 => ?_
      try dsimp only [List.set_cons_zero, List.set_cons_succ] at h239
      refine c_nx ?_
      refine c_seq ?_
      refine c_set ?_
      refine c_op ?_
      refine c_cb ?_
      refine c_cons ?_
      refine c_op ?_
      refine c_ix ?_
      refine c_pure h239 (p_fz rfl) fun r240 k241 => ?_
      refine c_ix2 ?_
      refine c_pure h239 (p_fz rfl) fun r242 k243 => ?_
      refine f_ix (xs := numbersH) h239 k241 k243 fun t244 => ?_
      refine c_op2 ?_
      refine c_pure h239 (p_fz rfl) fun r245 k246 => ?_
      refine f_mul h239 rk_f k246 (kk := fun t247 => ?_)
      refine c_cons2 ?_
      refine c_nil ?_
      refine f_cons ?_
      refine f_toInt h239 rk_f ?_
      refine c_op2 ?_
      refine c_pure h239 (p_fz rfl) fun r248 k249 => ?_
      refine f_mod h239 rk_f k249 (kk := fun t250 => ?_)
      refine f_setL (v := (t250 : Int)) (fun v => .fz (enc v)) h239 rk_f .f (by decide) fun its _ h251 => ?_
      try dsimp only [List.set_cons_zero, List.set_cons_succ] at h251
      refine c_nx ?_
      refine c_if ?_
      refine c_and ?_
      refine c_t ?_
      refine c_op ?_
      refine c_ix ?_
      refine c_pure h251 (p_ol rfl) fun r252 k253 => ?_
      refine c_ix2 ?_
      refine c_pure h251 (p_fz rfl) fun r254 k255 => ?_
      refine f_ix (xs := more) h251 k253 k255 fun t256 => ?_
      refine c_op2 ?_
      refine c_pure h251 (p_c) fun r257 k258 => ?_
      refine f_eq (u := t256) (v := 0) h251 rk_f k258 ?_
      refine f_t h251 rk_f ?_
      refine f_and h251 (fun _ => ?_) fun t273 _ h274 => ?_
      · refine c_and ?_
        refine c_t ?_
        refine c_op ?_
        refine c_ix ?_
        refine c_pure h251 (p_ol rfl) fun r266 k267 => ?_
        refine c_ix2 ?_
        refine c_pure h251 (p_fz rfl) fun r268 k269 => ?_
        refine f_ix (xs := more) h251 k267 k269 fun t270 => ?_
        refine c_op2 ?_
        refine c_pure h251 (p_c) fun r271 k272 => ?_
        refine f_eq (u := t270) (v := 1) h251 rk_f k272 ?_
        refine f_t h251 rk_f ?_
        refine f_andP h251 (b_or (b_t (p_cmp (p_fz rfl) (p_fz rfl))) (b_and (b_t (p_eq (x := mine) (y := its) (p_fz rfl) (p_fz rfl))) (b_t (p_cmp (p_fz rfl) (p_fz rfl))))) ?_
        exact f_tb (h251.weak (by first | exact W.refl _ | (repeat (first | exact W.nil | refine W.rf ?_ | refine W.cz ?_ | refine W.cc ?_ | refine W.vz ?_ | refine W.vo ?_ | refine W.an ?_))))
      refine f_if (fun _ => ?_) (fun _ => ?_)
      · refine c_ret ?_
        refine c_pure h274 (p_c) fun r275 k276 => ?_
        refine f_ret ?_
        refine f_out ?_
        refine f_out ?_
        exact f_rt h274 k276 .f (.f (.f (.f .nil)))
      · refine c_next ?_
        exact f_go h274 
    rintro _ _ h279
    try dsimp only [List.set_cons_zero, List.set_cons_succ] at h279 ⊢
    exact f_go h279 
  rintro _ _ h280
  try dsimp only [List.set_cons_zero, List.set_cons_succ] at h280 ⊢
  refine c_nx ?_
  refine c_ret ?_
  refine c_pure h280 (p_c) fun r281 k282 => ?_
  refine f_ret ?_
  exact f_rt h280 k282 .f (.f (.f (.f .nil)))
def r_law_11 : M Fl := (dSeq d_law_11 d_law_12)
def p_law_11 (script : List Int) (numbersH : List Int) (many : Int) (seats : List Int) : Res Bool :=
if (decide (numbersH.sum = 0)) = true then
(mapC (fun (number : Int) =>
Res.ok 0) numbersH).bind fun t9 =>
Res.ok (decide (seats = t9))
else
(if (decide (seats.sum = many)) = true then
(p__law_rests numbersH many seats).bind fun t22 =>
Res.ok t22
else Res.ok false).bind fun t25 =>
Res.ok t25
theorem ss_law_11 (script : List Int) (numbersH : List Int) (many : Int) (seats : List Int) (e0 : VF.Env) (h0 : Has (pinIx 0 [false]) [.fz (.scr script), .any, .fz (enc numbersH), .fz (enc many), .cf, .any, .any, .ol (encs seats), .cf, .cf, .cf, .cf] e0) : Sm ((r_law_11 e0).bind okK) (p_law_11 script numbersH many seats) (GF [false] [.fz (.scr script)] (fun t => .fz (enc t)) (fun t => [.fz (.scr script)])) (fun _ _ => False) := by
  unfold p_law_11
  unfold r_law_11
  refine c_seq ?_
  refine c_if ?_
  refine c_pureB h0 (b_t (p_eq (x := numbersH.sum) (y := 0) (p_sum (p_fz rfl)) (p_c))) ?_
  refine f_if (fun _ => ?_) (fun _ => ?_)
  · refine c_ret ?_
    refine c_op ?_
    refine c_pure h0 (p_ol rfl) fun r1 k2 => ?_
    refine c_op2 ?_
    refine c_comp ?_
    refine c_it ?_
    refine c_pure h0 (p_fz rfl) fun r3 k4 => ?_
    refine f_it (xs := numbersH) h0 k4 .f fun _ h5 => ?_
    refine f_mapC (ψ := Int) h5 (fun _ => tg_n) ?_ fun t9 r10 _ k11 h12 => ?_
    · rintro number _ h6
      try dsimp only [List.set_cons_zero, List.set_cons_succ, wipeS] at h6 ⊢
      refine c_pure h6 (p_c) fun r7 k8 => ?_
      exact f_el (v := 0) h6 k8  
    refine f_eq (u := seats) (v := t9) h12 k2 k11 ?_
    refine f_ret ?_
    exact f_rt h12 rk_f .f (.f .nil)
  · refine c_next ?_
    refine c_nx ?_
    refine c_ret ?_
    refine c_andV ?_
    refine c_pure h0 (p_eq (x := seats.sum) (y := many) (p_sum (p_ol rfl)) (p_fz rfl)) fun r13 k14 => ?_
    refine f_andV h0 k14 (fun _ => ?_) fun t25 _ h26 => ?_
    · refine c_callB ?_
      refine c_pureA h0 (pa_cons' (p_fz rfl) (pa_cons' (p_fz rfl) (pa_cons' (p_ol rfl) pa_nil'))) fun r20 k21 => ?_
      refine f_callB h0 k21 (.cons .f (.cons .f (.cons (.v rfl) .nil))) rfl (ss__law_rests numbersH many seats) imm_B fun t22 r23 k24 => ?_
      exact f_ve (h0.weak (by first | exact W.refl _ | (repeat (first | exact W.nil | refine W.rf ?_ | refine W.cz ?_ | refine W.cc ?_ | refine W.vz ?_ | refine W.vo ?_ | refine W.an ?_)))) k24
    refine f_ret ?_
    exact f_rt h26 rk_f .f (.f .nil)
def r_law_7 : M Fl := (dSeq d_law_7 (dSeq d_law_8 (dSeq d_law_9 (dSeq d_law_10 r_law_11))))
def p_law_7 (script : List Int) (numbersH : List Int) (many : Int) (step : Int) (kept : List Int) (due : List Int) : Res Bool :=
(p_by_averages numbersH many step).bind fun t3 =>
if ((decide (t3 ≠ due)) || (decide (numbersH ≠ kept))) = true then
Res.ok false
else
(if (decide (step = 1)) = true then
(p_by_averages numbersH many 1).bind fun t21 =>
Res.ok (decide (t21 ≠ due))
else Res.ok false).bind fun t27 =>
if t27 = true then
Res.ok false
else
(p_by_remainders numbersH many).bind fun t33 =>
(Res.ok (t33 : List Int)).bind fun seats =>
if ((!true) || ((decide ((seats.length : Int) ≠ (numbersH.length : Int))) || (decide (numbersH ≠ kept)))) = true then
Res.ok false
else
p_law_11 script numbersH many seats
theorem ss_law_7 (script : List Int) (numbersH : List Int) (many : Int) (step : Int) (kept : List Int) (due : List Int) (e0 : VF.Env) (h0 : Has (pinIx 0 [false]) [.fz (.scr script), .any, .fz (enc numbersH), .fz (enc many), .fz (enc step), .ol (encs kept), .ol (encs due), .cf, .cf, .cf, .cf, .cf] e0) : Sm ((r_law_7 e0).bind okK) (p_law_7 script numbersH many step kept due) (GF [false] [.fz (.scr script)] (fun t => .fz (enc t)) (fun t => [.fz (.scr script)])) (fun _ _ => False) := by
  unfold p_law_7
  unfold r_law_7
  refine c_seq ?_
  refine c_if ?_
  refine c_or ?_
  refine c_t ?_
  refine c_op ?_
  refine c_call ?_
  refine c_pureA h0 (pa_cons' (p_fz rfl) (pa_cons' (p_fz rfl) (pa_cons' (p_fz rfl) pa_nil'))) fun r1 k2 => ?_
  refine f_call h0 k2 (.f .f (.f .f (.f .f .nil))) (ss_by_averages numbersH many step) (fun _ => (.f (.f (.f .nil)))) (fun _ => rk_w) fun t3 r4 _ k5 h6 => ?_
  try dsimp only [List.set_cons_zero, List.set_cons_succ] at h6
  refine c_op2 ?_
  refine c_pure h6 (p_ol rfl) fun r7 k8 => ?_
  refine f_ne (u := t3) (v := due) h6 k5 k8 ?_
  refine f_t h6 rk_f ?_
  refine f_orP h6 (b_t (p_ne (x := numbersH) (y := kept) (p_fz rfl) (p_ol rfl))) ?_
  refine f_if (fun _ => ?_) (fun _ => ?_)
  · refine c_ret ?_
    refine c_pure h6 (p_c) fun r9 k10 => ?_
    refine f_ret ?_
    exact f_rt h6 k10 .f (.f .nil)
  · refine c_next ?_
    refine c_nx ?_
    refine c_seq ?_
    refine c_if ?_
    refine c_and ?_
    refine c_pureB h6 (b_t (p_eq (x := step) (y := 1) (p_fz rfl) (p_c))) ?_
    refine f_and h6 (fun _ => ?_) fun t27 _ h28 => ?_
    · refine c_t ?_
      refine c_op ?_
      refine c_call ?_
      refine c_pureA h6 (pa_cons' (p_fz rfl) (pa_cons' (p_fz rfl) (pa_cons' (p_c) pa_nil'))) fun r19 k20 => ?_
      refine f_call h6 k20 (.f .f (.f .f (.f .f .nil))) (ss_by_averages numbersH many 1) (fun _ => (.f (.f (.f .nil)))) (fun _ => rk_w) fun t21 r22 _ k23 h24 => ?_
      try dsimp only [List.set_cons_zero, List.set_cons_succ] at h24
      refine c_op2 ?_
      refine c_pure h24 (p_ol rfl) fun r25 k26 => ?_
      refine f_ne (u := t21) (v := due) h24 k23 k26 ?_
      refine f_t h24 rk_f ?_
      exact f_tb (h24.weak (by first | exact W.refl _ | (repeat (first | exact W.nil | refine W.rf ?_ | refine W.cz ?_ | refine W.cc ?_ | refine W.vz ?_ | refine W.vo ?_ | refine W.an ?_))))
    refine f_if (fun _ => ?_) (fun _ => ?_)
    · refine c_ret ?_
      refine c_pure h28 (p_c) fun r29 k30 => ?_
      refine f_ret ?_
      exact f_rt h28 k30 .f (.f .nil)
    · refine c_next ?_
      refine c_nx ?_
      refine c_seq ?_
      refine c_set ?_
      refine c_call ?_
      refine c_pureA h28 (pa_cons' (p_fz rfl) (pa_cons' (p_fz rfl) pa_nil')) fun r31 k32 => ?_
      refine f_call h28 k32 (.f .f (.f .f .nil)) (ss_by_remainders numbersH many) (fun _ => (.f (.f .nil))) (fun _ => rk_w) fun t33 r34 _ k35 h36 => ?_
      try dsimp only [List.set_cons_zero, List.set_cons_succ] at h36
      refine f_setL (v := (t33 : List Int)) (fun v => .ol (encs v)) h36 k35 .w (by decide) fun seats _ h37 => ?_
      try dsimp only [List.set_cons_zero, List.set_cons_succ] at h37
      refine c_nx ?_
      refine c_seq ?_
      refine c_if ?_
      refine c_pureB h37 (b_or (b_not (b_truB (p_isi (p_ol rfl) (p_c) (.v rfl) rfl kb_ll))) (b_or (b_t (p_ne (x := (seats.length : Int)) (y := (numbersH.length : Int)) (p_len (p_ol rfl)) (p_len (p_fz rfl)))) (b_t (p_ne (x := numbersH) (y := kept) (p_fz rfl) (p_ol rfl))))) ?_
      refine f_if (fun _ => ?_) (fun _ => ?_)
      · refine c_ret ?_
        refine c_pure h37 (p_c) fun r38 k39 => ?_
        refine f_ret ?_
        exact f_rt h37 k39 .f (.f .nil)
      · refine c_next ?_
        refine c_nx ?_
        exact ss_law_11 script numbersH many seats _ (h37.weak (by first | exact W.refl _ | (repeat (first | exact W.nil | refine W.rf ?_ | refine W.cz ?_ | refine W.cc ?_ | refine W.vz ?_ | refine W.vo ?_ | refine W.an ?_))))
def r_law_4 : M Fl := (dSeq d_law_4 (dSeq d_law_5 (dSeq d_law_6 r_law_7)))
def p_law_4 (script : List Int) (numbersH : List Int) (many : Int) (step : Int) : Res Bool :=
(mapC (fun (number : Int) =>
Res.ok number) numbersH).bind fun t7 =>
(Res.ok (t7 : List Int)).bind fun kept =>
(mapC (fun (number : Int) =>
Res.ok 0) numbersH).bind fun t18 =>
(Res.ok (t18 : List Int)).bind fun due =>
if (decide (0 < (numbersH.length : Int))) = true then
(rng1R many).bind fun xs25 =>
forR (fun (turn : Int) due =>
(p_next_seat numbersH due step).bind fun t58 =>
(p__law_next numbersH due step).bind fun t63 =>
if (decide (t58 ≠ t63)) = true then
Res.ok (Lp.out false)
else
(p__law_next numbersH due step).bind fun t70 =>
(Res.ok (t70 : Int)).bind fun best =>
(geti due best).bind fun t78 =>
(setR due best ((t78 + 1))).bind fun due =>
Res.ok (Lp.go due)) xs25 due fun due =>
p_law_7 script numbersH many step kept due
else
p_law_7 script numbersH many step kept due
theorem ss_law_4 (script : List Int) (numbersH : List Int) (many : Int) (step : Int) (e0 : VF.Env) (h0 : Has (pinIx 0 [false]) [.fz (.scr script), .any, .ol (encs numbersH), .fz (enc many), .fz (enc step), .cf, .cf, .cf, .cf, .cf, .cf, .cf] e0) : Sm ((r_law_4 e0).bind okK) (p_law_4 script numbersH many step) (GF [false] [.fz (.scr script)] (fun t => .fz (enc t)) (fun t => [.fz (.scr script)])) (fun _ _ => False) := by
  unfold p_law_4
  unfold r_law_4
  refine c_seq ?_
  refine c_set ?_
  refine c_comp ?_
  refine c_it ?_
  refine c_pure h0 (p_ol rfl) fun r1 k2 => ?_
  refine f_it (xs := numbersH) h0 k2 (.v rfl) fun _ h3 => ?_
  refine f_mapC (ψ := Int) h3 (fun _ => tg_n) ?_ fun t7 r8 _ k9 h10 => ?_
  · rintro number _ h4
    try dsimp only [List.set_cons_zero, List.set_cons_succ, wipeS] at h4 ⊢
    refine c_pure h4 (p_fz rfl) fun r5 k6 => ?_
    exact f_el (v := number) h4 k6  
  refine f_setL (v := (t7 : List Int)) (fun v => .ol (encs v)) h10 k9 .w (by decide) fun kept _ h11 => ?_
  try dsimp only [List.set_cons_zero, List.set_cons_succ] at h11
  refine c_nx ?_
  refine c_seq ?_
  refine c_set ?_
  refine c_comp ?_
  refine c_it ?_
  refine c_pure h11 (p_fz rfl) fun r12 k13 => ?_
  refine f_it (xs := numbersH) h11 k13 .f fun _ h14 => ?_
  refine f_mapC (ψ := Int) h14 (fun _ => tg_n) ?_ fun t18 r19 _ k20 h21 => ?_
  · rintro number _ h15
    try dsimp only [List.set_cons_zero, List.set_cons_succ, wipeS] at h15 ⊢
    refine c_pure h15 (p_c) fun r16 k17 => ?_
    exact f_el (v := 0) h15 k17  
  refine f_setL (v := (t18 : List Int)) (fun v => .ol (encs v)) h21 k20 .w (by decide) fun due _ h22 => ?_
  try dsimp only [List.set_cons_zero, List.set_cons_succ] at h22
  refine c_nx ?_
  refine c_seq ?_
  refine c_if ?_
  refine c_pureB h22 (b_t (p_cmp (p_len (p_fz rfl)) (p_c))) ?_
  refine f_if (fun _ => ?_) (fun _ => ?_)
  · refine c_for ?_
    refine c_rng1 ?_
    refine c_pureA h22 (pa_cons' (p_fz rfl) pa_nil') fun r23 k24 => ?_
    refine f_rng1' h22 k24 fun xs25 => ?_
    refine f_for (fun (s : List Int) => [.fz (.scr script), .any, .fz (enc numbersH), .fz (enc many), .fz (enc step), .ol (encs kept), .ol (encs s), .cf, .cf, .cf, .cf, .cf]) (fun _ _ => tg_n) ?_ ?_ h22 
    · rintro turn due _ h55
      try dsimp only [List.set_cons_zero, List.set_cons_succ] at h55 ⊢
      refine c_seq ?_
      refine c_if ?_
      refine c_t ?_
      refine c_op ?_
      refine c_callB ?_
      refine c_pureA h55 (pa_cons' (p_fz rfl) (pa_cons' (p_ol rfl) (pa_cons' (p_fz rfl) pa_nil'))) fun r56 k57 => ?_
      refine f_callB h55 k57 (.cons .f (.cons (.v rfl) (.cons .f .nil))) rfl (ss_next_seat numbersH due step) imm_I fun t58 r59 k60 => ?_
      refine c_op2 ?_
      refine c_callB ?_
      refine c_pureA h55 (pa_cons' (p_fz rfl) (pa_cons' (p_ol rfl) (pa_cons' (p_fz rfl) pa_nil'))) fun r61 k62 => ?_
      refine f_callB h55 k62 (.cons .f (.cons (.v rfl) (.cons .f .nil))) rfl (ss__law_next numbersH due step) imm_I fun t63 r64 k65 => ?_
      refine f_ne (u := t58) (v := t63) h55 k60 k65 ?_
      refine f_t h55 rk_f ?_
      refine f_if (fun _ => ?_) (fun _ => ?_)
      · refine c_ret ?_
        refine c_pure h55 (p_c) fun r66 k67 => ?_
        refine f_ret ?_
        refine f_out ?_
        exact f_rt h55 k67 .f (.f .nil)
      · refine c_next ?_
        refine c_nx ?_
        refine c_seq ?_
        refine c_set ?_
        refine c_callB ?_
        refine c_pureA h55 (pa_cons' (p_fz rfl) (pa_cons' (p_ol rfl) (pa_cons' (p_fz rfl) pa_nil'))) fun r68 k69 => ?_
        refine f_callB h55 k69 (.cons .f (.cons (.v rfl) (.cons .f .nil))) rfl (ss__law_next numbersH due step) imm_I fun t70 r71 k72 => ?_
        refine f_setL (v := (t70 : Int)) (fun v => .fz (enc v)) h55 k72 .f (by decide) fun best _ h73 => ?_
        try dsimp only [List.set_cons_zero, List.set_cons_succ] at h73
        refine c_nx ?_
        refine c_setIx ?_
        refine c_op ?_
        refine c_ix ?_
        refine c_pure h73 (p_ol rfl) fun r74 k75 => ?_
        refine c_ix2 ?_
        refine c_pure h73 (p_fz rfl) fun r76 k77 => ?_
        refine f_ix (xs := due) h73 k75 k77 fun t78 => ?_
        refine c_op2 ?_
        refine c_pure h73 (p_c) fun r79 k80 => ?_
        refine f_int h73 rk_f k80 (kk := ?_)
        refine c_setIx2 (ds := encs due) h73 rfl ?_
        refine c_pure h73 (p_fz rfl) fun r81 k82 => ?_
        refine f_setIx (xs := due) (v := (t78 + 1)) h73 rk_f k82 .f rfl fun due _ h83 => ?_
        try dsimp only [List.set_cons_zero, List.set_cons_succ] at h83
        exact f_go h83 
    rintro due _ h85
    try dsimp only [List.set_cons_zero, List.set_cons_succ] at h85 ⊢
    refine c_nx ?_
    exact ss_law_7 script numbersH many step kept due _ (h85.weak (by first | exact W.refl _ | (repeat (first | exact W.nil | refine W.rf ?_ | refine W.cz ?_ | refine W.cc ?_ | refine W.vz ?_ | refine W.vo ?_ | refine W.an ?_))))
  · refine c_next ?_
    refine c_nx ?_
    exact ss_law_7 script numbersH many step kept due _ (h22.weak (by first | exact W.refl _ | (repeat (first | exact W.nil | refine W.rf ?_ | refine W.cz ?_ | refine W.cc ?_ | refine W.vz ?_ | refine W.vo ?_ | refine W.an ?_))))
noncomputable def p_law (script : List Int) : Res Bool :=
(p__law_digits script 0 63).bind fun t3 =>
(Res.ok ((Bx.mk t3 0) : Bx)).bind fun box =>
(p__law_draw box 7).bind fun (t15, box) =>
(rng1R t15).bind fun xs19 =>
(mapS (fun k' box =>
(p__law_draw box 41).bind fun (t23, box) =>
Res.ok (t23, box)) xs19 box).bind fun (t27, box) =>
(Res.ok (t27 : List Int)).bind fun numbersH =>
(p__law_draw box 13).bind fun (t34, box) =>
(Res.ok (t34 : Int)).bind fun many =>
(p__law_draw box 3).bind fun (t43, box) =>
(Res.ok ((1 + t43) : Int)).bind fun step =>
p_law_4 script numbersH many step
theorem ss_law (script : List Int) : FS false (φ_law [.fz (.scr script)]) (p_law script) (fun t => .fz (enc t)) (fun t => [.fz (.scr script)]) := by
  refine fs_mk0 [.fz (.scr script), .clr, .clr, .clr, .clr, .clr, .clr, .clr, .clr, .clr, .clr, .clr] rfl (by repeat (first | exact trivial | refine ⟨rfl, ?_⟩)) fun e0 h0 => ?_
  unfold p_law
  unfold d_law
  refine c_seq ?_
  refine c_set ?_
  refine c_lst ?_
  refine c_cons ?_
  refine c_call ?_
  refine c_pureA h0 (pa_cons' (p_fz rfl) (pa_cons' (p_c) (pa_cons' (p_c) pa_nil'))) fun r1 k2 => ?_
  refine f_call h0 k2 (.f .f (.f .f (.f .f .nil))) (ss__law_digits script 0 63) (fun _ => (.f (.f (.f .nil)))) (fun _ => rk_w) fun t3 r4 _ k5 h6 => ?_
  try dsimp only [List.set_cons_zero, List.set_cons_succ] at h6
  refine c_cons2 ?_
  refine c_cons ?_
  refine c_pure h6 (p_c) fun r7 k8 => ?_
  refine c_cons2 ?_
  refine c_nil ?_
  refine f_cons ?_
  refine f_cons ?_
  refine f_lst h6 (rks k5 (rks k8 rks0)) (.cons .w (.cons .f .nil)) (Nat.le_of_ble_eq_true rfl) fun r9 _ k10 h11 => ?_
  refine f_setL (v := ((Bx.mk t3 0) : Bx)) (fun v => .ol (boxD v)) h11 k10 .w (by decide) fun box _ h12 => ?_
  try dsimp only [List.set_cons_zero, List.set_cons_succ] at h12
  refine c_nx ?_
  refine c_seq ?_
  refine c_set ?_
  refine c_comp ?_
  refine c_rng1 ?_
  refine c_cons ?_
  refine c_call ?_
  refine c_pureA h12 (pa_cons' (p_ol rfl) (pa_cons' (p_c) pa_nil')) fun r13 k14 => ?_
  refine f_call h12 k14 (.t rfl (.f .f .nil)) (ss__law_draw box 7) (fun _ => (.t rfl (.f .nil))) (fun _ => rk_f) ?_
  rintro ⟨t15, box⟩ r16 _ k17 h18
  try dsimp only [List.set_cons_zero, List.set_cons_succ] at h18 ⊢
  refine c_cons2 ?_
  refine c_nil ?_
  refine f_cons ?_
  refine f_rng1' h18 (rks k17 rks0) fun xs19 => ?_
  refine f_mapS (ψ := Int) (fun (s : Bx) => [.fz (.scr script), .ol (boxD s), .clr, .clr, .clr, .clr, .clr, .clr, .clr, .clr, .clr, .clr]) h18 (by first | exact W.refl _ | (repeat (first | exact W.nil | refine W.rf ?_ | refine W.cz ?_ | refine W.cc ?_ | refine W.vz ?_ | refine W.vo ?_ | refine W.an ?_))) (fun _ _ => tg_n) ?_ (fun (s : Bx) => [.fz (.scr script), .ol (boxD s), .clr, .clr, .clr, .clr, .clr, .clr, .clr, .clr, .clr, .clr]) ?_
  · rintro k' box _ h20
    try dsimp only [List.set_cons_zero, List.set_cons_succ] at h20 ⊢
    refine c_call ?_
    refine c_pureA h20 (pa_cons' (p_ol rfl) (pa_cons' (p_c) pa_nil')) fun r21 k22 => ?_
    refine f_call h20 k22 (.t rfl (.f .f .nil)) (ss__law_draw box 41) (fun _ => (.t rfl (.f .nil))) (fun _ => rk_f) ?_
    rintro ⟨t23, box⟩ r24 _ k25 h26
    try dsimp only [List.set_cons_zero, List.set_cons_succ] at h26 ⊢
    exact f_elS (v := t23) h26 k25  
  rintro t27 box r28 _ k29 h30
  try dsimp only [List.set_cons_zero, List.set_cons_succ] at h30 ⊢
  refine f_setL (v := (t27 : List Int)) (fun v => .ol (encs v)) h30 k29 .w (by decide) fun numbersH _ h31 => ?_
  try dsimp only [List.set_cons_zero, List.set_cons_succ] at h31
  refine c_nx ?_
  refine c_seq ?_
  refine c_set ?_
  refine c_call ?_
  refine c_pureA h31 (pa_cons' (p_ol rfl) (pa_cons' (p_c) pa_nil')) fun r32 k33 => ?_
  refine f_call h31 k33 (.t rfl (.f .f .nil)) (ss__law_draw box 13) (fun _ => (.t rfl (.f .nil))) (fun _ => rk_f) ?_
  rintro ⟨t34, box⟩ r35 _ k36 h37
  try dsimp only [List.set_cons_zero, List.set_cons_succ] at h37 ⊢
  refine f_setL (v := (t34 : Int)) (fun v => .fz (enc v)) h37 k36 .f (by decide) fun many _ h38 => ?_
  try dsimp only [List.set_cons_zero, List.set_cons_succ] at h38
  refine c_nx ?_
  refine c_seq ?_
  refine c_set ?_
  refine c_op ?_
  refine c_pure h38 (p_c) fun r39 k40 => ?_
  refine c_op2 ?_
  refine c_call ?_
  refine c_pureA h38 (pa_cons' (p_ol rfl) (pa_cons' (p_c) pa_nil')) fun r41 k42 => ?_
  refine f_call h38 k42 (.t rfl (.f .f .nil)) (ss__law_draw box 3) (fun _ => (.t rfl (.f .nil))) (fun _ => rk_f) ?_
  rintro ⟨t43, box⟩ r44 _ k45 h46
  try dsimp only [List.set_cons_zero, List.set_cons_succ] at h46 ⊢
  refine f_int h46 k40 k45 (kk := ?_)
  refine f_setL (v := ((1 + t43) : Int)) (fun v => .fz (enc v)) h46 rk_f .f (by decide) fun step _ h47 => ?_
  try dsimp only [List.set_cons_zero, List.set_cons_succ] at h47
  refine c_nx ?_
  exact ss_law_4 script numbersH many step _ (h47.weak (by first | exact W.refl _ | (repeat (first | exact W.nil | refine W.rf ?_ | refine W.cz ?_ | refine W.cc ?_ | refine W.vz ?_ | refine W.vo ?_ | refine W.an ?_))))
theorem foldR_pureI {α σ : Type} {f : α → σ → Res σ} {g : σ → α → σ} (I : σ → Prop) : ∀ {xs : List α} {s : σ}, I s → (∀ x ∈ xs, ∀ s, I s → f x s = .ok (g s x) ∧ I (g s x)) → foldR f xs s = .ok (xs.foldl g s) ∧ I (xs.foldl g s)
  | [], s, h0, _ => ⟨rfl, h0⟩
  | x :: xs, s, h0, h => by
    obtain ⟨h1, h2⟩ := h x List.mem_cons_self s h0
    unfold foldR
    rw [h1, Res.bind_ok, List.foldl_cons]
    exact foldR_pureI I h2 fun y hy => h y (List.mem_cons_of_mem _ hy)
def nxs (N S : List Int) (st b k : Int) : Int := if nt N b.toNat * (st * nt S k.toNat + 1) < nt N k.toNat * (st * nt S b.toNat + 1) then k else b
def nx (N S : List Int) (st : Int) : Int := (irng 0 N.length).foldl (nxs N S st) 0
/-- numbers of a law -/
structure Nums (N : List Int) : Prop where
  ne : 0 < N.length
  le : N.length ≤ 10
  at_ : ∀ j, 0 ≤ nt N j ∧ nt N j ≤ 40
theorem nt_out {L : List Int} {j : Nat} (h : L.length ≤ j) : nt L j = 0 := by
  unfold nt; rw [List.getD_eq_getElem?_getD, List.getElem?_eq_none h]; rfl
theorem nxs_in {N S : List Int} {st b k : Int} {n : Int} (hb : 0 ≤ b ∧ b < n) (hk : 0 ≤ k ∧ k < n) : 0 ≤ nxs N S st b k ∧ nxs N S st b k < n := by
  unfold nxs; split <;> assumption
theorem next_ok {N S : List Int} {st : Int} (h : Nums N) (hS : S.length = N.length) (h0 : 0 ≤ st) (h1 : st ≤ 3) : p__law_next N S st = .ok (nx N S st) ∧ 0 ≤ nx N S st ∧ nx N S st < (N.length : Int) := by
  have ⟨hn, hl, hN⟩ := h
  unfold p__law_next
  rw [Res.bind_ok, rng1_ok (by omega) (by omega), Res.bind_ok, Int.toNat_natCast]
  obtain ⟨e, i⟩ := foldR_pureI (f := fun k' best => (geti N k').bind fun t53 =>
    (geti S best).bind fun t60 =>
    (mulR st t60).bind fun t61 =>
    (mulR t53 ((t61 + 1))).bind fun t64 =>
    (geti N best).bind fun t69 =>
    (geti S k').bind fun t76 =>
    (mulR st t76).bind fun t77 =>
    (mulR t69 ((t77 + 1))).bind fun t80 =>
    (if (decide (t80 < t64)) = true then
    (Res.ok (k' : Int)).bind fun best =>
    Res.ok best
    else
    Res.ok best).bind fun best =>
    Res.ok best) (g := nxs N S st) (xs := irng 0 N.length) (s := 0) (fun b => 0 ≤ b ∧ b < (N.length : Int)) (by omega) (fun k hk b hb => by
      have hk := irng_mem.mp hk
      refine ⟨?_, nxs_in hb (by omega)⟩
      rw [geti_Di 0 hk.1 (by omega), Res.bind_ok, geti_Di 0 hb.1 (by omega), Res.bind_ok, mulR_ok' (by omega), Res.bind_ok, mulR_ok' (by have := hN k.toNat; unfold nt at this; omega), Res.bind_ok, geti_Di 0 hb.1 (by omega), Res.bind_ok, geti_Di 0 hk.1 (by omega), Res.bind_ok, mulR_ok' (by omega), Res.bind_ok, mulR_ok' (by have := hN b.toNat; unfold nt at this; omega), Res.bind_ok]
      unfold nxs
      split
      · rename_i c; rw [if_pos (of_decide_eq_true c)]; rfl
      · rename_i c; rw [if_neg (fun q => c (decide_eq_true q))]; rfl)
  rw [e, Res.bind_ok]
  exact ⟨rfl, i⟩
theorem seat_ok {N S : List Int} {st : Int} (h : Nums N) (hS : S.length = N.length) (h0 : 0 ≤ st) (h1 : st ≤ 3) : p_next_seat N S st = .ok (nx N S st) := by
  have ⟨hn, hl, hN⟩ := h
  unfold p_next_seat
  rw [Res.bind_ok, rng_ok (by omega) (by omega) (by omega) (by omega), Res.bind_ok]
  obtain ⟨e, i⟩ := foldR_pureI (f := fun option best => (geti N option).bind fun t54 =>
    (geti S option).bind fun t61 =>
    (mulR st t61).bind fun t62 =>
    (geti N best).bind fun t69 =>
    (geti S best).bind fun t76 =>
    (mulR st t76).bind fun t77 =>
    (p_is_greater t54 ((t62 + 1)) t69 ((t77 + 1))).bind fun t80 =>
    (if t80 = true then
    (Res.ok (option : Int)).bind fun best =>
    Res.ok best
    else
    Res.ok best).bind fun best =>
    Res.ok best) (g := nxs N S st) (xs := irng 1 ((N.length : Int) - 1).toNat) (s := 0) (fun b => 0 ≤ b ∧ b < (N.length : Int)) (by omega) (fun k hk b hb => by
      have hk := irng_mem.mp hk
      refine ⟨?_, nxs_in hb (by omega)⟩
      rw [geti_Di 0 (by omega) (by omega), Res.bind_ok, geti_Di 0 (by omega) (by omega), Res.bind_ok, mulR_ok' (by omega), Res.bind_ok, geti_Di 0 hb.1 (by omega), Res.bind_ok, geti_Di 0 hb.1 (by omega), Res.bind_ok, mulR_ok' (by omega), Res.bind_ok]
      unfold p_is_greater
      rw [mulR_ok' (by have := hN k.toNat; unfold nt at this; omega), Res.bind_ok, mulR_ok' (by have := hN b.toNat; unfold nt at this; omega), Res.bind_ok, Res.bind_ok]
      unfold nxs
      split
      · rename_i c; rw [if_pos (of_decide_eq_true c)]; rfl
      · rename_i c; rw [if_neg (fun q => c (decide_eq_true q))]; rfl)
  rw [e, Res.bind_ok]
  congr 1
  unfold nx
  have : irng 0 N.length = 0 :: irng 1 ((N.length : Int) - 1).toNat := by
    obtain ⟨m, hm⟩ : ∃ m, N.length = m + 1 := ⟨N.length - 1, by omega⟩
    rw [hm, show ((m + 1 : Nat) : Int) - 1 = (m : Int) by omega, Int.toNat_natCast]
    unfold irng
    rw [List.range_succ_eq_map, List.map_cons, List.map_map]
    congr 1
    refine List.map_congr_left fun a _ => ?_
    show (0 : Int) + ((a + 1 : Nat) : Int) = 1 + (a : Int)
    omega
  rw [this, List.foldl_cons]
  congr 1
  unfold nxs
  split <;> rfl
def avs (N : List Int) (st : Int) (S : List Int) : List Int := S.set (nx N S st).toNat (nt S (nx N S st).toNat + 1)
def avI (N : List Int) (st : Int) : Nat → List Int
  | 0 => N.map fun _ => 0
  | i + 1 => avs N st (avI N st i)
theorem avI_len (N : List Int) (st : Int) : ∀ i, (avI N st i).length = N.length
  | 0 => by simp [avI]
  | i + 1 => by unfold avI avs; rw [List.length_set]; exact avI_len N st i
theorem zeros_ok {N : List Int} (h : N.length ≤ 1000) : mapC (fun (number : Int) => Res.ok (0 : Int)) N = .ok (N.map fun _ => 0) := mapC_ok (by omega) fun _ _ => rfl
theorem averages_ok {N : List Int} {st : Int} {many : Nat} (h : Nums N) (h0 : 0 ≤ st) (h1 : st ≤ 3) (hm : many ≤ 1000) : p_by_averages N (many : Int) st = .ok (avI N st many) := by
  unfold p_by_averages
  have := h.le
  have hne : (!(!N.isEmpty)) = false := by
    cases N with
    | nil => exact absurd h.ne (by simp)
    | cons _ _ => rfl
  rw [zeros_ok (by omega), Res.bind_ok, Res.bind_ok, if_neg (by rw [hne]; decide), rng1_ok (by omega) (by omega), Res.bind_ok, Int.toNat_natCast]
  have := foldR_hd (f := fun (turn : Int) seats => (p_next_seat N seats st).bind fun t26 => (augR seats t26 (· + ·) 1).bind fun seats => Res.ok seats) (xs := irng 0 many) (s := N.map fun _ => 0) (fun i S => S = avI N st i) rfl (by
    rintro i hi S rfl
    have hl := avI_len N st i
    have nb := (next_ok h hl h0 h1).2
    rw [seat_ok h hl h0 h1, Res.bind_ok]
    obtain ⟨j, hj⟩ := Int.eq_ofNat_of_zero_le nb.1
    rw [hj, augR_nat (by omega), Res.bind_ok]
    refine Hd.ok ?_
    show _ = avs N st (avI N st i)
    unfold avs
    rw [hj, Int.toNat_natCast]
    unfold nt
    rw [getD_lt 0 (by omega)])
  rw [irng_len] at this
  obtain ⟨S, h1, rfl⟩ := this
  rw [h1]; rfl
/-! by remainders -/
theorem quota_sum (t m : Int) : ∀ L : List Int, (L.map fun x => x * m / t).sum * t + (L.map fun x => x * m % t).sum = L.sum * m
  | [] => by simp
  | x :: L => by
    have ih := quota_sum t m L
    have e := Int.emod_add_mul_ediv (x * m) t
    simp only [List.map_cons, List.sum_cons]
    rw [Int.add_mul, Int.add_mul]
    have c : x * m / t * t = t * (x * m / t) := Int.mul_comm _ _
    omega
theorem rest_sum {t m : Int} (ht : 0 < t) : ∀ L : List Int, 0 ≤ (L.map fun x => x * m % t).sum ∧ (L.map fun x => x * m % t).sum ≤ L.length * (t - 1)
  | [] => by simp
  | x :: L => by
    have ih := rest_sum (m := m) ht L
    have a := Int.emod_nonneg (x * m) (show t ≠ 0 by omega)
    have b := Int.emod_lt_of_pos (x * m) ht
    simp only [List.map_cons, List.sum_cons, List.length_cons]
    have : ((L.length + 1 : Nat) : Int) * (t - 1) = L.length * (t - 1) + (t - 1) := by
      rw [show ((L.length + 1 : Nat) : Int) = (L.length : Int) + 1 by omega, Int.add_mul, Int.one_mul]
    omega
theorem sum_bd : ∀ {L : List Int}, (∀ x ∈ L, 0 ≤ x ∧ x ≤ 40) → 0 ≤ L.sum ∧ L.sum ≤ 40 * L.length
  | [], _ => by simp
  | x :: L, h => by
    have ih := sum_bd fun y hy => h y (List.mem_cons_of_mem _ hy)
    have := h x List.mem_cons_self
    simp only [List.sum_cons, List.length_cons]
    omega
theorem sum_set : ∀ {L : List Int} {j : Nat} (v : Int), j < L.length → (L.set j v).sum = L.sum + v - nt L j
  | x :: L, 0, v, _ => by simp [nt]; omega
  | x :: L, j + 1, v, h => by
    have ih := sum_set (L := L) (j := j) v (by simpa using h)
    simp only [List.set_cons_succ, List.sum_cons, nt, List.getD_cons_succ] at ih ⊢
    omega
theorem nt_set {L : List Int} {j i : Nat} {v : Int} (h : j < L.length) : nt (L.set j v) i = if i = j then v else nt L i := by
  unfold nt
  rw [List.getD_eq_getElem?_getD, List.getElem?_set]
  split
  · rename_i c; subst c; simp [h]
  · rename_i c; rw [if_neg (fun e => c e.symm)]; rfl
theorem nt_map {L : List Int} {j : Nat} (f : Int → Int) (h : j < L.length) : nt (L.map f) j = f (nt L j) := by
  unfold nt; rw [getD_lt 0 (by simpa using h), getD_lt 0 h, List.getElem_map]
theorem Sg_one (n : Nat) : Sg n (fun _ => 1) = n := by
  induction n with
  | zero => rfl
  | succ n ih => show Sg n (fun _ => 1) + 1 = _; rw [ih]; omega
structure RI (N : List Int) (t m : Int) (i : Nat) (s : List Int × List Int) : Prop where
  l1 : s.1.length = N.length
  l2 : s.2.length = N.length
  sm : s.1.sum = (N.map fun x => x * m / t).sum + i
  at_ : ∀ j, j < N.length → (nt s.2 j = nt N j * m % t ∧ nt s.1 j = nt N j * m / t) ∨ (nt s.2 j = -1 ∧ nt s.1 j = nt N j * m / t + 1)
  od : ∀ k o, k < N.length → o < N.length → nt s.2 k ≠ -1 → nt s.2 o = -1 → nt N k * m % t < nt N o * m % t ∨ (nt N k * m % t = nt N o * m % t ∧ o < k)
structure RE (N : List Int) (t m : Int) (S : List Int) : Prop where
  l1 : S.length = N.length
  sm : S.sum = m
  at_ : ∀ j, j < N.length → nt S j = nt N j * m / t ∨ nt S j = nt N j * m / t + 1
  od : ∀ k o, k < N.length → o < N.length → nt S k = nt N k * m / t → nt S o = nt N o * m / t + 1 → nt N k * m % t < nt N o * m % t ∨ (nt N k * m % t = nt N o * m % t ∧ o < k)
theorem remainders_ok {N : List Int} {many : Nat} (h : Nums N) (hm : many ≤ 1000) (ht : N.sum ≠ 0) : ∃ S, p_by_remainders N (many : Int) = .ok S ∧ RE N N.sum many S := by
  have ⟨hn, hl, hN⟩ := h
  have bd := sum_bd (L := N) fun x hx => by obtain ⟨j, _, rfl⟩ := mem_nt hx; exact hN j
  have tp : 0 < N.sum := by omega
  unfold p_by_remainders
  rw [Res.bind_ok, if_neg (fun q => ht (of_decide_eq_true q))]
  have hb : ∀ x ∈ N, -18446744073709551616 < x ∧ x < 18446744073709551616 := fun x hx => by
    obtain ⟨j, _, rfl⟩ := mem_nt hx
    have := hN j; omega
  rw [mapC_ok (g := fun x => x * (many : Int) / N.sum) (by omega) (fun x hx => by rw [mulR_ok' (hb x hx), Res.bind_ok, divR_ok tp (by omega)]; rfl), Res.bind_ok, Res.bind_ok,
    mapC_ok (g := fun x => x * (many : Int) % N.sum) (by omega) (fun x hx => by rw [mulR_ok' (hb x hx), Res.bind_ok, modR_ok tp]; rfl), Res.bind_ok, Res.bind_ok]
  have q1 := quota_sum N.sum many N
  have q2 := rest_sum (m := many) tp N
  generalize hQ : (N.map fun x => x * (many : Int) / N.sum).sum = Q at q1 ⊢
  generalize hR : (N.map fun x => x * (many : Int) % N.sum).sum = R at q1 q2
  have hT : ((many : Int) - Q) * N.sum = R := by
    rw [Int.sub_mul, Int.mul_comm (many : Int) N.sum]; omega
  have T0 : 0 ≤ (many : Int) - Q := by
    have : 0 * N.sum ≤ ((many : Int) - Q) * N.sum := by rw [hT]; omega
    exact Int.le_of_mul_le_mul_right this tp
  have T1 : (many : Int) - Q < N.length := by
    have e : (N.length : Int) * (N.sum - 1) = N.length * N.sum - N.length := by rw [Int.mul_sub, Int.mul_one]
    have : ((many : Int) - Q) * N.sum < N.length * N.sum := by omega
    exact Int.lt_of_mul_lt_mul_right this (by omega)
  rw [rng1_ok (by omega) (by omega), Res.bind_ok]
  obtain ⟨T, eT⟩ := Int.eq_ofNat_of_zero_le T0
  rw [eT] at T1 ⊢
  rw [Int.toNat_natCast]
  refine (foldR_hd (RI N N.sum many) ⟨by simp, by simp, by simp [hQ], fun j hj => .inl ⟨nt_map _ hj, nt_map _ hj⟩, fun k o hk ho _ h2 => ?_⟩ fun i hi s hs => ?_).bind fun s hs => ?_
  · rw [nt_map (fun x => x * (many : Int) % N.sum) ho] at h2
    have := Int.emod_nonneg (nt N o * many) ht
    omega
  · obtain ⟨S, Rs⟩ := s
    obtain ⟨l1, l2, sm, at_, od⟩ := hs
    rw [irng_len] at hi
    dsimp only at l1 l2 sm at_ od ⊢
    have ne : Rs ≠ [] := fun e => by rw [e] at l2; simp at l2; omega
    obtain ⟨j, fm, e1, e2⟩ := fm_ok ne
    rw [e1, Res.bind_ok, e2, Res.bind_ok, Res.bind_ok, augR_nat (by rw [l1, ← l2]; exact fm.lt), Res.bind_ok, setR_nat fm.lt, Res.bind_ok]
    have jl : j < N.length := by rw [← l2]; exact fm.lt
    have jS : j < S.length := by omega
    -- some option is left
    have left : nt Rs j ≠ -1 := by
      intro c
      have all : ∀ k, k < N.length → nt S k = nt N k * many / N.sum + 1 := fun k hk => by
        rcases at_ k hk with a | a
        · have := fm.ge k (by omega)
          have := Int.emod_nonneg (nt N k * many) ht
          omega
        · exact a.2
      have e3 : S.sum = Q + N.length := by
        rw [← hQ, sum_getD S, l1, Sg_range N, Sg_congr (g := fun k => nt N k * many / N.sum + 1) fun k hk => all k hk, Sg_add]
        rw [Sg_one]
      rw [hQ] at sm
      omega
    have aj : nt Rs j = nt N j * many % N.sum ∧ nt S j = nt N j * many / N.sum := by
      rcases at_ j jl with a | a
      · exact a
      · exact absurd a.1 left
    have gj : S[j] = nt S j := (getD_lt 0 jS).symm
    refine Hd.ok ⟨by simpa using l1, by simpa using l2, ?_, fun k hk => ?_, fun k o hk ho c1 c2 => ?_⟩
    · dsimp only
      rw [sum_set _ jS, sm, gj]; omega
    · dsimp only
      rw [nt_set fm.lt, nt_set jS]
      split
      · rename_i c; subst c; right; exact ⟨rfl, by rw [gj, aj.2]⟩
      · exact at_ k hk
    · dsimp only at c1 c2
      rw [nt_set fm.lt] at c1 c2
      by_cases ck : k = j
      · rw [if_pos ck] at c1; exact absurd rfl c1
      rw [if_neg ck] at c1
      by_cases co : o = j
      · subst co
        have ak := (at_ k hk).resolve_right fun a => c1 a.1
        have g := fm.ge k (by omega)
        rw [aj.1, ak.1] at g
        by_cases lt : nt N k * many % N.sum < nt N o * many % N.sum
        · exact .inl lt
        · right
          refine ⟨by omega, ?_⟩
          rcases Nat.lt_trichotomy k o with z | z | z
          · have f := fm.first k z
            rw [aj.1, ak.1] at f
            omega
          · exact absurd z ck
          · exact z
      · rw [if_neg co] at c2
        exact od k o hk ho c1 c2
  · obtain ⟨S, Rs⟩ := s
    obtain ⟨l1, l2, sm, at_, od⟩ := hs
    rw [irng_len] at sm
    dsimp only at l1 l2 sm at_ od ⊢
    have rn : ∀ k, 0 ≤ nt N k * many % N.sum := fun k => Int.emod_nonneg _ ht
    refine Hd.ok ⟨l1, by rw [sm, hQ]; omega, fun j hj => (at_ j hj).imp (·.2) (·.2), fun k o hk ho a b => od k o hk ho ?_ ?_⟩
    · rcases at_ k hk with c | c
      · have := rn k; omega
      · omega
    · rcases at_ o ho with c | c
      · omega
      · exact c.1
theorem rests_ok {N S : List Int} {many : Nat} (h : Nums N) (ht : N.sum ≠ 0) (r : RE N N.sum many S) : p__law_rests N (many : Int) S = .ok true := by
  have ⟨hn, hl, hN⟩ := h
  have bd := sum_bd (L := N) fun x hx => by obtain ⟨j, _, rfl⟩ := mem_nt hx; exact hN j
  have tp : 0 < N.sum := by omega
  obtain ⟨l1, sm, at_, od⟩ := r
  refine Hd.true ?_
  unfold p__law_rests
  rw [Res.bind_ok, Res.bind_ok, rng1_ok (by omega) (by omega), Res.bind_ok, Int.toNat_natCast]
  have hb : ∀ k, -18446744073709551616 < N.getD k 0 ∧ N.getD k 0 < 18446744073709551616 := fun k => by have := hN k; unfold nt at this; omega
  refine forR_go (fun i M => M = (List.range i).map fun k => nt S k - nt N k * many / N.sum) rfl (fun i hi M hM => ?_) fun M hM => ?_
  · subst hM
    rw [irng_len] at hi
    have e : (irng 0 N.length)[i]'(by rw [irng_len]; exact hi) = (i : Int) := by simp [irng]
    rw [e, geti_D 0 (by omega), Res.bind_ok, geti_D 0 hi, Res.bind_ok, mulR_ok' (hb i), Res.bind_ok, divR_ok tp (by omega), Res.bind_ok, Res.bind_ok]
    have := at_ i hi
    rw [if_neg (by
      rw [Bool.and_eq_true, decide_eq_true_iff, decide_eq_true_iff]
      have e1 : nt N i = N.getD i 0 := rfl
      have e2 : nt S i = S.getD i 0 := rfl
      rw [e1, e2] at this
      omega), appR_ok (by simp; omega), Res.bind_ok]
    refine Hd.ok ⟨_, rfl, ?_⟩
    rw [List.range_succ, List.map_append]; rfl
  · rw [irng_len] at hM
    subst hM
    rw [Res.bind_ok]
    have hM : ∀ k, k < N.length → geti ((List.range N.length).map fun k => nt S k - nt N k * many / N.sum) (k : Int) = .ok (nt S k - nt N k * many / N.sum) := fun k hk => by
      rw [geti_nat (by simpa using hk)]; simp
    generalize ((List.range N.length).map fun k => nt S k - nt N k * many / N.sum) = M at hM
    rw [forR_all]
    · exact Hd.ok rfl
    intro k hk
    have hk := irng_mem.mp hk
    obtain ⟨k, rfl⟩ := Int.eq_ofNat_of_zero_le hk.1
    rw [Res.bind_ok, forR_all]
    intro o ho
    have ho := irng_mem.mp ho
    obtain ⟨o, rfl⟩ := Int.eq_ofNat_of_zero_le ho.1
    rw [geti_D 0 (by omega), Res.bind_ok, mulR_ok' (hb k), Res.bind_ok, modR_ok tp, Res.bind_ok, Res.bind_ok, geti_D 0 (by omega), Res.bind_ok, mulR_ok' (hb o), Res.bind_ok, modR_ok tp, Res.bind_ok, Res.bind_ok, hM k (by omega), Res.bind_ok]
    split
    · rename_i c
      have c := of_decide_eq_true c
      rw [hM o (by omega), Res.bind_ok, Res.bind_ok, if_neg]
      rw [Bool.and_eq_true, Bool.or_eq_true, Bool.and_eq_true, decide_eq_true_iff, decide_eq_true_iff, decide_eq_true_iff, decide_eq_true_iff]
      rintro ⟨c2, c3⟩
      have := od k o (by omega) (by omega) (by omega) (by omega)
      unfold nt at this
      omega
    · rw [Res.bind_ok, if_neg (by decide)]
theorem law_7 {script N : List Int} {many : Nat} {st : Int} (hN : N.length ≤ 10) (hb : ∀ x ∈ N, 0 ≤ x ∧ x ≤ 40) (hm : many ≤ 1000) (h0 : 0 ≤ st) (h1 : st ≤ 3) : p_law_7 script N (many : Int) st N (if 0 < N.length then avI N st many else N.map fun _ => 0) = .ok true := by
  have nums : 0 < N.length → Nums N := fun h => ⟨h, hN, fun j => by
    by_cases c : j < N.length
    · exact hb _ (nt_mem c)
    · rw [nt_out (by omega)]; omega⟩
  have av : ∀ s, 0 ≤ s → s ≤ 3 → p_by_averages N (many : Int) s = .ok (if 0 < N.length then avI N s many else N.map fun _ => 0) := fun s s0 s1 => by
    by_cases c : 0 < N.length
    · rw [if_pos c]; exact averages_ok (nums c) s0 s1 hm
    · rw [if_neg c]
      have : N = [] := List.eq_nil_of_length_eq_zero (by omega)
      subst this
      unfold p_by_averages
      rw [zeros_ok (by simp), Res.bind_ok, Res.bind_ok, if_pos (by rfl)]
  refine Hd.true ?_
  unfold p_law_7
  rw [av st h0 h1, Res.bind_ok, if_neg (by simp)]
  refine Hd.bind (R := fun b => b = false) ?_ fun b hb' => ?_
  · split
    · rename_i c
      have c := of_decide_eq_true c
      subst c
      rw [av 1 (by omega) (by omega), Res.bind_ok]
      exact Hd.ok (by simp)
    · exact Hd.ok rfl
  subst hb'
  rw [if_neg (by decide)]
  by_cases ht : N.sum = 0
  · unfold p_by_remainders
    rw [Res.bind_ok, if_pos (decide_eq_true ht), zeros_ok (by omega), Res.bind_ok, Res.bind_ok, Res.bind_ok, if_neg (by simp)]
    unfold p_law_11
    rw [if_pos (decide_eq_true ht), zeros_ok (by omega), Res.bind_ok]
    exact Hd.ok (by simp)
  · have ne : 0 < N.length := by
      cases N with
      | nil => exact absurd rfl ht
      | cons _ _ => simp
    obtain ⟨S, e, r⟩ := remainders_ok (nums ne) hm ht
    rw [e, Res.bind_ok, Res.bind_ok, if_neg (by have := r.l1; simp [this])]
    unfold p_law_11
    rw [if_neg (by simpa using ht), if_pos (decide_eq_true r.sm), rests_ok (nums ne) ht r, Res.bind_ok, Res.bind_ok]
    exact Hd.ok rfl
theorem law_plain (ns : List Int) : p_law ns = .ok true := by
  refine Hd.true ?_
  unfold p_law
  refine hd_digits fun ds => ?_
  rw [Res.bind_ok]
  refine hd_draw (by decide) fun x b x0 x1 => ?_
  dsimp only
  rw [rng1_ok (by omega) (by omega), Res.bind_ok]
  refine (mapS_hd (Q := fun _ v => 0 ≤ v ∧ v < 41) (by rw [irng_len]; omega) fun z hz b => (draw_hd (by decide)).bind fun q hq => Hd.ok hq).bind fun q hq => ?_
  obtain ⟨N, b⟩ := q
  dsimp only at hq ⊢
  have hl : N.length = x.toNat := by have := hq.len; rwa [irng_len] at this
  have hb : ∀ v ∈ N, 0 ≤ v ∧ v ≤ 40 := fun v hv => by obtain ⟨_, _, h1, h2⟩ := hq.mem v hv; omega
  rw [Res.bind_ok]
  refine hd_draw (by decide) fun many b m0 m1 => ?_
  dsimp only
  rw [Res.bind_ok]
  refine hd_draw (by decide) fun st b s0 s1 => ?_
  dsimp only
  rw [Res.bind_ok]
  obtain ⟨many, rfl⟩ := Int.eq_ofNat_of_zero_le m0
  unfold p_law_4
  rw [mapC_id (by omega), Res.bind_ok, Res.bind_ok, zeros_ok (by omega), Res.bind_ok, Res.bind_ok]
  have fin := law_7 (script := ns) (N := N) (many := many) (st := 1 + st) (by omega) hb (by omega) (by omega) (by omega)
  by_cases c : 0 < N.length
  · rw [if_pos (decide_eq_true (by omega)), rng1_ok (by omega) (by omega), Res.bind_ok, Int.toNat_natCast]
    have nums : Nums N := ⟨c, by omega, fun j => by
      by_cases c : j < N.length
      · exact hb _ (nt_mem c)
      · rw [nt_out (by omega)]; omega⟩
    rw [if_pos c] at fin
    refine forR_go (fun i S => S = avI N (1 + st) i) rfl (fun i hi S hS => ?_) fun S hS => ?_
    · subst hS
      have hl := avI_len N (1 + st) i
      have ⟨e, nb⟩ := next_ok nums hl (show 0 ≤ 1 + st by omega) (by omega)
      rw [seat_ok nums hl (by omega) (by omega), Res.bind_ok, e, Res.bind_ok, if_neg (by simp), Res.bind_ok, Res.bind_ok]
      obtain ⟨j, hj⟩ := Int.eq_ofNat_of_zero_le nb.1
      rw [hj, geti_D 0 (by omega), Res.bind_ok, setR_nat (by omega), Res.bind_ok]
      refine Hd.ok ⟨_, rfl, ?_⟩
      show _ = avs N (1 + st) (avI N (1 + st) i)
      unfold avs
      rw [hj, Int.toNat_natCast]
    · rw [irng_len] at hS
      subst hS
      rw [fin]; exact Hd.ok rfl
  · rw [if_neg (by simpa using (by omega : ¬ (0:Int) < N.length))]
    rw [if_neg c] at fin
    rw [fin]; exact Hd.ok rfl
theorem law_pure (ns : List Int) : ∃ as', φ_law [.fz (.scr ns)] = .ok (.fz (.bl true)) as' := law_of (ss_law ns) (law_plain ns)
end
end V
set_option maxHeartbeats 0
namespace V
open PySem PySem.Spec PyProof.Rows L2 VF
def top (i : Nat) : Stmt := PySem.Challenge.pw_veilcount_k17_seats.main.body.getD i (.Pass ⟨0, 0, 0, 0⟩)
abbrev s_is_greater : Stmt := top 1
abbrev N_is_greater : List Str := ["number", "divisor", "other", "other_divisor"]
theorem sc_is_greater : FnScope N_is_greater ["number", "divisor", "other", "other_divisor"] (defScope s_is_greater) := ⟨rfl, rfl, rfl, by decide +kernel, rfl, by decide +kernel, by decide +kernel⟩
abbrev s_next_seat : Stmt := top 2
abbrev N_next_seat : List Str := ["numbers", "seats", "step", "best", "option"]
theorem sc_next_seat : FnScope N_next_seat ["numbers", "seats", "step"] (defScope s_next_seat) := ⟨rfl, rfl, rfl, by decide +kernel, rfl, by decide +kernel, by decide +kernel⟩
abbrev s_by_averages : Stmt := top 3
abbrev N_by_averages : List Str := ["numbers", "many", "step", "seats", "turn", "number"]
theorem sc_by_averages : FnScope N_by_averages ["numbers", "many", "step"] (defScope s_by_averages) := ⟨rfl, rfl, rfl, by decide +kernel, rfl, by decide +kernel, by decide +kernel⟩
abbrev s_by_remainders : Stmt := top 4
abbrev N_by_remainders : List Str := ["numbers", "many", "total", "seats", "rests", "turn", "option", "number"]
theorem sc_by_remainders : FnScope N_by_remainders ["numbers", "many"] (defScope s_by_remainders) := ⟨rfl, rfl, rfl, by decide +kernel, rfl, by decide +kernel, by decide +kernel⟩
abbrev s__law_cell : Stmt := top 6
abbrev N__law_cell : List Str := ["_law_script", "_law_k"]
theorem sc__law_cell : FnScope N__law_cell ["_law_script", "_law_k"] (defScope s__law_cell) := ⟨rfl, rfl, rfl, by decide +kernel, rfl, by decide +kernel, by decide +kernel⟩
abbrev s__law_digits : Stmt := top 7
abbrev N__law_digits : List Str := ["_law_script", "_law_first", "_law_last", "_law_digits_here", "_law_k", "_law_cell_here", "_law_turn", "_law_seed"]
theorem sc__law_digits : FnScope N__law_digits ["_law_script", "_law_first", "_law_last"] (defScope s__law_digits) := ⟨rfl, rfl, rfl, by decide +kernel, rfl, by decide +kernel, by decide +kernel⟩
abbrev s__law_draw : Stmt := top 8
abbrev N__law_draw : List Str := ["_law_box", "_law_many", "_law_at"]
theorem sc__law_draw : FnScope N__law_draw ["_law_box", "_law_many"] (defScope s__law_draw) := ⟨rfl, rfl, rfl, by decide +kernel, rfl, by decide +kernel, by decide +kernel⟩
abbrev s__law_prime : Stmt := top 9
abbrev N__law_prime : List Str := ["_law_box"]
theorem sc__law_prime : FnScope N__law_prime ["_law_box"] (defScope s__law_prime) := ⟨rfl, rfl, rfl, by decide +kernel, rfl, by decide +kernel, by decide +kernel⟩
abbrev s__law_numbers : Stmt := top 10
abbrev N__law_numbers : List Str := ["_law_box", "_law_many", "_law_numbers_here", "_law_k"]
theorem sc__law_numbers : FnScope N__law_numbers ["_law_box", "_law_many"] (defScope s__law_numbers) := ⟨rfl, rfl, rfl, by decide +kernel, rfl, by decide +kernel, by decide +kernel⟩
abbrev s__law_order : Stmt := top 11
abbrev N__law_order : List Str := ["_law_box", "_law_many", "_law_left", "_law_order_here", "_law_k"]
theorem sc__law_order : FnScope N__law_order ["_law_box", "_law_many"] (defScope s__law_order) := ⟨rfl, rfl, rfl, by decide +kernel, rfl, by decide +kernel, by decide +kernel⟩
abbrev s__law_is_int : Stmt := top 12
abbrev N__law_is_int : List Str := ["_law_x"]
theorem sc__law_is_int : FnScope N__law_is_int ["_law_x"] (defScope s__law_is_int) := ⟨rfl, rfl, rfl, by decide +kernel, rfl, by decide +kernel, by decide +kernel⟩
abbrev s__law_are_values : Stmt := top 13
abbrev N__law_are_values : List Str := ["_law_xs", "_law_prime_here", "_law_x"]
theorem sc__law_are_values : FnScope N__law_are_values ["_law_xs", "_law_prime_here"] (defScope s__law_are_values) := ⟨rfl, rfl, rfl, by decide +kernel, rfl, by decide +kernel, by decide +kernel⟩
abbrev s__law_next : Stmt := top 14
abbrev N__law_next : List Str := ["_law_numbers_here", "_law_seats", "_law_step", "_law_best", "_law_k"]
theorem sc__law_next : FnScope N__law_next ["_law_numbers_here", "_law_seats", "_law_step"] (defScope s__law_next) := ⟨rfl, rfl, rfl, by decide +kernel, rfl, by decide +kernel, by decide +kernel⟩
abbrev s__law_rests : Stmt := top 15
abbrev N__law_rests : List Str := ["_law_numbers_here", "_law_many", "_law_seats", "_law_total", "_law_more", "_law_k", "_law_extra", "_law_other", "_law_mine", "_law_its"]
theorem sc__law_rests : FnScope N__law_rests ["_law_numbers_here", "_law_many", "_law_seats"] (defScope s__law_rests) := ⟨rfl, rfl, rfl, by decide +kernel, rfl, by decide +kernel, by decide +kernel⟩
abbrev s_law : Stmt := top 16
abbrev N_law : List Str := ["_law_script", "_law_box", "_law_numbers_here", "_law_many", "_law_step", "_law_kept", "_law_due", "_law_seats", "_law_turn", "_law_k", "_law_number", "_law_best"]
theorem sc_law : FnScope N_law ["_law_script"] (defScope s_law) := ⟨rfl, rfl, rfl, by decide +kernel, rfl, by decide +kernel, by decide +kernel⟩
abbrev FnP (K : PySem.W.Frag) (x : Str) (st : Stmt) (f : Addr) (fd : FuncData) : Prop := FunD K x x (defArgs st) (defBody st) (defScope st) [] [] f fd
structure Tx (P : Program) (K : PySem.W.Frag) (mg : Str → Option Value) where
  b_bool : mg "bool" = none
  b_int : mg "int" = none
  b_isinstance : mg "isinstance" = none
  b_len : mg "len" = none
  b_list : mg "list" = none
  b_max : mg "max" = none
  b_range : mg "range" = none
  b_sum : mg "sum" = none
  a_is_greater : Addr
  fd_is_greater : FuncData
  F_is_greater : FnP K "is_greater" s_is_greater a_is_greater fd_is_greater
  g_is_greater : mg "is_greater" = some (.ref a_is_greater)
  a_next_seat : Addr
  fd_next_seat : FuncData
  F_next_seat : FnP K "next_seat" s_next_seat a_next_seat fd_next_seat
  g_next_seat : mg "next_seat" = some (.ref a_next_seat)
  a_by_averages : Addr
  fd_by_averages : FuncData
  F_by_averages : FunD K "by_averages" "by_averages" (defArgs s_by_averages) (defBody s_by_averages) (defScope s_by_averages) [] [("step", .int 1)] a_by_averages fd_by_averages
  g_by_averages : mg "by_averages" = some (.ref a_by_averages)
  a_by_remainders : Addr
  fd_by_remainders : FuncData
  F_by_remainders : FnP K "by_remainders" s_by_remainders a_by_remainders fd_by_remainders
  g_by_remainders : mg "by_remainders" = some (.ref a_by_remainders)
  a__law_cell : Addr
  fd__law_cell : FuncData
  F__law_cell : FnP K "_law_cell" s__law_cell a__law_cell fd__law_cell
  g__law_cell : mg "_law_cell" = some (.ref a__law_cell)
  a__law_digits : Addr
  fd__law_digits : FuncData
  F__law_digits : FnP K "_law_digits" s__law_digits a__law_digits fd__law_digits
  g__law_digits : mg "_law_digits" = some (.ref a__law_digits)
  a__law_draw : Addr
  fd__law_draw : FuncData
  F__law_draw : FnP K "_law_draw" s__law_draw a__law_draw fd__law_draw
  g__law_draw : mg "_law_draw" = some (.ref a__law_draw)
  a__law_prime : Addr
  fd__law_prime : FuncData
  F__law_prime : FnP K "_law_prime" s__law_prime a__law_prime fd__law_prime
  g__law_prime : mg "_law_prime" = some (.ref a__law_prime)
  a__law_numbers : Addr
  fd__law_numbers : FuncData
  F__law_numbers : FnP K "_law_numbers" s__law_numbers a__law_numbers fd__law_numbers
  g__law_numbers : mg "_law_numbers" = some (.ref a__law_numbers)
  a__law_order : Addr
  fd__law_order : FuncData
  F__law_order : FnP K "_law_order" s__law_order a__law_order fd__law_order
  g__law_order : mg "_law_order" = some (.ref a__law_order)
  a__law_is_int : Addr
  fd__law_is_int : FuncData
  F__law_is_int : FnP K "_law_is_int" s__law_is_int a__law_is_int fd__law_is_int
  g__law_is_int : mg "_law_is_int" = some (.ref a__law_is_int)
  a__law_are_values : Addr
  fd__law_are_values : FuncData
  F__law_are_values : FnP K "_law_are_values" s__law_are_values a__law_are_values fd__law_are_values
  g__law_are_values : mg "_law_are_values" = some (.ref a__law_are_values)
  a__law_next : Addr
  fd__law_next : FuncData
  F__law_next : FnP K "_law_next" s__law_next a__law_next fd__law_next
  g__law_next : mg "_law_next" = some (.ref a__law_next)
  a__law_rests : Addr
  fd__law_rests : FuncData
  F__law_rests : FnP K "_law_rests" s__law_rests a__law_rests fd__law_rests
  g__law_rests : mg "_law_rests" = some (.ref a__law_rests)
  a_law : Addr
  fd_law : FuncData
  F_law : FnP K "law" s_law a_law fd_law
  g_law : mg "law" = some (.ref a_law)
section
variable {P : Program} {w : World} {K : PySem.W.Frag} {mg : Str → Option Value} {base : Heap}
theorem Tx.bd_is_greater (T : Tx P K mg) : Binds K T.fd_is_greater ["number", "divisor", "other", "other_divisor"] [] := T.F_is_greater.bindsN fun _ _ _ _ _ _ us hl => match us, hl with | [_, _, _, _], _ => rfl
theorem Tx.ok_is_greater (T : Tx P K mg) : FnOk P w K mg base CX0 1 T.a_is_greater T.fd_is_greater ["number", "divisor", "other", "other_divisor"] (spF K mg 4 φ_is_greater) :=
  fn_ok (k := 0) T.F_is_greater sc_is_greater [false, false, false, false] rfl (m := d_is_greater) (n := 4) rfl fun cdv A outer s H E hr => ((b_one (s_ret (v_gt (v_mul (v_var (i := 0) rfl (by first | exact .inl rfl | exact .inr (.inl rfl) | exact .inr (.inr rfl))) (v_var (i := 3) rfl (by first | exact .inl rfl | exact .inr (.inl rfl) | exact .inr (.inr rfl)))) (v_mul (v_var (i := 2) rfl (by first | exact .inl rfl | exact .inr (.inl rfl) | exact .inr (.inr rfl))) (v_var (i := 1) rfl (by first | exact .inl rfl | exact .inr (.inl rfl) | exact .inr (.inr rfl))))))))
theorem Tx.bd_next_seat (T : Tx P K mg) : Binds K T.fd_next_seat ["numbers", "seats", "step"] [] := T.F_next_seat.bindsN fun _ _ _ _ _ _ us hl => match us, hl with | [_, _, _], _ => rfl
theorem Tx.ok_next_seat (T : Tx P K mg) : FnOk P w K mg base CX0 2 T.a_next_seat T.fd_next_seat ["numbers", "seats", "step"] (spF K mg 3 φ_next_seat) :=
  fn_ok (k := 1) T.F_next_seat sc_next_seat [false, false, false] rfl (m := d_next_seat) (n := 5) rfl fun cdv A outer s H E hr => ((b_cons (s_set (i := 3) sc_next_seat.nd rfl (by first | exact .inl rfl | exact .inr rfl) v_int)
      (b_cons (s_for PassesOwn.never rfl (i_rng2 rfl T.b_range (a_cons v_int (a_cons (v_len rfl T.b_len (a_cons (v_var (i := 0) rfl (by first | exact .inl rfl | exact .inr (.inl rfl) | exact .inr (.inr rfl))) a_nil)) a_nil))) (g_name (i := 4) sc_next_seat.nd rfl (by first | exact .inl rfl | exact .inr rfl)) (b_one (s_if (t_tru (v_callB T.ok_is_greater (hr.mono (by decide)) rfl T.g_is_greater T.F_is_greater.kp T.bd_is_greater passN (a_cons (v_ix (v_var (i := 0) rfl (by first | exact .inl rfl | exact .inr (.inl rfl) | exact .inr (.inr rfl))) (v_var (i := 4) rfl (by first | exact .inl rfl | exact .inr (.inl rfl) | exact .inr (.inr rfl))) (fun _ _ => rfl)) (a_cons (v_addI (v_mul (v_var (i := 2) rfl (by first | exact .inl rfl | exact .inr (.inl rfl) | exact .inr (.inr rfl))) (v_ix (v_var (i := 1) rfl (by first | exact .inl rfl | exact .inr (.inl rfl) | exact .inr (.inr rfl))) (v_var (i := 4) rfl (by first | exact .inl rfl | exact .inr (.inl rfl) | exact .inr (.inr rfl))) (fun _ _ => rfl))) v_int) (a_cons (v_ix (v_var (i := 0) rfl (by first | exact .inl rfl | exact .inr (.inl rfl) | exact .inr (.inr rfl))) (v_var (i := 3) rfl (by first | exact .inl rfl | exact .inr (.inl rfl) | exact .inr (.inr rfl))) (fun _ _ => rfl)) (a_cons (v_addI (v_mul (v_var (i := 2) rfl (by first | exact .inl rfl | exact .inr (.inl rfl) | exact .inr (.inr rfl))) (v_ix (v_var (i := 1) rfl (by first | exact .inl rfl | exact .inr (.inl rfl) | exact .inr (.inr rfl))) (v_var (i := 3) rfl (by first | exact .inl rfl | exact .inr (.inl rfl) | exact .inr (.inr rfl))) (fun _ _ => rfl))) v_int) a_nil)))))) (b_one (s_set (i := 3) sc_next_seat.nd rfl (by first | exact .inl rfl | exact .inr rfl) (v_var (i := 4) rfl (by first | exact .inl rfl | exact .inr (.inl rfl) | exact .inr (.inr rfl))))) b_nil)))
      (b_one (s_ret (v_var (i := 3) rfl (by first | exact .inl rfl | exact .inr (.inl rfl) | exact .inr (.inr rfl))))))))
theorem Tx.kb_by_averages_2 (T : Tx P K mg) : KBn K T.fd_by_averages ["numbers", "many", "step"] 2 ["step"] (fun us ws => us ++ ws) (fun vs zs => vs ++ zs) := kbN T.F_by_averages fun _ _ _ _ _ _ us ws h1 h2 => match us, ws, h1, h2 with | [_, _], [_], _, _ => rfl
theorem Tx.bd_by_averages_2 (T : Tx P K mg) : ∃ ds, Vals [.int 1] ds ∧ Binds K T.fd_by_averages ["numbers", "many", "step"] ds := T.F_by_averages.binds0 2 (by decide) rfl fun _ _ _ _ _ _ us ks h1 h2 => match us, ks, h1, h2 with | [_, _], [_], _, _ => ⟨_, _, _, _, _, _, rfl, rfl, rfl⟩
theorem Tx.ok_by_averages (T : Tx P K mg) : FnOk P w K mg base CX0 3 T.a_by_averages T.fd_by_averages ["numbers", "many", "step"] (spF K mg 3 φ_by_averages) :=
  fn_ok (k := 2) T.F_by_averages sc_by_averages [false, false, false] rfl (m := d_by_averages) (n := 6) rfl fun cdv A outer s H E hr => ((b_cons (s_setComp (i := 3) (sc := defScope s_by_averages) (own := [("number", 5)]) rfl sc_by_averages.nd rfl rfl (sw_true rfl rfl rfl (by decide +kernel)) (by rfl) (blkOk_by (N := N_by_averages) (sc := defScope s_by_averages) (own := [("number", 5)]) (by decide +kernel)) (by decide) (i_any (v_var (i := 0) rfl (by first | exact .inl rfl | exact .inr (.inl rfl) | exact .inr (.inr rfl)))) (fun _ _ _ _ _ => (g_name (i := 5) sc_by_averages.nd rfl (by first | exact .inl rfl | exact .inr rfl))) (fun _ _ _ _ _ => ts_nil) (fun _ _ _ _ _ => v_int))
      (b_cons (s_if (t_not (t_tru (v_var (i := 0) rfl (by first | exact .inl rfl | exact .inr (.inl rfl) | exact .inr (.inr rfl))))) (b_one (s_ret (v_var (i := 3) rfl (by first | exact .inl rfl | exact .inr (.inl rfl) | exact .inr (.inr rfl))))) b_nil)
      (b_cons (s_for PassesOwn.never rfl (i_rng1 rfl T.b_range (a_cons (v_var (i := 1) rfl (by first | exact .inl rfl | exact .inr (.inl rfl) | exact .inr (.inr rfl))) a_nil)) (g_name (i := 4) sc_by_averages.nd rfl (by first | exact .inl rfl | exact .inr rfl)) (b_one (s_augIx (j := 3) (f := (· + ·)) ip_add rfl (by first | exact .inl rfl | exact .inr (.inl rfl) | exact .inr (.inr rfl)) (v_callB T.ok_next_seat (hr.mono (by decide)) rfl T.g_next_seat T.F_next_seat.kp T.bd_next_seat passN (a_cons (v_var (i := 0) rfl (by first | exact .inl rfl | exact .inr (.inl rfl) | exact .inr (.inr rfl))) (a_cons (v_var (i := 3) rfl (by first | exact .inl rfl | exact .inr (.inl rfl) | exact .inr (.inr rfl))) (a_cons (v_var (i := 2) rfl (by first | exact .inl rfl | exact .inr (.inl rfl) | exact .inr (.inr rfl))) a_nil)))) v_int)))
      (b_one (s_ret (v_var (i := 3) rfl (by first | exact .inl rfl | exact .inr (.inl rfl) | exact .inr (.inr rfl)))))))))
theorem Tx.bd_by_remainders (T : Tx P K mg) : Binds K T.fd_by_remainders ["numbers", "many"] [] := T.F_by_remainders.bindsN fun _ _ _ _ _ _ us hl => match us, hl with | [_, _], _ => rfl
theorem Tx.ok_by_remainders (T : Tx P K mg) : FnOk P w K mg base CX0 1 T.a_by_remainders T.fd_by_remainders ["numbers", "many"] (spF K mg 2 φ_by_remainders) :=
  fn_ok (k := 0) T.F_by_remainders sc_by_remainders [false, false] rfl (m := d_by_remainders) (n := 8) rfl fun cdv A outer s H E hr => ((b_cons (s_set (i := 2) sc_by_remainders.nd rfl (by first | exact .inl rfl | exact .inr rfl) (v_sum rfl rfl T.b_sum (a_cons (v_var (i := 0) rfl (by first | exact .inl rfl | exact .inr (.inl rfl) | exact .inr (.inr rfl))) a_nil)))
      (b_cons (s_if (t_eq (u64 hr) (v_var (i := 2) rfl (by first | exact .inl rfl | exact .inr (.inl rfl) | exact .inr (.inr rfl))) v_int) (b_one (s_ret (v_comp (sc := defScope s_by_remainders) (own := [("number", 7)]) rfl sc_by_remainders.nd (by rfl) (blkOk_by (N := N_by_remainders) (sc := defScope s_by_remainders) (own := [("number", 7)]) (by decide +kernel)) (by decide) (i_any (v_var (i := 0) rfl (by first | exact .inl rfl | exact .inr (.inl rfl) | exact .inr (.inr rfl)))) (fun _ _ _ _ _ => (g_name (i := 7) sc_by_remainders.nd rfl (by first | exact .inl rfl | exact .inr rfl))) (fun _ _ _ _ _ => ts_nil) (fun _ _ _ _ _ => v_int)))) b_nil)
      (b_cons (s_setComp (i := 3) (sc := defScope s_by_remainders) (own := [("number", 7)]) rfl sc_by_remainders.nd rfl rfl (sw_true rfl rfl rfl (by decide +kernel)) (by rfl) (blkOk_by (N := N_by_remainders) (sc := defScope s_by_remainders) (own := [("number", 7)]) (by decide +kernel)) (by decide) (i_any (v_var (i := 0) rfl (by first | exact .inl rfl | exact .inr (.inl rfl) | exact .inr (.inr rfl)))) (fun _ _ _ _ _ => (g_name (i := 7) sc_by_remainders.nd rfl (by first | exact .inl rfl | exact .inr rfl))) (fun _ _ _ _ _ => ts_nil) (fun _ _ _ _ _ => (v_div (v_mul (v_var (i := 7) rfl (by first | exact .inl rfl | exact .inr (.inl rfl) | exact .inr (.inr rfl))) (v_var (i := 1) rfl (by first | exact .inl rfl | exact .inr (.inl rfl) | exact .inr (.inr rfl)))) (v_var (i := 2) rfl (by first | exact .inl rfl | exact .inr (.inl rfl) | exact .inr (.inr rfl))))))
      (b_cons (s_setComp (i := 4) (sc := defScope s_by_remainders) (own := [("number", 7)]) rfl sc_by_remainders.nd rfl rfl (sw_true rfl rfl rfl (by decide +kernel)) (by rfl) (blkOk_by (N := N_by_remainders) (sc := defScope s_by_remainders) (own := [("number", 7)]) (by decide +kernel)) (by decide) (i_any (v_var (i := 0) rfl (by first | exact .inl rfl | exact .inr (.inl rfl) | exact .inr (.inr rfl)))) (fun _ _ _ _ _ => (g_name (i := 7) sc_by_remainders.nd rfl (by first | exact .inl rfl | exact .inr rfl))) (fun _ _ _ _ _ => ts_nil) (fun _ _ _ _ _ => (v_mod (v_mul (v_var (i := 7) rfl (by first | exact .inl rfl | exact .inr (.inl rfl) | exact .inr (.inr rfl))) (v_var (i := 1) rfl (by first | exact .inl rfl | exact .inr (.inl rfl) | exact .inr (.inr rfl)))) (v_var (i := 2) rfl (by first | exact .inl rfl | exact .inr (.inl rfl) | exact .inr (.inr rfl))))))
      (b_cons (s_for PassesOwn.never rfl (i_rng1 rfl T.b_range (a_cons (v_sub (v_var (i := 1) rfl (by first | exact .inl rfl | exact .inr (.inl rfl) | exact .inr (.inr rfl))) (v_sum rfl rfl T.b_sum (a_cons (v_var (i := 3) rfl (by first | exact .inl rfl | exact .inr (.inl rfl) | exact .inr (.inr rfl))) a_nil))) a_nil)) (g_name (i := 5) sc_by_remainders.nd rfl (by first | exact .inl rfl | exact .inr rfl)) (b_cons (s_set (i := 6) sc_by_remainders.nd rfl (by first | exact .inl rfl | exact .inr rfl) (v_index (v_var (i := 4) rfl (by first | exact .inl rfl | exact .inr (.inl rfl) | exact .inr (.inr rfl))) (a_cons (v_max rfl rfl T.b_max (a_cons (v_var (i := 4) rfl (by first | exact .inl rfl | exact .inr (.inl rfl) | exact .inr (.inr rfl))) a_nil)) a_nil) (fun ho ha => pe_bm PySem.F.plainAttrs_list PySem.F.slot_list_index PySem.F.type_list_index (mt_indexD (u65 hr)) ho ha)))
      (b_cons (s_augIx (j := 3) (f := (· + ·)) ip_add rfl (by first | exact .inl rfl | exact .inr (.inl rfl) | exact .inr (.inr rfl)) (v_var (i := 6) rfl (by first | exact .inl rfl | exact .inr (.inl rfl) | exact .inr (.inr rfl))) v_int)
      (b_one (s_setIx (j := 4) rfl (by first | exact .inl rfl | exact .inr (.inl rfl) | exact .inr (.inr rfl)) (v_var (i := 6) rfl (by first | exact .inl rfl | exact .inr (.inl rfl) | exact .inr (.inr rfl))) v_neg (fun ho hi => pg_sub ho hi set_list))))))
      (b_one (s_ret (v_var (i := 3) rfl (by first | exact .inl rfl | exact .inr (.inl rfl) | exact .inr (.inr rfl)))))))))))
theorem Tx.bd__law_cell (T : Tx P K mg) : Binds K T.fd__law_cell ["_law_script", "_law_k"] [] := T.F__law_cell.bindsN fun _ _ _ _ _ _ us hl => match us, hl with | [_, _], _ => rfl
theorem Tx.ok__law_cell (T : Tx P K mg) : FnOk P w K mg base CX0 1 T.a__law_cell T.fd__law_cell ["_law_script", "_law_k"] (spF K mg 2 φ__law_cell) :=
  fn_ok (k := 0) T.F__law_cell sc__law_cell [false, false] rfl (m := d__law_cell) (n := 2) rfl fun cdv A outer s H E hr => ((b_cons (s_if (t_lt (v_var (i := 1) rfl (by first | exact .inl rfl | exact .inr (.inl rfl) | exact .inr (.inr rfl))) (v_len rfl T.b_len (a_cons (v_var (i := 0) rfl (by first | exact .inl rfl | exact .inr (.inl rfl) | exact .inr (.inr rfl))) a_nil))) (b_one (s_ret (v_ix (v_var (i := 0) rfl (by first | exact .inl rfl | exact .inr (.inl rfl) | exact .inr (.inr rfl))) (v_var (i := 1) rfl (by first | exact .inl rfl | exact .inr (.inl rfl) | exact .inr (.inr rfl))) (fun _ _ => rfl)))) b_nil)
      (b_one (s_ret v_int))))
theorem Tx.bd__law_digits (T : Tx P K mg) : Binds K T.fd__law_digits ["_law_script", "_law_first", "_law_last"] [] := T.F__law_digits.bindsN fun _ _ _ _ _ _ us hl => match us, hl with | [_, _, _], _ => rfl
theorem Tx.ok__law_digits (T : Tx P K mg) : FnOk P w K mg base CX0 2 T.a__law_digits T.fd__law_digits ["_law_script", "_law_first", "_law_last"] (spF K mg 3 φ__law_digits) :=
  fn_ok (k := 1) T.F__law_digits sc__law_digits [false, false, false] rfl (m := d__law_digits) (n := 8) rfl fun cdv A outer s H E hr => ((b_cons (s_set (i := 3) sc__law_digits.nd rfl (by first | exact .inl rfl | exact .inr rfl) (v_lst a_nil))
      (b_cons (s_for PassesOwn.never rfl (i_rng2 rfl T.b_range (a_cons (v_var (i := 1) rfl (by first | exact .inl rfl | exact .inr (.inl rfl) | exact .inr (.inr rfl))) (a_cons (v_var (i := 2) rfl (by first | exact .inl rfl | exact .inr (.inl rfl) | exact .inr (.inr rfl))) a_nil))) (g_name (i := 4) sc__law_digits.nd rfl (by first | exact .inl rfl | exact .inr rfl)) (b_cons (s_set (i := 5) sc__law_digits.nd rfl (by first | exact .inl rfl | exact .inr rfl) (v_call (md := [false, false]) T.ok__law_cell (hr.mono (by decide)) rfl T.g__law_cell T.F__law_cell.kp T.bd__law_cell passN (a_cons (v_var (i := 0) rfl (by first | exact .inl rfl | exact .inr (.inl rfl) | exact .inr (.inr rfl))) (a_cons (v_var (i := 4) rfl (by first | exact .inl rfl | exact .inr (.inl rfl) | exact .inr (.inr rfl))) a_nil))))
      (b_cons (s_if (t_lt (v_var (i := 5) rfl (by first | exact .inl rfl | exact .inr (.inl rfl) | exact .inr (.inr rfl))) v_int) (b_one (s_set (i := 5) sc__law_digits.nd rfl (by first | exact .inl rfl | exact .inr rfl) (v_sub v_int (v_mul v_int (v_var (i := 5) rfl (by first | exact .inl rfl | exact .inr (.inl rfl) | exact .inr (.inr rfl))))))) b_nil)
      (b_one (s_if (t_ge (v_var (i := 5) rfl (by first | exact .inl rfl | exact .inr (.inl rfl) | exact .inr (.inr rfl))) (v_pow v_int v_int)) (b_one (s_for PassesOwn.never rfl (i_rng1 rfl T.b_range (a_cons v_int a_nil)) (g_name (i := 6) sc__law_digits.nd rfl (by first | exact .inl rfl | exact .inr rfl)) (b_one (s_if (t_gt (v_var (i := 5) rfl (by first | exact .inl rfl | exact .inr (.inl rfl) | exact .inr (.inr rfl))) v_int) (b_cons (s_expr (v_app (i := 3) rfl (by first | exact .inl rfl | exact .inr (.inl rfl) | exact .inr (.inr rfl)) (v_mod (v_callInt rfl T.b_int (a_cons (v_var (i := 5) rfl (by first | exact .inl rfl | exact .inr (.inl rfl) | exact .inr (.inr rfl))) a_nil)) v_int) rfl (by decide) (by decide) (fun ho ha => pe_bm PySem.F.plainAttrs_list PySem.F.slot_list_append PySem.F.type_list_append mt_append ho ha)))
      (b_one (s_set (i := 5) sc__law_digits.nd rfl (by first | exact .inl rfl | exact .inr rfl) (v_div (v_var (i := 5) rfl (by first | exact .inl rfl | exact .inr (.inl rfl) | exact .inr (.inr rfl))) v_int)))) b_nil)))) (b_cons (s_set (i := 7) sc__law_digits.nd rfl (by first | exact .inl rfl | exact .inr rfl) (v_mod (v_callInt rfl T.b_int (a_cons (v_addI (v_addI (v_mul (v_var (i := 5) rfl (by first | exact .inl rfl | exact .inr (.inl rfl) | exact .inr (.inr rfl))) v_int) (v_mul (v_var (i := 4) rfl (by first | exact .inl rfl | exact .inr (.inl rfl) | exact .inr (.inr rfl))) v_int)) v_int) a_nil)) v_int))
      (b_one (s_for PassesOwn.never rfl (i_rng1 rfl T.b_range (a_cons v_int a_nil)) (g_name (i := 6) sc__law_digits.nd rfl (by first | exact .inl rfl | exact .inr rfl)) (b_cons (s_set (i := 7) sc__law_digits.nd rfl (by first | exact .inl rfl | exact .inr rfl) (v_mod (v_callInt rfl T.b_int (a_cons (v_addI (v_addI (v_mul (v_var (i := 7) rfl (by first | exact .inl rfl | exact .inr (.inl rfl) | exact .inr (.inr rfl))) v_int) (v_mul v_int (v_var (i := 6) rfl (by first | exact .inl rfl | exact .inr (.inl rfl) | exact .inr (.inr rfl))))) v_int) a_nil)) v_int))
      (b_one (s_expr (v_app (i := 3) rfl (by first | exact .inl rfl | exact .inr (.inl rfl) | exact .inr (.inr rfl)) (v_mod (v_callInt rfl T.b_int (a_cons (v_div (v_var (i := 7) rfl (by first | exact .inl rfl | exact .inr (.inl rfl) | exact .inr (.inr rfl))) v_int) a_nil)) v_int) rfl (by decide) (by decide) (fun ho ha => pe_bm PySem.F.plainAttrs_list PySem.F.slot_list_append PySem.F.type_list_append mt_append ho ha)))))))))))))
      (b_one (s_ret (v_var (i := 3) rfl (by first | exact .inl rfl | exact .inr (.inl rfl) | exact .inr (.inr rfl))))))))
theorem Tx.bd__law_draw (T : Tx P K mg) : Binds K T.fd__law_draw ["_law_box", "_law_many"] [] := T.F__law_draw.bindsN fun _ _ _ _ _ _ us hl => match us, hl with | [_, _], _ => rfl
theorem Tx.ok__law_draw (T : Tx P K mg) : FnOk P w K mg base CX0 1 T.a__law_draw T.fd__law_draw ["_law_box", "_law_many"] (spF K mg 2 φ__law_draw) :=
  fn_ok (k := 0) T.F__law_draw sc__law_draw [true, false] rfl (m := d__law_draw) (n := 3) rfl fun cdv A outer s H E hr => ((b_cons (s_set (i := 2) sc__law_draw.nd rfl (by first | exact .inl rfl | exact .inr rfl) (v_ix (v_var (i := 0) rfl (by first | exact .inl rfl | exact .inr (.inl rfl) | exact .inr (.inr rfl))) v_int (fun _ _ => rfl)))
      (b_cons (s_setIx (j := 0) rfl (by first | exact .inl rfl | exact .inr (.inl rfl) | exact .inr (.inr rfl)) v_int (v_addI (v_var (i := 2) rfl (by first | exact .inl rfl | exact .inr (.inl rfl) | exact .inr (.inr rfl))) v_int) (fun ho hi => pg_sub ho hi set_list))
      (b_cons (s_if (t_lt (v_var (i := 2) rfl (by first | exact .inl rfl | exact .inr (.inl rfl) | exact .inr (.inr rfl))) (v_len rfl T.b_len (a_cons (v_ix (v_var (i := 0) rfl (by first | exact .inl rfl | exact .inr (.inl rfl) | exact .inr (.inr rfl))) v_int (fun _ _ => rfl)) a_nil))) (b_one (s_ret (v_mod (v_callInt rfl T.b_int (a_cons (v_ix (v_ix (v_var (i := 0) rfl (by first | exact .inl rfl | exact .inr (.inl rfl) | exact .inr (.inr rfl))) v_int (fun _ _ => rfl)) (v_var (i := 2) rfl (by first | exact .inl rfl | exact .inr (.inl rfl) | exact .inr (.inr rfl))) (fun _ _ => rfl)) a_nil)) (v_var (i := 1) rfl (by first | exact .inl rfl | exact .inr (.inl rfl) | exact .inr (.inr rfl)))))) b_nil)
      (b_one (s_ret v_int))))))
theorem Tx.bd__law_prime (T : Tx P K mg) : Binds K T.fd__law_prime ["_law_box"] [] := T.F__law_prime.bindsN fun _ _ _ _ _ _ us hl => match us, hl with | [_], _ => rfl
theorem Tx.ok__law_prime (T : Tx P K mg) : FnOk P w K mg base CX0 2 T.a__law_prime T.fd__law_prime ["_law_box"] (spF K mg 1 φ__law_prime) :=
  fn_ok (k := 1) T.F__law_prime sc__law_prime [true] rfl (m := d__law_prime) (n := 1) rfl fun cdv A outer s H E hr => ((b_one (s_ret (v_ix (v_lst (a_cons v_int (a_cons v_int (a_cons v_int (a_cons v_int (a_cons v_int (a_cons v_int (a_cons v_int (a_cons v_int (a_cons v_int (a_cons v_int (a_cons v_int (a_cons v_int a_nil))))))))))))) (v_call (md := [true, false]) T.ok__law_draw (hr.mono (by decide)) rfl T.g__law_draw T.F__law_draw.kp T.bd__law_draw passN (a_cons (v_var (i := 0) rfl (by first | exact .inl rfl | exact .inr (.inl rfl) | exact .inr (.inr rfl))) (a_cons v_int a_nil))) (fun _ _ => rfl)))))
theorem Tx.bd__law_numbers (T : Tx P K mg) : Binds K T.fd__law_numbers ["_law_box", "_law_many"] [] := T.F__law_numbers.bindsN fun _ _ _ _ _ _ us hl => match us, hl with | [_, _], _ => rfl
theorem Tx.ok__law_numbers (T : Tx P K mg) : FnOk P w K mg base CX0 2 T.a__law_numbers T.fd__law_numbers ["_law_box", "_law_many"] (spF K mg 2 φ__law_numbers) :=
  fn_ok (k := 1) T.F__law_numbers sc__law_numbers [true, false] rfl (m := d__law_numbers) (n := 4) rfl fun cdv A outer s H E hr => ((b_cons (s_set (i := 2) sc__law_numbers.nd rfl (by first | exact .inl rfl | exact .inr rfl) (v_lst a_nil))
      (b_cons (s_for PassesOwn.never rfl (i_rng1 rfl T.b_range (a_cons (v_var (i := 1) rfl (by first | exact .inl rfl | exact .inr (.inl rfl) | exact .inr (.inr rfl))) a_nil)) (g_name (i := 3) sc__law_numbers.nd rfl (by first | exact .inl rfl | exact .inr rfl)) (b_one (s_expr (v_app (i := 2) rfl (by first | exact .inl rfl | exact .inr (.inl rfl) | exact .inr (.inr rfl)) (v_sub (v_addI (v_mul (v_call (md := [true, false]) T.ok__law_draw (hr.mono (by decide)) rfl T.g__law_draw T.F__law_draw.kp T.bd__law_draw passN (a_cons (v_var (i := 0) rfl (by first | exact .inl rfl | exact .inr (.inl rfl) | exact .inr (.inr rfl))) (a_cons v_int a_nil))) v_int) (v_call (md := [true, false]) T.ok__law_draw (hr.mono (by decide)) rfl T.g__law_draw T.F__law_draw.kp T.bd__law_draw passN (a_cons (v_var (i := 0) rfl (by first | exact .inl rfl | exact .inr (.inl rfl) | exact .inr (.inr rfl))) (a_cons v_int a_nil)))) v_int) rfl (by decide) (by decide) (fun ho ha => pe_bm PySem.F.plainAttrs_list PySem.F.slot_list_append PySem.F.type_list_append mt_append ho ha)))))
      (b_one (s_ret (v_var (i := 2) rfl (by first | exact .inl rfl | exact .inr (.inl rfl) | exact .inr (.inr rfl))))))))
theorem Tx.bd__law_order (T : Tx P K mg) : Binds K T.fd__law_order ["_law_box", "_law_many"] [] := T.F__law_order.bindsN fun _ _ _ _ _ _ us hl => match us, hl with | [_, _], _ => rfl
theorem Tx.ok__law_order (T : Tx P K mg) : FnOk P w K mg base CX0 2 T.a__law_order T.fd__law_order ["_law_box", "_law_many"] (spF K mg 2 φ__law_order) :=
  fn_ok (k := 1) T.F__law_order sc__law_order [true, false] rfl (m := d__law_order) (n := 5) rfl fun cdv A outer s H E hr => ((b_cons (s_setComp (i := 2) (sc := defScope s__law_order) (own := [("_law_k", 4)]) rfl sc__law_order.nd rfl rfl (sw_true rfl rfl rfl (by decide +kernel)) (by rfl) (blkOk_by (N := N__law_order) (sc := defScope s__law_order) (own := [("_law_k", 4)]) (by decide +kernel)) (by decide) (i_rng1 rfl T.b_range (a_cons (v_var (i := 1) rfl (by first | exact .inl rfl | exact .inr (.inl rfl) | exact .inr (.inr rfl))) a_nil)) (fun _ _ _ _ _ => (g_name (i := 4) sc__law_order.nd rfl (by first | exact .inl rfl | exact .inr rfl))) (fun _ _ _ _ _ => ts_nil) (fun _ _ _ _ _ => (v_var (i := 4) rfl (by first | exact .inl rfl | exact .inr (.inl rfl) | exact .inr (.inr rfl)))))
      (b_cons (s_set (i := 3) sc__law_order.nd rfl (by first | exact .inl rfl | exact .inr rfl) (v_lst a_nil))
      (b_cons (s_for PassesOwn.never rfl (i_rng1 rfl T.b_range (a_cons (v_var (i := 1) rfl (by first | exact .inl rfl | exact .inr (.inl rfl) | exact .inr (.inr rfl))) a_nil)) (g_name (i := 4) sc__law_order.nd rfl (by first | exact .inl rfl | exact .inr rfl)) (b_one (s_expr (v_app (i := 3) rfl (by first | exact .inl rfl | exact .inr (.inl rfl) | exact .inr (.inr rfl)) (v_popAt (i := 2) rfl (by first | exact .inl rfl | exact .inr (.inl rfl) | exact .inr (.inr rfl)) (v_mod (v_callInt rfl T.b_int (a_cons (v_call (md := [true, false]) T.ok__law_draw (hr.mono (by decide)) rfl T.g__law_draw T.F__law_draw.kp T.bd__law_draw passN (a_cons (v_var (i := 0) rfl (by first | exact .inl rfl | exact .inr (.inl rfl) | exact .inr (.inr rfl))) (a_cons v_int a_nil))) a_nil)) (v_len rfl T.b_len (a_cons (v_var (i := 2) rfl (by first | exact .inl rfl | exact .inr (.inl rfl) | exact .inr (.inr rfl))) a_nil))) rfl (by decide) (by decide) (fun ho ha => pe_bm PySem.F.plainAttrs_list PySem.F.slot_list_pop PySem.F.type_list_pop mt_popAt ho ha)) rfl (by decide) (by decide) (fun ho ha => pe_bm PySem.F.plainAttrs_list PySem.F.slot_list_append PySem.F.type_list_append mt_append ho ha)))))
      (b_one (s_ret (v_var (i := 3) rfl (by first | exact .inl rfl | exact .inr (.inl rfl) | exact .inr (.inr rfl)))))))))
theorem Tx.bd__law_is_int (T : Tx P K mg) : Binds K T.fd__law_is_int ["_law_x"] [] := T.F__law_is_int.bindsN fun _ _ _ _ _ _ us hl => match us, hl with | [_], _ => rfl
theorem Tx.ok__law_is_int (T : Tx P K mg) : FnOk P w K mg base CX0 1 T.a__law_is_int T.fd__law_is_int ["_law_x"] (spF K mg 1 φ__law_is_int) :=
  fn_ok (k := 0) T.F__law_is_int sc__law_is_int [false] rfl (m := d__law_is_int) (n := 1) rfl fun cdv A outer s H E hr => ((b_one (s_ret (v_and (v_isi rfl T.b_isinstance (a_cons (v_var (i := 0) rfl (by first | exact .inl rfl | exact .inr (.inl rfl) | exact .inr (.inr rfl))) (a_cons (v_ty rfl T.b_int (by decide +kernel)) a_nil))) (v_one (v_not (v_isi rfl T.b_isinstance (a_cons (v_var (i := 0) rfl (by first | exact .inl rfl | exact .inr (.inl rfl) | exact .inr (.inr rfl))) (a_cons (v_ty rfl T.b_bool (by decide +kernel)) a_nil)))))))))
theorem Tx.bd__law_are_values (T : Tx P K mg) : Binds K T.fd__law_are_values ["_law_xs", "_law_prime_here"] [] := T.F__law_are_values.bindsN fun _ _ _ _ _ _ us hl => match us, hl with | [_, _], _ => rfl
theorem Tx.ok__law_are_values (T : Tx P K mg) : FnOk P w K mg base CX0 2 T.a__law_are_values T.fd__law_are_values ["_law_xs", "_law_prime_here"] (spF K mg 2 φ__law_are_values) :=
  fn_ok (k := 1) T.F__law_are_values sc__law_are_values [false, false] rfl (m := d__law_are_values) (n := 3) rfl fun cdv A outer s H E hr => ((b_cons (s_if (t_not (t_tru (v_isi rfl T.b_isinstance (a_cons (v_var (i := 0) rfl (by first | exact .inl rfl | exact .inr (.inl rfl) | exact .inr (.inr rfl))) (a_cons (v_ty rfl T.b_list (by decide +kernel)) a_nil))))) (b_one (s_ret v_bl)) b_nil)
      (b_cons (s_for PassesOwn.never rfl (i_any (v_var (i := 0) rfl (by first | exact .inl rfl | exact .inr (.inl rfl) | exact .inr (.inr rfl)))) (g_name (i := 2) sc__law_are_values.nd rfl (by first | exact .inl rfl | exact .inr rfl)) (b_one (s_if (VW.t (w_or (t_not (t_tru (v_callB T.ok__law_is_int (hr.mono (by decide)) rfl T.g__law_is_int T.F__law_is_int.kp T.bd__law_is_int passN (a_cons (v_var (i := 2) rfl (by first | exact .inl rfl | exact .inr (.inl rfl) | exact .inr (.inr rfl))) a_nil)))) (w_or1 (t_not (t_leLt v_int (v_var (i := 2) rfl (by first | exact .inl rfl | exact .inr (.inl rfl) | exact .inr (.inr rfl))) (v_var (i := 1) rfl (by first | exact .inl rfl | exact .inr (.inl rfl) | exact .inr (.inr rfl)))))))) (b_one (s_ret v_bl)) b_nil)))
      (b_one (s_ret v_bl)))))
theorem Tx.bd__law_next (T : Tx P K mg) : Binds K T.fd__law_next ["_law_numbers_here", "_law_seats", "_law_step"] [] := T.F__law_next.bindsN fun _ _ _ _ _ _ us hl => match us, hl with | [_, _, _], _ => rfl
theorem Tx.ok__law_next (T : Tx P K mg) : FnOk P w K mg base CX0 1 T.a__law_next T.fd__law_next ["_law_numbers_here", "_law_seats", "_law_step"] (spF K mg 3 φ__law_next) :=
  fn_ok (k := 0) T.F__law_next sc__law_next [false, false, false] rfl (m := d__law_next) (n := 5) rfl fun cdv A outer s H E hr => ((b_cons (s_set (i := 3) sc__law_next.nd rfl (by first | exact .inl rfl | exact .inr rfl) v_int)
      (b_cons (s_for PassesOwn.never rfl (i_rng1 rfl T.b_range (a_cons (v_len rfl T.b_len (a_cons (v_var (i := 0) rfl (by first | exact .inl rfl | exact .inr (.inl rfl) | exact .inr (.inr rfl))) a_nil)) a_nil)) (g_name (i := 4) sc__law_next.nd rfl (by first | exact .inl rfl | exact .inr rfl)) (b_one (s_if (t_gt (v_mul (v_ix (v_var (i := 0) rfl (by first | exact .inl rfl | exact .inr (.inl rfl) | exact .inr (.inr rfl))) (v_var (i := 4) rfl (by first | exact .inl rfl | exact .inr (.inl rfl) | exact .inr (.inr rfl))) (fun _ _ => rfl)) (v_addI (v_mul (v_var (i := 2) rfl (by first | exact .inl rfl | exact .inr (.inl rfl) | exact .inr (.inr rfl))) (v_ix (v_var (i := 1) rfl (by first | exact .inl rfl | exact .inr (.inl rfl) | exact .inr (.inr rfl))) (v_var (i := 3) rfl (by first | exact .inl rfl | exact .inr (.inl rfl) | exact .inr (.inr rfl))) (fun _ _ => rfl))) v_int)) (v_mul (v_ix (v_var (i := 0) rfl (by first | exact .inl rfl | exact .inr (.inl rfl) | exact .inr (.inr rfl))) (v_var (i := 3) rfl (by first | exact .inl rfl | exact .inr (.inl rfl) | exact .inr (.inr rfl))) (fun _ _ => rfl)) (v_addI (v_mul (v_var (i := 2) rfl (by first | exact .inl rfl | exact .inr (.inl rfl) | exact .inr (.inr rfl))) (v_ix (v_var (i := 1) rfl (by first | exact .inl rfl | exact .inr (.inl rfl) | exact .inr (.inr rfl))) (v_var (i := 4) rfl (by first | exact .inl rfl | exact .inr (.inl rfl) | exact .inr (.inr rfl))) (fun _ _ => rfl))) v_int))) (b_one (s_set (i := 3) sc__law_next.nd rfl (by first | exact .inl rfl | exact .inr rfl) (v_var (i := 4) rfl (by first | exact .inl rfl | exact .inr (.inl rfl) | exact .inr (.inr rfl))))) b_nil)))
      (b_one (s_ret (v_var (i := 3) rfl (by first | exact .inl rfl | exact .inr (.inl rfl) | exact .inr (.inr rfl))))))))
theorem Tx.bd__law_rests (T : Tx P K mg) : Binds K T.fd__law_rests ["_law_numbers_here", "_law_many", "_law_seats"] [] := T.F__law_rests.bindsN fun _ _ _ _ _ _ us hl => match us, hl with | [_, _, _], _ => rfl
theorem Tx.ok__law_rests (T : Tx P K mg) : FnOk P w K mg base CX0 1 T.a__law_rests T.fd__law_rests ["_law_numbers_here", "_law_many", "_law_seats"] (spF K mg 3 φ__law_rests) :=
  fn_ok (k := 0) T.F__law_rests sc__law_rests [false, false, false] rfl (m := d__law_rests) (n := 10) rfl fun cdv A outer s H E hr => ((b_cons (s_set (i := 3) sc__law_rests.nd rfl (by first | exact .inl rfl | exact .inr rfl) (v_sum rfl rfl T.b_sum (a_cons (v_var (i := 0) rfl (by first | exact .inl rfl | exact .inr (.inl rfl) | exact .inr (.inr rfl))) a_nil)))
      (b_cons (s_set (i := 4) sc__law_rests.nd rfl (by first | exact .inl rfl | exact .inr rfl) (v_lst a_nil))
      (b_cons (s_for PassesOwn.never rfl (i_rng1 rfl T.b_range (a_cons (v_len rfl T.b_len (a_cons (v_var (i := 0) rfl (by first | exact .inl rfl | exact .inr (.inl rfl) | exact .inr (.inr rfl))) a_nil)) a_nil)) (g_name (i := 5) sc__law_rests.nd rfl (by first | exact .inl rfl | exact .inr rfl)) (b_cons (s_set (i := 6) sc__law_rests.nd rfl (by first | exact .inl rfl | exact .inr rfl) (v_sub (v_ix (v_var (i := 2) rfl (by first | exact .inl rfl | exact .inr (.inl rfl) | exact .inr (.inr rfl))) (v_var (i := 5) rfl (by first | exact .inl rfl | exact .inr (.inl rfl) | exact .inr (.inr rfl))) (fun _ _ => rfl)) (v_div (v_mul (v_ix (v_var (i := 0) rfl (by first | exact .inl rfl | exact .inr (.inl rfl) | exact .inr (.inr rfl))) (v_var (i := 5) rfl (by first | exact .inl rfl | exact .inr (.inl rfl) | exact .inr (.inr rfl))) (fun _ _ => rfl)) (v_var (i := 1) rfl (by first | exact .inl rfl | exact .inr (.inl rfl) | exact .inr (.inr rfl)))) (v_var (i := 3) rfl (by first | exact .inl rfl | exact .inr (.inl rfl) | exact .inr (.inr rfl))))))
      (b_cons (s_if (VW.t (w_and (t_ne (u64 hr) (v_var (i := 6) rfl (by first | exact .inl rfl | exact .inr (.inl rfl) | exact .inr (.inr rfl))) v_int) (w_and1 (t_ne (u64 hr) (v_var (i := 6) rfl (by first | exact .inl rfl | exact .inr (.inl rfl) | exact .inr (.inr rfl))) v_int)))) (b_one (s_ret v_bl)) b_nil)
      (b_one (s_expr (v_app (i := 4) rfl (by first | exact .inl rfl | exact .inr (.inl rfl) | exact .inr (.inr rfl)) (v_var (i := 6) rfl (by first | exact .inl rfl | exact .inr (.inl rfl) | exact .inr (.inr rfl))) rfl (by decide) (by decide) (fun ho ha => pe_bm PySem.F.plainAttrs_list PySem.F.slot_list_append PySem.F.type_list_append mt_append ho ha)))))))
      (b_cons (s_for PassesOwn.never rfl (i_rng1 rfl T.b_range (a_cons (v_len rfl T.b_len (a_cons (v_var (i := 0) rfl (by first | exact .inl rfl | exact .inr (.inl rfl) | exact .inr (.inr rfl))) a_nil)) a_nil)) (g_name (i := 5) sc__law_rests.nd rfl (by first | exact .inl rfl | exact .inr rfl)) (b_one (s_for PassesOwn.never rfl (i_rng1 rfl T.b_range (a_cons (v_len rfl T.b_len (a_cons (v_var (i := 0) rfl (by first | exact .inl rfl | exact .inr (.inl rfl) | exact .inr (.inr rfl))) a_nil)) a_nil)) (g_name (i := 7) sc__law_rests.nd rfl (by first | exact .inl rfl | exact .inr rfl)) (b_cons (s_set (i := 8) sc__law_rests.nd rfl (by first | exact .inl rfl | exact .inr rfl) (v_mod (v_callInt rfl T.b_int (a_cons (v_mul (v_ix (v_var (i := 0) rfl (by first | exact .inl rfl | exact .inr (.inl rfl) | exact .inr (.inr rfl))) (v_var (i := 5) rfl (by first | exact .inl rfl | exact .inr (.inl rfl) | exact .inr (.inr rfl))) (fun _ _ => rfl)) (v_var (i := 1) rfl (by first | exact .inl rfl | exact .inr (.inl rfl) | exact .inr (.inr rfl)))) a_nil)) (v_var (i := 3) rfl (by first | exact .inl rfl | exact .inr (.inl rfl) | exact .inr (.inr rfl)))))
      (b_cons (s_set (i := 9) sc__law_rests.nd rfl (by first | exact .inl rfl | exact .inr rfl) (v_mod (v_callInt rfl T.b_int (a_cons (v_mul (v_ix (v_var (i := 0) rfl (by first | exact .inl rfl | exact .inr (.inl rfl) | exact .inr (.inr rfl))) (v_var (i := 7) rfl (by first | exact .inl rfl | exact .inr (.inl rfl) | exact .inr (.inr rfl))) (fun _ _ => rfl)) (v_var (i := 1) rfl (by first | exact .inl rfl | exact .inr (.inl rfl) | exact .inr (.inr rfl)))) a_nil)) (v_var (i := 3) rfl (by first | exact .inl rfl | exact .inr (.inl rfl) | exact .inr (.inr rfl)))))
      (b_one (s_if (VW.t (w_and (t_eq (u64 hr) (v_ix (v_var (i := 4) rfl (by first | exact .inl rfl | exact .inr (.inl rfl) | exact .inr (.inr rfl))) (v_var (i := 5) rfl (by first | exact .inl rfl | exact .inr (.inl rfl) | exact .inr (.inr rfl))) (fun _ _ => rfl)) v_int) (w_and (t_eq (u64 hr) (v_ix (v_var (i := 4) rfl (by first | exact .inl rfl | exact .inr (.inl rfl) | exact .inr (.inr rfl))) (v_var (i := 7) rfl (by first | exact .inl rfl | exact .inr (.inl rfl) | exact .inr (.inr rfl))) (fun _ _ => rfl)) v_int) (w_and1 (VW.t (w_or (t_gt (v_var (i := 8) rfl (by first | exact .inl rfl | exact .inr (.inl rfl) | exact .inr (.inr rfl))) (v_var (i := 9) rfl (by first | exact .inl rfl | exact .inr (.inl rfl) | exact .inr (.inr rfl)))) (w_or1 (VW.t (w_and (t_eq (u64 hr) (v_var (i := 8) rfl (by first | exact .inl rfl | exact .inr (.inl rfl) | exact .inr (.inr rfl))) (v_var (i := 9) rfl (by first | exact .inl rfl | exact .inr (.inl rfl) | exact .inr (.inr rfl)))) (w_and1 (t_lt (v_var (i := 5) rfl (by first | exact .inl rfl | exact .inr (.inl rfl) | exact .inr (.inr rfl))) (v_var (i := 7) rfl (by first | exact .inl rfl | exact .inr (.inl rfl) | exact .inr (.inr rfl)))))))))))))) (b_one (s_ret v_bl)) b_nil)))))))
      (b_one (s_ret v_bl)))))))
theorem Tx.bd_law (T : Tx P K mg) : Binds K T.fd_law ["_law_script"] [] := T.F_law.bindsN fun _ _ _ _ _ _ us hl => match us, hl with | [_], _ => rfl
theorem Tx.ok_law (T : Tx P K mg) : FnOk P w K mg base CX0 4 T.a_law T.fd_law ["_law_script"] (spF K mg 1 φ_law) :=
  fn_ok (k := 3) T.F_law sc_law [false] rfl (m := d_law) (n := 12) rfl fun cdv A outer s H E hr => ((b_cons (s_set (i := 1) sc_law.nd rfl (by first | exact .inl rfl | exact .inr rfl) (v_lst (a_cons (v_call (md := [false, false, false]) T.ok__law_digits (hr.mono (by decide)) rfl T.g__law_digits T.F__law_digits.kp T.bd__law_digits passN (a_cons (v_var (i := 0) rfl (by first | exact .inl rfl | exact .inr (.inl rfl) | exact .inr (.inr rfl))) (a_cons v_int (a_cons v_int a_nil)))) (a_cons v_int a_nil))))
      (b_cons (s_setComp (i := 2) (sc := defScope s_law) (own := [("_law_k", 9)]) rfl sc_law.nd rfl rfl (sw_true rfl rfl rfl (by decide +kernel)) (by rfl) (blkOk_by (N := N_law) (sc := defScope s_law) (own := [("_law_k", 9)]) (by decide +kernel)) (by decide) (i_rng1 rfl T.b_range (a_cons (v_call (md := [true, false]) T.ok__law_draw (hr.mono (by decide)) rfl T.g__law_draw T.F__law_draw.kp T.bd__law_draw passN (a_cons (v_var (i := 1) rfl (by first | exact .inl rfl | exact .inr (.inl rfl) | exact .inr (.inr rfl))) (a_cons v_int a_nil))) a_nil)) (fun _ _ _ _ _ => (g_name (i := 9) sc_law.nd rfl (by first | exact .inl rfl | exact .inr rfl))) (fun _ _ _ _ _ => ts_nil) (fun _ _ _ _ _ => (v_call (md := [true, false]) T.ok__law_draw (hr.mono (by decide)) rfl T.g__law_draw T.F__law_draw.kp T.bd__law_draw passN (a_cons (v_var (i := 1) rfl (by first | exact .inl rfl | exact .inr (.inl rfl) | exact .inr (.inr rfl))) (a_cons v_int a_nil)))))
      (b_cons (s_set (i := 3) sc_law.nd rfl (by first | exact .inl rfl | exact .inr rfl) (v_call (md := [true, false]) T.ok__law_draw (hr.mono (by decide)) rfl T.g__law_draw T.F__law_draw.kp T.bd__law_draw passN (a_cons (v_var (i := 1) rfl (by first | exact .inl rfl | exact .inr (.inl rfl) | exact .inr (.inr rfl))) (a_cons v_int a_nil))))
      (b_cons (s_set (i := 4) sc_law.nd rfl (by first | exact .inl rfl | exact .inr rfl) (v_addI v_int (v_call (md := [true, false]) T.ok__law_draw (hr.mono (by decide)) rfl T.g__law_draw T.F__law_draw.kp T.bd__law_draw passN (a_cons (v_var (i := 1) rfl (by first | exact .inl rfl | exact .inr (.inl rfl) | exact .inr (.inr rfl))) (a_cons v_int a_nil)))))
      (b_cons (s_setComp (i := 5) (sc := defScope s_law) (own := [("_law_number", 10)]) rfl sc_law.nd rfl rfl (sw_true rfl rfl rfl (by decide +kernel)) (by rfl) (blkOk_by (N := N_law) (sc := defScope s_law) (own := [("_law_number", 10)]) (by decide +kernel)) (by decide) (i_any (v_var (i := 2) rfl (by first | exact .inl rfl | exact .inr (.inl rfl) | exact .inr (.inr rfl)))) (fun _ _ _ _ _ => (g_name (i := 10) sc_law.nd rfl (by first | exact .inl rfl | exact .inr rfl))) (fun _ _ _ _ _ => ts_nil) (fun _ _ _ _ _ => (v_var (i := 10) rfl (by first | exact .inl rfl | exact .inr (.inl rfl) | exact .inr (.inr rfl)))))
      (b_cons (s_setComp (i := 6) (sc := defScope s_law) (own := [("_law_number", 10)]) rfl sc_law.nd rfl rfl (sw_true rfl rfl rfl (by decide +kernel)) (by rfl) (blkOk_by (N := N_law) (sc := defScope s_law) (own := [("_law_number", 10)]) (by decide +kernel)) (by decide) (i_any (v_var (i := 2) rfl (by first | exact .inl rfl | exact .inr (.inl rfl) | exact .inr (.inr rfl)))) (fun _ _ _ _ _ => (g_name (i := 10) sc_law.nd rfl (by first | exact .inl rfl | exact .inr rfl))) (fun _ _ _ _ _ => ts_nil) (fun _ _ _ _ _ => v_int))
      (b_cons (s_if (t_gt (v_len rfl T.b_len (a_cons (v_var (i := 2) rfl (by first | exact .inl rfl | exact .inr (.inl rfl) | exact .inr (.inr rfl))) a_nil)) v_int) (b_one (s_for PassesOwn.never rfl (i_rng1 rfl T.b_range (a_cons (v_var (i := 3) rfl (by first | exact .inl rfl | exact .inr (.inl rfl) | exact .inr (.inr rfl))) a_nil)) (g_name (i := 8) sc_law.nd rfl (by first | exact .inl rfl | exact .inr rfl)) (b_cons (s_if (t_ne (u64 hr) (v_callB T.ok_next_seat (hr.mono (by decide)) rfl T.g_next_seat T.F_next_seat.kp T.bd_next_seat passN (a_cons (v_var (i := 2) rfl (by first | exact .inl rfl | exact .inr (.inl rfl) | exact .inr (.inr rfl))) (a_cons (v_var (i := 6) rfl (by first | exact .inl rfl | exact .inr (.inl rfl) | exact .inr (.inr rfl))) (a_cons (v_var (i := 4) rfl (by first | exact .inl rfl | exact .inr (.inl rfl) | exact .inr (.inr rfl))) a_nil)))) (v_callB T.ok__law_next (hr.mono (by decide)) rfl T.g__law_next T.F__law_next.kp T.bd__law_next passN (a_cons (v_var (i := 2) rfl (by first | exact .inl rfl | exact .inr (.inl rfl) | exact .inr (.inr rfl))) (a_cons (v_var (i := 6) rfl (by first | exact .inl rfl | exact .inr (.inl rfl) | exact .inr (.inr rfl))) (a_cons (v_var (i := 4) rfl (by first | exact .inl rfl | exact .inr (.inl rfl) | exact .inr (.inr rfl))) a_nil))))) (b_one (s_ret v_bl)) b_nil)
      (b_cons (s_set (i := 11) sc_law.nd rfl (by first | exact .inl rfl | exact .inr rfl) (v_callB T.ok__law_next (hr.mono (by decide)) rfl T.g__law_next T.F__law_next.kp T.bd__law_next passN (a_cons (v_var (i := 2) rfl (by first | exact .inl rfl | exact .inr (.inl rfl) | exact .inr (.inr rfl))) (a_cons (v_var (i := 6) rfl (by first | exact .inl rfl | exact .inr (.inl rfl) | exact .inr (.inr rfl))) (a_cons (v_var (i := 4) rfl (by first | exact .inl rfl | exact .inr (.inl rfl) | exact .inr (.inr rfl))) a_nil)))))
      (b_one (s_setIx (j := 6) rfl (by first | exact .inl rfl | exact .inr (.inl rfl) | exact .inr (.inr rfl)) (v_var (i := 11) rfl (by first | exact .inl rfl | exact .inr (.inl rfl) | exact .inr (.inr rfl))) (v_addI (v_ix (v_var (i := 6) rfl (by first | exact .inl rfl | exact .inr (.inl rfl) | exact .inr (.inr rfl))) (v_var (i := 11) rfl (by first | exact .inl rfl | exact .inr (.inl rfl) | exact .inr (.inr rfl))) (fun _ _ => rfl)) v_int) (fun ho hi => pg_sub ho hi set_list))))))) b_nil)
      (b_cons (s_if (VW.t (w_or (t_ne (u64 hr) (v_callK (md := [false, false, false]) (ks := ["step"]) T.ok_by_averages (hr.mono (by decide)) rfl T.g_by_averages T.F_by_averages.kp T.kb_by_averages_2 passN (ak_cons (v_var (i := 2) rfl (by first | exact .inl rfl | exact .inr (.inl rfl) | exact .inr (.inr rfl))) (ak_cons (v_var (i := 3) rfl (by first | exact .inl rfl | exact .inr (.inl rfl) | exact .inr (.inr rfl))) (ak_nil (k_cons (v_var (i := 4) rfl (by first | exact .inl rfl | exact .inr (.inl rfl) | exact .inr (.inr rfl))) k_nil))))) (v_var (i := 6) rfl (by first | exact .inl rfl | exact .inr (.inl rfl) | exact .inr (.inr rfl)))) (w_or1 (t_ne (u64 hr) (v_var (i := 2) rfl (by first | exact .inl rfl | exact .inr (.inl rfl) | exact .inr (.inr rfl))) (v_var (i := 5) rfl (by first | exact .inl rfl | exact .inr (.inl rfl) | exact .inr (.inr rfl))))))) (b_one (s_ret v_bl)) b_nil)
      (b_cons (s_if (VW.t (w_and (t_eq (u64 hr) (v_var (i := 4) rfl (by first | exact .inl rfl | exact .inr (.inl rfl) | exact .inr (.inr rfl))) v_int) (w_and1 (t_ne (u64 hr) (v_callD (md := [false, false, false]) T.ok_by_averages (hr.mono (by decide)) rfl T.g_by_averages T.F_by_averages.kp T.bd_by_averages_2 passN (ad_cons (v_var (i := 2) rfl (by first | exact .inl rfl | exact .inr (.inl rfl) | exact .inr (.inr rfl))) (ad_cons (v_var (i := 3) rfl (by first | exact .inl rfl | exact .inr (.inl rfl) | exact .inr (.inr rfl))) (ad_nil (dv_cons dv_nil))))) (v_var (i := 6) rfl (by first | exact .inl rfl | exact .inr (.inl rfl) | exact .inr (.inr rfl))))))) (b_one (s_ret v_bl)) b_nil)
      (b_cons (s_set (i := 7) sc_law.nd rfl (by first | exact .inl rfl | exact .inr rfl) (v_call (md := [false, false]) T.ok_by_remainders (hr.mono (by decide)) rfl T.g_by_remainders T.F_by_remainders.kp T.bd_by_remainders passN (a_cons (v_var (i := 2) rfl (by first | exact .inl rfl | exact .inr (.inl rfl) | exact .inr (.inr rfl))) (a_cons (v_var (i := 3) rfl (by first | exact .inl rfl | exact .inr (.inl rfl) | exact .inr (.inr rfl))) a_nil))))
      (b_cons (s_if (VW.t (w_or (t_not (t_tru (v_isi rfl T.b_isinstance (a_cons (v_var (i := 7) rfl (by first | exact .inl rfl | exact .inr (.inl rfl) | exact .inr (.inr rfl))) (a_cons (v_ty rfl T.b_list (by decide +kernel)) a_nil))))) (w_or (t_ne (u64 hr) (v_len rfl T.b_len (a_cons (v_var (i := 7) rfl (by first | exact .inl rfl | exact .inr (.inl rfl) | exact .inr (.inr rfl))) a_nil)) (v_len rfl T.b_len (a_cons (v_var (i := 2) rfl (by first | exact .inl rfl | exact .inr (.inl rfl) | exact .inr (.inr rfl))) a_nil))) (w_or1 (t_ne (u64 hr) (v_var (i := 2) rfl (by first | exact .inl rfl | exact .inr (.inl rfl) | exact .inr (.inr rfl))) (v_var (i := 5) rfl (by first | exact .inl rfl | exact .inr (.inl rfl) | exact .inr (.inr rfl)))))))) (b_one (s_ret v_bl)) b_nil)
      (b_cons (s_if (t_eq (u64 hr) (v_sum rfl rfl T.b_sum (a_cons (v_var (i := 2) rfl (by first | exact .inl rfl | exact .inr (.inl rfl) | exact .inr (.inr rfl))) a_nil)) v_int) (b_one (s_ret (v_eq (u64 hr) (v_var (i := 7) rfl (by first | exact .inl rfl | exact .inr (.inl rfl) | exact .inr (.inr rfl))) (v_comp (sc := defScope s_law) (own := [("_law_number", 10)]) rfl sc_law.nd (by rfl) (blkOk_by (N := N_law) (sc := defScope s_law) (own := [("_law_number", 10)]) (by decide +kernel)) (by decide) (i_any (v_var (i := 2) rfl (by first | exact .inl rfl | exact .inr (.inl rfl) | exact .inr (.inr rfl)))) (fun _ _ _ _ _ => (g_name (i := 10) sc_law.nd rfl (by first | exact .inl rfl | exact .inr rfl))) (fun _ _ _ _ _ => ts_nil) (fun _ _ _ _ _ => v_int))))) b_nil)
      (b_one (s_ret (v_and (v_eq (u64 hr) (v_sum rfl rfl T.b_sum (a_cons (v_var (i := 7) rfl (by first | exact .inl rfl | exact .inr (.inl rfl) | exact .inr (.inr rfl))) a_nil)) (v_var (i := 3) rfl (by first | exact .inl rfl | exact .inr (.inl rfl) | exact .inr (.inr rfl)))) (v_one (v_callB T.ok__law_rests (hr.mono (by decide)) rfl T.g__law_rests T.F__law_rests.kp T.bd__law_rests passN (a_cons (v_var (i := 2) rfl (by first | exact .inl rfl | exact .inr (.inl rfl) | exact .inr (.inr rfl))) (a_cons (v_var (i := 3) rfl (by first | exact .inl rfl | exact .inr (.inl rfl) | exact .inr (.inr rfl))) (a_cons (v_var (i := 7) rfl (by first | exact .inl rfl | exact .inr (.inl rfl) | exact .inr (.inr rfl))) a_nil)))))))))))))))))))))
end
def D_is_greater : He.DefD := ⟨("is_greater", none), "is_greater", "is_greater", defArgs s_is_greater, defBody s_is_greater, defScope s_is_greater, [], []⟩
def D_next_seat : He.DefD := ⟨("next_seat", none), "next_seat", "next_seat", defArgs s_next_seat, defBody s_next_seat, defScope s_next_seat, [], []⟩
def D_by_averages : He.DefD := ⟨("by_averages", none), "by_averages", "by_averages", defArgs s_by_averages, defBody s_by_averages, defScope s_by_averages, [], [("step", .int 1)]⟩
def D_by_remainders : He.DefD := ⟨("by_remainders", none), "by_remainders", "by_remainders", defArgs s_by_remainders, defBody s_by_remainders, defScope s_by_remainders, [], []⟩
def D__law_cell : He.DefD := ⟨("_law_cell", none), "_law_cell", "_law_cell", defArgs s__law_cell, defBody s__law_cell, defScope s__law_cell, [], []⟩
def D__law_digits : He.DefD := ⟨("_law_digits", none), "_law_digits", "_law_digits", defArgs s__law_digits, defBody s__law_digits, defScope s__law_digits, [], []⟩
def D__law_draw : He.DefD := ⟨("_law_draw", none), "_law_draw", "_law_draw", defArgs s__law_draw, defBody s__law_draw, defScope s__law_draw, [], []⟩
def D__law_prime : He.DefD := ⟨("_law_prime", none), "_law_prime", "_law_prime", defArgs s__law_prime, defBody s__law_prime, defScope s__law_prime, [], []⟩
def D__law_numbers : He.DefD := ⟨("_law_numbers", none), "_law_numbers", "_law_numbers", defArgs s__law_numbers, defBody s__law_numbers, defScope s__law_numbers, [], []⟩
def D__law_order : He.DefD := ⟨("_law_order", none), "_law_order", "_law_order", defArgs s__law_order, defBody s__law_order, defScope s__law_order, [], []⟩
def D__law_is_int : He.DefD := ⟨("_law_is_int", none), "_law_is_int", "_law_is_int", defArgs s__law_is_int, defBody s__law_is_int, defScope s__law_is_int, [], []⟩
def D__law_are_values : He.DefD := ⟨("_law_are_values", none), "_law_are_values", "_law_are_values", defArgs s__law_are_values, defBody s__law_are_values, defScope s__law_are_values, [], []⟩
def D__law_next : He.DefD := ⟨("_law_next", none), "_law_next", "_law_next", defArgs s__law_next, defBody s__law_next, defScope s__law_next, [], []⟩
def D__law_rests : He.DefD := ⟨("_law_rests", none), "_law_rests", "_law_rests", defArgs s__law_rests, defBody s__law_rests, defScope s__law_rests, [], []⟩
def D_law : He.DefD := ⟨("law", none), "law", "law", defArgs s_law, defBody s_law, defScope s_law, [], []⟩
def fn : List He.DefD := [D_is_greater, D_next_seat, D_by_averages, D_by_remainders, D__law_cell, D__law_digits, D__law_draw, D__law_prime, D__law_numbers, D__law_order, D__law_is_int, D__law_are_values, D__law_next, D__law_rests, D_law]
def fa : List He.Fa := [.glo "is_greater", .glo "next_seat", .glo "by_averages", .glo "by_remainders", .glo "_law_cell", .glo "_law_digits", .glo "_law_draw", .glo "_law_prime", .glo "_law_numbers", .glo "_law_order", .glo "_law_is_int", .glo "_law_are_values", .glo "_law_next", .glo "_law_rests", .glo "law", .free "bool", .free "int", .free "isinstance", .free "len", .free "list", .free "max", .free "range", .free "sum"]
abbrev R : PySem.W.OpenRow := PySem.W.OpenLaw.row PySem.Challenge.rw_veilcount_k17_seats
abbrev PR : Program := PySem.W.OpenLaw.prog PySem.Challenge.rw_veilcount_k17_seats
abbrev hk : PySem.W.Hook := He.hookD 4 fa fn
def ob (s : PySem.W.SharedT) : He.AlD := He.obsDG 4 fa fn (HandSHeadRun.getT s)
theorem ob_eq (s : PySem.W.SharedT) : ob s = hk.obs s.abs := He.obsDG_eq (HandSHeadRun.getT_eq s)
def loose : List Str := ["__name__", "is_greater", "next_seat", "by_averages", "by_remainders", "_law_cell", "_law_digits", "_law_draw", "_law_prime", "_law_numbers", "_law_order", "_law_is_int", "_law_are_values", "_law_next", "_law_rests"]
theorem run (w : World) : HandSHeadRun.RunEq R (PySem.W.view R.prog [16]) hk ob 2000 loose w := by
  intro os
  kernel_rfl
theorem facts {K : PySem.W.Frag} {h : Heap} {mg : Str → Option Value} (X : K.In h) (G : h.Ns mainGlobals mg) (c : He.SaysD fa fn K) : Nonempty (Tx PR K mg) := by
  obtain ⟨fd_is_greater, F_is_greater⟩ := c.def_ 0 (d := D_is_greater) rfl
  obtain ⟨fd_next_seat, F_next_seat⟩ := c.def_ 1 (d := D_next_seat) rfl
  obtain ⟨fd_by_averages, F_by_averages⟩ := c.def_ 2 (d := D_by_averages) rfl
  obtain ⟨fd_by_remainders, F_by_remainders⟩ := c.def_ 3 (d := D_by_remainders) rfl
  obtain ⟨fd__law_cell, F__law_cell⟩ := c.def_ 4 (d := D__law_cell) rfl
  obtain ⟨fd__law_digits, F__law_digits⟩ := c.def_ 5 (d := D__law_digits) rfl
  obtain ⟨fd__law_draw, F__law_draw⟩ := c.def_ 6 (d := D__law_draw) rfl
  obtain ⟨fd__law_prime, F__law_prime⟩ := c.def_ 7 (d := D__law_prime) rfl
  obtain ⟨fd__law_numbers, F__law_numbers⟩ := c.def_ 8 (d := D__law_numbers) rfl
  obtain ⟨fd__law_order, F__law_order⟩ := c.def_ 9 (d := D__law_order) rfl
  obtain ⟨fd__law_is_int, F__law_is_int⟩ := c.def_ 10 (d := D__law_is_int) rfl
  obtain ⟨fd__law_are_values, F__law_are_values⟩ := c.def_ 11 (d := D__law_are_values) rfl
  obtain ⟨fd__law_next, F__law_next⟩ := c.def_ 12 (d := D__law_next) rfl
  obtain ⟨fd__law_rests, F__law_rests⟩ := c.def_ 13 (d := D__law_rests) rfl
  obtain ⟨fd_law, F_law⟩ := c.def_ 14 (d := D_law) rfl
  exact ⟨{ b_bool := He.free_ok X G (c.fact 15 (f := .free "bool") rfl), b_int := He.free_ok X G (c.fact 16 (f := .free "int") rfl), b_isinstance := He.free_ok X G (c.fact 17 (f := .free "isinstance") rfl), b_len := He.free_ok X G (c.fact 18 (f := .free "len") rfl), b_list := He.free_ok X G (c.fact 19 (f := .free "list") rfl), b_max := He.free_ok X G (c.fact 20 (f := .free "max") rfl), b_range := He.free_ok X G (c.fact 21 (f := .free "range") rfl), b_sum := He.free_ok X G (c.fact 22 (f := .free "sum") rfl), a_is_greater := _, fd_is_greater := fd_is_greater, F_is_greater := F_is_greater, g_is_greater := He.glo_ok X G (c.fact 0 (f := .glo "is_greater") rfl), a_next_seat := _, fd_next_seat := fd_next_seat, F_next_seat := F_next_seat, g_next_seat := He.glo_ok X G (c.fact 1 (f := .glo "next_seat") rfl), a_by_averages := _, fd_by_averages := fd_by_averages, F_by_averages := F_by_averages, g_by_averages := He.glo_ok X G (c.fact 2 (f := .glo "by_averages") rfl), a_by_remainders := _, fd_by_remainders := fd_by_remainders, F_by_remainders := F_by_remainders, g_by_remainders := He.glo_ok X G (c.fact 3 (f := .glo "by_remainders") rfl), a__law_cell := _, fd__law_cell := fd__law_cell, F__law_cell := F__law_cell, g__law_cell := He.glo_ok X G (c.fact 4 (f := .glo "_law_cell") rfl), a__law_digits := _, fd__law_digits := fd__law_digits, F__law_digits := F__law_digits, g__law_digits := He.glo_ok X G (c.fact 5 (f := .glo "_law_digits") rfl), a__law_draw := _, fd__law_draw := fd__law_draw, F__law_draw := F__law_draw, g__law_draw := He.glo_ok X G (c.fact 6 (f := .glo "_law_draw") rfl), a__law_prime := _, fd__law_prime := fd__law_prime, F__law_prime := F__law_prime, g__law_prime := He.glo_ok X G (c.fact 7 (f := .glo "_law_prime") rfl), a__law_numbers := _, fd__law_numbers := fd__law_numbers, F__law_numbers := F__law_numbers, g__law_numbers := He.glo_ok X G (c.fact 8 (f := .glo "_law_numbers") rfl), a__law_order := _, fd__law_order := fd__law_order, F__law_order := F__law_order, g__law_order := He.glo_ok X G (c.fact 9 (f := .glo "_law_order") rfl), a__law_is_int := _, fd__law_is_int := fd__law_is_int, F__law_is_int := F__law_is_int, g__law_is_int := He.glo_ok X G (c.fact 10 (f := .glo "_law_is_int") rfl), a__law_are_values := _, fd__law_are_values := fd__law_are_values, F__law_are_values := F__law_are_values, g__law_are_values := He.glo_ok X G (c.fact 11 (f := .glo "_law_are_values") rfl), a__law_next := _, fd__law_next := fd__law_next, F__law_next := F__law_next, g__law_next := He.glo_ok X G (c.fact 12 (f := .glo "_law_next") rfl), a__law_rests := _, fd__law_rests := fd__law_rests, F__law_rests := F__law_rests, g__law_rests := He.glo_ok X G (c.fact 13 (f := .glo "_law_rests") rfl), a_law := _, fd_law := fd_law, F_law := F_law, g_law := He.glo_ok X G (c.fact 14 (f := .glo "law") rfl) }⟩
end V
open PySem PySem.W PySem.Calls PyProof.Rows
theorem PySem.Challenge.cw_veilcount_k17_seats_holds : PySem.Challenge.rw_veilcount_k17_seats.Holds := by
  w_on; o_law
  refine HandSHeadRun.head_any (r := OpenLaw.row PySem.Challenge.rw_veilcount_k17_seats) (q := view (OpenLaw.row PySem.Challenge.rw_veilcount_k17_seats).prog [16]) (H := V.hk) (ob := V.ob) (M := 2000) (loose := V.loose) (d := HandSHeadRun.topDef (OpenLaw.row PySem.Challenge.rw_veilcount_k17_seats).prog 16) (kwd := []) V.ob_eq
    (by kernel_rfl) (fun s => by kernel_rfl) V.run (by kernel_rfl) (by kernel_rfl) (by kernel_rfl) (by rfl) (by first | assumption | decide +kernel) (by decide +kernel) ⟨rfl, rfl, rfl, rfl, rfl, by decide +kernel⟩ ?hw ?hc
  case hw => w_witness2
  case hc =>
    refine L2.walk_ofE (l := PySem.Challenge.rw_veilcount_k17_seats) (n := 63) (k := 4) (x := "_law_script") (CX := L2.CX0) rfl (by decide) (by kernel_rfl) ⟨rfl, by decide, by decide⟩ ?F (fun _ _ _ _ z => z)
    intro w mg fa h Y G hmg0
    obtain ⟨K, KX, c⟩ := Y
    have hmg : mg ("law" : PySem.Str) = some (.ref fa) := by
      have e : (HandSHeadRun.topDef (OpenLaw.row PySem.Challenge.rw_veilcount_k17_seats).prog 16).name = ("law" : PySem.Str) := by kernel_rfl
      rw [← e]
      exact hmg0
    obtain ⟨T⟩ := V.facts KX G c
    have e := hmg.symm.trans T.g_law
    cases e
    have b := L2.FunD.bindsA (ps := ["_law_script"]) T.F_law fun _ _ _ _ _ _ us hl => match us, hl with | [_], _ => rfl
    exact ⟨K, T.fd_law, _, KX, fun s v => b s [v] rfl, fun H a ns hl _ hS => VF.law_sp (V.law_pure ns) hS, fun base _ _ => T.ok_law⟩
