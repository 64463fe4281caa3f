import PyProof.Rows.All
import Wide.All
import OpenK.AllK
import Wide.FinOn
import KE.KStateDown
import HandS.Base
import HandS.Call
import HandS.Ends
import HandS.More
import HandS.Words
import HandS.WordsExc
import HandS.Defaults
import HandS.Head0
import HandS.Head1
import HandS.Head2
import HandS.HeadEnd
import HandS.HeadHook1
import HandS.HeadHook2
import HandS.HeadHook3
import HandS.HeadHook4
import HandS.EndTab
import HandS.HeadWalk
import HandS.Comp
import HandS.List
import HandS.Iter
import HandS.TupSets
import HandS.Wide
import HandS.Deep
import HandS.Sort
import HandS.Text
import HandS.IsInst
import HandS.Conv
import KE.SortData
import HandS.Zip
import HandS.Style
import PyProof.AutoSeq1
import HandS.MakeKwOnly
import HandS.Strs
import HandS.TupAny
import HandS.TupLe
import HandS.SetBool
import KE.SortKeyHeap
import HandS.Lambda
import HandS.SortKw
import KE.KSortKey
import KE.DataMinKey
import KE.DataMinMax
import PySem.Challenge.RW_scalesheet_k28_whole_symbols_elsewhere
set_option Elab.async false
set_option linter.all false
set_option maxRecDepth 100000
set_option maxHeartbeats 4000000
/-! A data layer over the hand layer: data D instead of addresses. -/
namespace DL
open PySem PySem.Spec PyProof.Rows L2

/-- a list's standing: one's own (fresh, nobody else holds it), frozen (nobody changes it any more), borrowed -/
inductive Fl where
  | o | f | b
  deriving DecidableEq

inductive D where
  | non | bl (b : Bool) | int (i : Int) | str (x : Str) | pen
  | tup (xs : List D)
  | lst (k : Fl) (xs : List D)

mutual
/-- all frozen -/
def D.pf : D → Bool
  | .tup xs => D.pfs xs
  | .lst k xs => (match k with | .f => true | _ => false) && D.pfs xs
  | _ => true
def D.pfs : List D → Bool
  | [] => true
  | x :: xs => D.pf x && D.pfs xs
end
mutual
/-- nothing borrowed (below a frozen list nothing is) -/
def D.nb : D → Bool
  | .tup xs => D.nbs xs
  | .lst k xs => (match k with | .f => true | .b => false | .o => D.nbs xs)
  | _ => true
def D.nbs : List D → Bool
  | [] => true
  | x :: xs => D.nb x && D.nbs xs
end
mutual
/-- as a callee gets it: all frozen -/
def D.fz : D → D
  | .tup xs => .tup (D.fzs xs)
  | .lst k xs => (match k with | .f => .lst .f xs | _ => .lst .f (D.fzs xs))
  | d => d
def D.fzs : List D → List D
  | [] => []
  | x :: xs => D.fz x :: D.fzs xs
end
mutual
/-- a look at what a name holds: own lists are borrowed -/
def D.vw : D → D
  | .tup xs => .tup (D.vws xs)
  | .lst k xs => (match k with | .o => .lst .b (D.vws xs) | .f => .lst .f xs | .b => .lst .b xs)
  | d => d
def D.vws : List D → List D
  | [] => []
  | x :: xs => D.vw x :: D.vws xs
end
mutual
/-- what a call with things that are not all frozen hands back: its frozen lists may be parts of these -/
def D.wk : D → D
  | .tup xs => .tup (D.wks xs)
  | .lst k xs => .lst (match k with | .o => .o | _ => .b) (D.wks xs)
  | d => d
def D.wks : List D → List D
  | [] => []
  | x :: xs => D.wk x :: D.wks xs
end
mutual
/-- behind a return: what was borrowed is frozen -/
def D.rt : D → D
  | .tup xs => .tup (D.rts xs)
  | .lst k xs => (match k with | .o => .lst .o (D.rts xs) | .f => .lst .f xs | .b => .lst .f (D.fzs xs))
  | d => d
def D.rts : List D → List D
  | [] => []
  | x :: xs => D.rt x :: D.rts xs
end

/-- pens: the outer list, the inner one -/
abbrev Pens := List (Addr × Addr)
abbrev Pens.as (P : Pens) : List Addr := P.map (·.1)
/-- the tables of code objects that are followed, by the name of what is in them -/
class Tb where
  T : List (Addr × Str)

def KL (K : PySem.W.Frag) (a : Addr) (xs : List V) : Prop :=
  ∃ (o : Obj) (its : Array Value) (n : Nat), K.lookup a = some o ∧ o.cls = .type "list" ∧ o.dict = none ∧ o.data = .seq its n ∧ its.size ≤ sizeLine ∧ Vals xs its.toList
/-- a list that nobody in N changes -/
def SqF (K : PySem.W.Frag) (N : List Addr) (H : Hp) (a : Addr) (xs : List V) : Prop := (Rd H a (.lst xs) ∧ a ∉ N) ∨ KL K a xs
theorem SqF.sq {K : PySem.W.Frag} {N : List Addr} {H : Hp} {a : Addr} {xs : List V} (h : SqF K N H a xs) : SqL K H a xs := by
  rcases h with ⟨h, _⟩ | h
  · exact .inl h
  · exact .inr h

section
variable (K : PySem.W.Frag) (P : Pens) (M B : List Addr) (H : Hp)
mutual
/-- v stands for d; L: the lists that d owns. M: what frozen things must not lean on; B: what borrowed ones must not -/
inductive Rep : V → D → List Addr → Prop
  | non : Rep .non .non []
  | bl {b} : Rep (.bl b) (.bl b) []
  | int {i} : Rep (.int i) (.int i) []
  | str {x} : Rep (.str x) (.str x) []
  | pen {a l} : (a, l) ∈ P → Rep (.ref a) .pen []
  | tup {a vs ds L} : SqT K H a vs → Reps vs ds L → Rep (.ref a) (.tup ds) L
  | lstF {a vs ds} : SqF K (P.as ++ M) H a vs → Reps vs ds [] → D.pfs ds = true → Rep (.ref a) (.lst .f ds) []
  | lstB {a vs ds} : SqF K (P.as ++ B) H a vs → Reps vs ds [] → Rep (.ref a) (.lst .b ds) []
  | lstO {a vs ds L} : H a = some (.lst vs) → a ∉ P.as → Reps vs ds L → Rep (.ref a) (.lst .o ds) (a :: L)
inductive Reps : List V → List D → List Addr → Prop
  | nil : Reps [] [] []
  | cons {v d vs ds L1 L2} : Rep v d L1 → Reps vs ds L2 → Reps (v :: vs) (d :: ds) (L1 ++ L2)
end
end

/-- a table stays a table; all else stays as it is -/
def GrO : HO → Option HO → Prop
  | .tbl _, x => ∃ ps, x = some (.tbl ps)
  | .lst xs, x => x = some (.lst xs)
  | .tup xs, x => x = some (.tup xs)
  | .dK kvs, x => x = some (.dK kvs)
  | .dT kvs, x => x = some (.dT kvs)
  | .set S n, x => x = some (.set S n)
  | .ins C dx fs, x => x = some (.ins C dx fs)
  | .own a, x => x = some (.own a)
  | .xd fs, x => x = some (.xd fs)
  | .met f a, x => x = some (.met f a)
  | .rng lo hi, x => x = some (.rng lo hi)
  | .frz o u, x => x = some (.frz o u)
  | .ext φ, x => x = some (.ext φ)
theorem GrO.self (o : HO) : GrO o (some o) := by
  cases o <;> first
    | exact rfl
    | exact ⟨_, rfl⟩
theorem GrO.of {o : HO} {x : Option HO} (h : x = some o) : GrO o x := h ▸ GrO.self o
theorem GrO.trk {o : HO} {x : Option HO} (h : GrO o x) : x ≠ none := fun z => by
  subst z
  cases o <;> first
    | (cases h; done)
    | (obtain ⟨_, e⟩ := h; cases e)
theorem GrO.ne {o : HO} {x : Option HO} (h : GrO o x) (n : ∀ ps, o ≠ .tbl ps) : x = some o := by
  cases o <;> first
    | exact h
    | exact absurd rfl (n _)
/-- a good table of code objects of the name q -/
def TabF (H : Hp) (b : Addr) (q : Str) : Prop := ∃ ps : Array Value, H b = some (.tbl ps) ∧ TriplesOk ps.toList ∧ ∀ (pos : Pos) (cv : Value), codeAmong pos ps.toList = some cv → ∃ (c : Addr) (oc : Obj) (vs : Array Value) (t : Tok), cv = .ref c ∧ H c = some (.frz oc (.own 0)) ∧ oc.data = .fields vs ∧ vs[1]? = some (.str q t)
/-- what is tracked stays, but what is in N -/
structure Gr [Tb] (N : List Addr) (H H' : Hp) : Prop where
  get : ∀ b o, H b = some o → b ∉ N → GrO o (H' b)
  tab : ∀ b q, (b, q) ∈ Tb.T → TabF H b q → TabF H' b q
variable [Tb]
instance {N : List Addr} {H H' : Hp} : CoeFun (Gr N H H') (fun _ => ∀ b o, H b = some o → b ∉ N → GrO o (H' b)) := ⟨Gr.get⟩
/-- tables stay where their own objects and the code objects do -/
theorem TabF.keep {H H' : Hp} {b : Addr} {q : Str} (t : TabF H b q) (k1 : ∀ ps, H b = some (.tbl ps) → H' b = some (.tbl ps)) (k2 : ∀ c oc, H c = some (.frz oc (.own 0)) → H' c = some (.frz oc (.own 0))) : TabF H' b q := by
  obtain ⟨ps, e, ht, hc⟩ := t
  refine ⟨ps, k1 ps e, ht, fun pos cv h => ?_⟩
  obtain ⟨c, oc, vs, t, e1, e2, e3⟩ := hc pos cv h
  exact ⟨c, oc, vs, t, e1, k2 c oc e2, e3⟩
/-- all tracked things stay but what is in N, among which no table and no code object is -/
theorem Gr.by {N : List Addr} {H H' : Hp} (k : ∀ b o, H b = some o → b ∉ N → H' b = some o) (n : ∀ b ∈ N, ∀ o, H b = some o → (∀ ps, o ≠ .tbl ps) ∧ ∀ oc u, o ≠ .frz oc u) : Gr N H H' :=
  ⟨fun b o h m => GrO.of (k b o h m), fun b q mT t => t.keep (fun ps e => k b _ e fun z => (n b z _ e).1 ps rfl) fun c oc e => k c _ e fun z => (n c z _ e).2 oc _ rfl⟩
theorem Gr.refl {N : List Addr} {H : Hp} : Gr N H H := ⟨fun _ _ h _ => GrO.of h, fun _ _ _ t => t⟩
theorem Gr.trans {N : List Addr} {H H1 H2 : Hp} (a : Gr N H H1) (b : Gr N H1 H2) : Gr N H H2 := ⟨fun c o h n => by
  have h1 := a c o h n
  cases o with
  | tbl ps =>
    obtain ⟨qs, e⟩ := h1
    exact (b c _ e n : ∃ ps, _)
  | _ => exact b c _ h1 n, fun c q mT t => b.tab c q mT (a.tab c q mT t)⟩
theorem Gr.laid {N : List Addr} {H : Hp} {p : Addr} {o : HO} (hp : H p = none) : Gr N H (upd H p o) :=
  ⟨fun b u h _ => GrO.of (by rw [upd_ne (ne_of_none h hp)]; exact h), fun b q mT t => t.keep (fun ps e => by rw [upd_ne (ne_of_none e hp)]; exact e) fun c oc e => by rw [upd_ne (ne_of_none e hp)]; exact e⟩

theorem TabF.lst {H : Hp} {A b : Addr} {q : Str} {xs : List V} {o : HO} (t : TabF H b q) (h : H A = some (.lst xs)) : TabF (upd H A o) b q :=
  t.keep (fun ps e => by
    rw [upd_ne (fun z => by rw [z, h] at e; cases e)]; exact e) fun c oc e => by
    rw [upd_ne (fun z => by rw [z, h] at e; cases e)]; exact e
theorem TabF.unset {H : Hp} {A b : Addr} {q : Str} {o : HO} (n : ∀ ps, o ≠ .tbl ps) (n2 : ∀ oc u, o ≠ .frz oc u) (t : TabF (upd H A o) b q) : TabF H b q :=
  t.keep (fun ps e => by
    rw [upd_ne (fun z => by
      rw [z, upd_same] at e
      exact n _ (Option.some.inj e))] at e
    exact e) fun c oc e => by
    rw [upd_ne (fun z => by
      rw [z, upd_same] at e
      exact n2 _ _ (Option.some.inj e))] at e
    exact e
theorem Gr.sub {N N' : List Addr} {H H' : Hp} (g : Gr N H H') (h : ∀ b ∈ N, b ∈ N') : Gr N' H H' := ⟨fun b o e n => g b o e fun z => n (h b z), g.tab⟩
/-- what is new is left out of sight -/
theorem Gr.skip {N : List Addr} {H1 H5 H6 : Hp} {A : Addr} (g : Gr N H1 H5) (g' : Gr (A :: N) H5 H6) (hA : H1 A = none) : Gr N H1 H6 := ⟨fun b o h n => by
  have m : b ∉ A :: N := fun z => (List.mem_cons.mp z).elim (fun e => ne_of_none h hA e) n
  have h1 := g b o h n
  cases o with
  | tbl ps =>
    obtain ⟨qs, e⟩ := h1
    exact (g' b _ e m : ∃ ps, _)
  | _ => exact g' b _ h1 m, fun b q mT t => g'.tab b q mT (g.tab b q mT t)⟩
/-- a new thing is changed -/
theorem Gr.put {N : List Addr} {H1 H5 : Hp} {A : Addr} {o5 o : HO} (g : Gr N H1 H5) (hA : H1 A = none) (h5 : H5 A = some o5) (n : ∀ oc u, o5 ≠ .frz oc u) : Gr N H1 (upd H5 A o) :=
  ⟨fun b u hb m => by rw [upd_ne (ne_of_none hb hA)]; exact g b u hb m, fun b q mT t => by
    have ne : b ≠ A := fun e => by
      obtain ⟨ps, e1, _⟩ := t
      rw [e, hA] at e1; cases e1
    exact (g.tab b q mT t).keep (fun ps e => by rw [upd_ne ne]; exact e) fun c oc e => by
      rw [upd_ne (fun z => by
        rw [z, h5] at e
        exact n _ _ (Option.some.inj e))]
      exact e⟩
/-- a list is changed -/
theorem Gr.set {N : List Addr} {H : Hp} {A : Addr} {o5 o : HO} (hA : A ∈ N) (h5 : H A = some o5) (n : ∀ oc u, o5 ≠ .frz oc u) (n2 : ∀ ps, o5 ≠ .tbl ps) : Gr N H (upd H A o) :=
  ⟨fun b u hb m => GrO.of (by rw [upd_ne (fun e : b = A => m (by rw [e]; exact hA))]; exact hb), fun b q mT t => t.keep (fun ps e => by
      rw [upd_ne (fun z => by
        rw [z, h5] at e
        exact n2 _ (Option.some.inj e))]
      exact e) fun c oc e => by
      rw [upd_ne (fun z => by
        rw [z, h5] at e
        exact n _ _ (Option.some.inj e))]
      exact e⟩
/-- a pen: a list of the numbers, a place, what is left of a great one, a seed -/
def PenAt (H : Hp) (M : List Addr) (P : Pens) (a l : Addr) : Prop :=
  a ∉ M ∧ l ∉ M ∧ l ∉ P.as ∧ ∃ (ns : List Int) (i b s : Int), H a = some (.lst [.ref l, .int i, .int b, .int s]) ∧ H l = some (.lst (ns.map V.int)) ∧ 0 ≤ i ∧ 0 ≤ b ∧ 0 ≤ s ∧ s < 2147483648 ∧ ns.length ≤ 63
def PensOk (P : Pens) (M : List Addr) (H : Hp) : Prop := ∀ a l, (a, l) ∈ P → PenAt H M P a l

theorem Pens.mem {P : Pens} {a : Addr} (h : a ∈ P.as) : ∃ l, (a, l) ∈ P := by
  obtain ⟨⟨b, l⟩, h1, h2⟩ := List.mem_map.mp h
  exact ⟨l, by rw [← h2]; exact h1⟩
section
variable {K : PySem.W.Frag} {P : Pens} {M M' B B' N : List Addr} {H H' : Hp} {v : V} {d : D} {L : List Addr}
theorem PensOk.lst (h : PensOk P M H) {a : Addr} (ha : a ∈ P.as) : ∃ xs, H a = some (.lst xs) := by
  obtain ⟨l, hl⟩ := Pens.mem ha
  obtain ⟨_, _, _, ns, i, b, s, e, _⟩ := h a l hl
  exact ⟨_, e⟩
theorem PensOk.grow (h : PensOk P M H) (hM : ∀ a ∈ M', a ∈ M ∨ H a = none) : PensOk P M' H := fun a l hl => by
  obtain ⟨n1, n2, n3, ns, i, b, s, e1, e2, r⟩ := h a l hl
  refine ⟨fun z => ?_, fun z => ?_, n3, ns, i, b, s, e1, e2, r⟩
  · rcases hM a z with q | q
    · exact n1 q
    · rw [q] at e1; cases e1
  · rcases hM l z with q | q
    · exact n2 q
    · rw [q] at e2; cases e2
/-- pens stay where only others are touched -/
theorem PensOk.keep (h : PensOk P M H) (g : ∀ b o, H b = some o → (b ∈ P.as ∨ ∃ a, (a, b) ∈ P) → H' b = some o) : PensOk P M H' := fun a l hl => by
  obtain ⟨n1, n2, n3, ns, i, b, s, e1, e2, r⟩ := h a l hl
  exact ⟨n1, n2, n3, ns, i, b, s, g a _ e1 (.inl (List.mem_map.mpr ⟨(a, l), hl, rfl⟩)), g l _ e2 (.inr ⟨a, hl⟩), r⟩
theorem PensOk.laid (h : PensOk P M H) {p : Addr} {o : HO} (hp : H p = none) : PensOk P M (upd H p o) := h.keep fun b u e _ => by
  rw [upd_ne (ne_of_none e hp)]; exact e
theorem Gr.nil (g : Gr P.as H H') (h : PensOk P M H') {b : Addr} (hb : H' b = none) : H b = none := by
  cases e : H b with
  | none => rfl
  | some o =>
    by_cases hm : b ∈ P.as
    · obtain ⟨xs, q⟩ := h.lst hm
      rw [q] at hb; cases hb
    · exact absurd hb (g b o e hm).trk

theorem Rd.gr {a : Addr} {xs : List V} (r : Rd H a (.lst xs)) (g : Gr N H H') (hn : a ∉ N) : Rd H' a (.lst xs) := by
  rcases r with r | ⟨o, r⟩
  · exact .inl (g a _ r hn)
  · exact .inr ⟨o, g a _ r hn⟩
theorem Rd.trk {a : Addr} {u : HO} (r : Rd H a u) : H a ≠ none := by
  rcases r with r | ⟨o, r⟩ <;> (rw [r]; intro z; cases z)
theorem SqF.gr {a : Addr} {xs : List V} (h : SqF K N H a xs) {N0 N' : List Addr} (g : Gr N0 H H') (h0 : ∀ b ∈ N0, b ∈ N) (hN : ∀ b ∈ N', b ∈ N ∨ H b = none) : SqF K N' H' a xs := by
  rcases h with ⟨r, n⟩ | h
  · refine .inl ⟨Rd.gr r g fun z => n (h0 _ z), fun z => ?_⟩
    rcases hN a z with q | q
    · exact n q
    · exact Rd.trk r q
  · exact .inr h
theorem SqT.gr {a : Addr} {xs : List V} (h : SqT K H a xs) (g : Gr N H H') (hN : ∀ b ∈ N, ∃ ys, H b = some (.lst ys)) : SqT K H' a xs := by
  rcases h with (h | ⟨o, h⟩) | h
  · refine .inl (.inl (g a _ h fun z => ?_))
    obtain ⟨ys, q⟩ := hN a z
    rw [h] at q; cases q
  · refine .inl (.inr ⟨o, g a _ h fun z => ?_⟩)
    obtain ⟨ys, q⟩ := hN a z
    rw [h] at q; cases q
  · exact .inr h

theorem app_nil {α : Type} {l m : List α} (h : l ++ m = []) : l = [] ∧ m = [] := by
  cases l with
  | nil => exact ⟨rfl, h⟩
  | cons a r => exact nomatch h
mutual
/-- the heap grows, pens may turn; M and B may grow by what was not tracked -/
theorem Rep.gr (g : Gr P.as H H') (hP : ∀ b ∈ P.as, ∃ ys, H b = some (.lst ys)) (hM : ∀ a ∈ M', a ∈ M ∨ H a = none) (hB : ∀ a ∈ B', a ∈ B ∨ H a = none) : ∀ {v : V} {d : D} {L : List Addr}, Rep K P M B H v d L → Rep K P M' B' H' v d L
  | _, _, _, .non => .non
  | _, _, _, .bl => .bl
  | _, _, _, .int => .int
  | _, _, _, .str => .str
  | _, _, _, .pen h => .pen h
  | _, _, _, .tup h r => .tup (SqT.gr h g hP) (Reps.gr g hP hM hB r)
  | _, _, _, .lstF h r p => .lstF (SqF.gr h g (fun b z => List.mem_append_left _ z) (fun b z => by
      rcases List.mem_append.mp z with z | z
      · exact .inl (List.mem_append_left _ z)
      · rcases hM b z with q | q
        · exact .inl (List.mem_append_right _ q)
        · exact .inr q)) (Reps.gr g hP hM hB r) p
  | _, _, _, .lstB h r => .lstB (SqF.gr h g (fun b z => List.mem_append_left _ z) (fun b z => by
      rcases List.mem_append.mp z with z | z
      · exact .inl (List.mem_append_left _ z)
      · rcases hB b z with q | q
        · exact .inl (List.mem_append_right _ q)
        · exact .inr q)) (Reps.gr g hP hM hB r)
  | _, _, _, .lstO h n r => .lstO (g _ _ h n) n (Reps.gr g hP hM hB r)
theorem Reps.gr (g : Gr P.as H H') (hP : ∀ b ∈ P.as, ∃ ys, H b = some (.lst ys)) (hM : ∀ a ∈ M', a ∈ M ∨ H a = none) (hB : ∀ a ∈ B', a ∈ B ∨ H a = none) : ∀ {vs : List V} {ds : List D} {L : List Addr}, Reps K P M B H vs ds L → Reps K P M' B' H' vs ds L
  | _, _, _, .nil => .nil
  | _, _, _, .cons h r => .cons (Rep.gr g hP hM hB h) (Reps.gr g hP hM hB r)
end
mutual
/-- what is owned is tracked, and no pen -/
theorem Rep.own : ∀ {v : V} {d : D} {L : List Addr}, Rep K P M B H v d L → ∀ a ∈ L, (∃ xs, H a = some (.lst xs)) ∧ a ∉ P.as
  | _, _, _, .non, _, z => nomatch z
  | _, _, _, .bl, _, z => nomatch z
  | _, _, _, .int, _, z => nomatch z
  | _, _, _, .str, _, z => nomatch z
  | _, _, _, .pen _, _, z => nomatch z
  | _, _, _, .tup _ r, a, z => Reps.own r a z
  | _, _, _, .lstF _ _ _, _, z => nomatch z
  | _, _, _, .lstB _ _, _, z => nomatch z
  | _, _, _, .lstO h n r, a, z => by
    rcases List.mem_cons.mp z with e | z
    · subst e; exact ⟨⟨_, h⟩, n⟩
    · exact Reps.own r a z
theorem Reps.own : ∀ {vs : List V} {ds : List D} {L : List Addr}, Reps K P M B H vs ds L → ∀ a ∈ L, (∃ xs, H a = some (.lst xs)) ∧ a ∉ P.as
  | _, _, _, .nil, _, z => nomatch z
  | _, _, _, .cons h r, a, z => by
    rcases List.mem_append.mp z with z | z
    · exact Rep.own h a z
    · exact Reps.own r a z
end
mutual
/-- all frozen: it owns nothing, and no borrowed part stands in it -/
theorem Rep.pf : ∀ {v : V} {d : D} {L : List Addr}, Rep K P M B H v d L → d.pf = true → L = [] ∧ ∀ {B' : List Addr}, Rep K P M B' H v d []
  | _, _, _, .non, _ => ⟨rfl, .non⟩
  | _, _, _, .bl, _ => ⟨rfl, .bl⟩
  | _, _, _, .int, _ => ⟨rfl, .int⟩
  | _, _, _, .str, _ => ⟨rfl, .str⟩
  | _, _, _, .pen h, _ => ⟨rfl, .pen h⟩
  | _, _, _, .tup h r, p => by
    obtain ⟨e, q⟩ := Reps.pf r (by simpa [D.pf] using p)
    subst e
    exact ⟨rfl, .tup h q⟩
  | _, _, _, .lstF h r p, _ => by
    obtain ⟨_, q⟩ := Reps.pf r p
    exact ⟨rfl, .lstF h q p⟩
  | _, _, _, .lstB _ _, p => by simp [D.pf] at p
  | _, _, _, .lstO _ _ _, p => by simp [D.pf] at p
theorem Reps.pf : ∀ {vs : List V} {ds : List D} {L : List Addr}, Reps K P M B H vs ds L → D.pfs ds = true → L = [] ∧ ∀ {B' : List Addr}, Reps K P M B' H vs ds []
  | _, _, _, .nil, _ => ⟨rfl, .nil⟩
  | _, _, _, .cons h r, p => by
    simp only [D.pfs, Bool.and_eq_true] at p
    obtain ⟨e1, q1⟩ := Rep.pf h p.1
    obtain ⟨e2, q2⟩ := Reps.pf r p.2
    subst e1 e2
    exact ⟨rfl, .cons (L1 := []) (L2 := []) q1 q2⟩
end
mutual
theorem D.fz_pf : ∀ d : D, d.pf = true → d.fz = d
  | .non, _ => rfl
  | .bl _, _ => rfl
  | .int _, _ => rfl
  | .str _, _ => rfl
  | .pen, _ => rfl
  | .tup xs, p => by simp only [D.fz]; rw [D.fzs_pf xs (by simpa [D.pf] using p)]
  | .lst .f xs, _ => rfl
  | .lst .b _, p => by simp [D.pf] at p
  | .lst .o _, p => by simp [D.pf] at p
theorem D.fzs_pf : ∀ ds : List D, D.pfs ds = true → D.fzs ds = ds
  | [], _ => rfl
  | d :: ds, p => by
    simp only [D.pfs, Bool.and_eq_true] at p
    simp only [D.fzs]
    rw [D.fz_pf d p.1, D.fzs_pf ds p.2]
end
theorem SqF.sub {a : Addr} {xs : List V} (h : SqF K N H a xs) {N' : List Addr} (hN : ∀ b ∈ N', b ∈ N) : SqF K N' H a xs := by
  rcases h with ⟨r, n⟩ | h
  · exact .inl ⟨r, fun z => n (hN a z)⟩
  · exact .inr h
theorem sub_app {A M M' : List Addr} (h : ∀ b ∈ M', b ∈ M) : ∀ b ∈ A ++ M', b ∈ A ++ M := fun b z => by
  rcases List.mem_append.mp z with z | z
  · exact List.mem_append_left _ z
  · exact List.mem_append_right _ (h b z)
mutual
/-- fewer things to lean away from -/
theorem Rep.sub (hM : ∀ a ∈ M', a ∈ M) (hB : ∀ a ∈ B', a ∈ B) : ∀ {v : V} {d : D} {L : List Addr}, Rep K P M B H v d L → Rep K P M' B' H v d L
  | _, _, _, .non => .non
  | _, _, _, .bl => .bl
  | _, _, _, .int => .int
  | _, _, _, .str => .str
  | _, _, _, .pen h => .pen h
  | _, _, _, .tup h r => .tup h (Reps.sub hM hB r)
  | _, _, _, .lstF h r p => .lstF (SqF.sub h (sub_app hM)) (Reps.sub hM hB r) p
  | _, _, _, .lstB h r => .lstB (SqF.sub h (sub_app hB)) (Reps.sub hM hB r)
  | _, _, _, .lstO h n r => .lstO h n (Reps.sub hM hB r)
theorem Reps.sub (hM : ∀ a ∈ M', a ∈ M) (hB : ∀ a ∈ B', a ∈ B) : ∀ {vs : List V} {ds : List D} {L : List Addr}, Reps K P M B H vs ds L → Reps K P M' B' H vs ds L
  | _, _, _, .nil => .nil
  | _, _, _, .cons h r => .cons (Rep.sub hM hB h) (Reps.sub hM hB r)
end
mutual
theorem D.pf_fz : ∀ d : D, d.pf = true → d.fz.pf = true
  | .non, _ => rfl
  | .bl _, _ => rfl
  | .int _, _ => rfl
  | .str _, _ => rfl
  | .pen, _ => rfl
  | .tup xs, p => by simpa [D.fz, D.pf] using D.pfs_fzs xs (by simpa [D.pf] using p)
  | .lst .f xs, p => by simpa [D.fz] using p
  | .lst .b _, p => by simp [D.pf] at p
  | .lst .o _, p => by simp [D.pf] at p
theorem D.pfs_fzs : ∀ ds : List D, D.pfs ds = true → D.pfs (D.fzs ds) = true
  | [], _ => rfl
  | d :: ds, p => by
    simp only [D.pfs, Bool.and_eq_true] at p
    simp only [D.fzs, D.pfs, Bool.and_eq_true]
    exact ⟨D.pf_fz d p.1, D.pfs_fzs ds p.2⟩
end
mutual
/-- frozen, as a callee gets it; N: what it may not lean on -/
theorem Rep.fz (hM : ∀ a ∈ N, a ∈ M) (hB : ∀ a ∈ N, a ∈ B) : ∀ {v : V} {d : D} {L : List Addr}, Rep K P M B H v d L → (∀ a ∈ L, a ∉ N) → Rep K P N N H v d.fz [] ∧ d.fz.pf = true
  | _, _, _, .non, _ => ⟨.non, rfl⟩
  | _, _, _, .bl, _ => ⟨.bl, rfl⟩
  | _, _, _, .int, _ => ⟨.int, rfl⟩
  | _, _, _, .str, _ => ⟨.str, rfl⟩
  | _, _, _, .pen h, _ => ⟨.pen h, rfl⟩
  | _, _, _, .tup h r, n => by
    obtain ⟨q, p⟩ := Reps.fz hM hB r n
    exact ⟨.tup h q, by simpa [D.fz, D.pf] using p⟩
  | _, _, _, .lstF h r p, _ => ⟨.lstF (SqF.sub h (sub_app hM)) (Reps.sub hM (fun _ z => z) (Reps.pf r p).2) p, by simpa [D.fz, D.pf] using p⟩
  | _, _, _, .lstB h r, _ => by
    obtain ⟨q, p⟩ := Reps.fz hM hB r (fun _ z => nomatch z)
    exact ⟨.lstF (SqF.sub h (sub_app hB)) q p, by simpa [D.fz, D.pf] using p⟩
  | _, _, _, @Rep.lstO _ _ _ _ _ a vs ds L h n r, m => by
    obtain ⟨q, p⟩ := Reps.fz hM hB r (fun b z => m b (List.mem_cons_of_mem _ z))
    refine ⟨.lstF (.inl ⟨.inl h, fun z => ?_⟩) q p, by simpa [D.fz, D.pf] using p⟩
    rcases List.mem_append.mp z with z | z
    · exact n z
    · exact m a (List.mem_cons_self ..) z
theorem Reps.fz (hM : ∀ a ∈ N, a ∈ M) (hB : ∀ a ∈ N, a ∈ B) : ∀ {vs : List V} {ds : List D} {L : List Addr}, Reps K P M B H vs ds L → (∀ a ∈ L, a ∉ N) → Reps K P N N H vs (D.fzs ds) [] ∧ D.pfs (D.fzs ds) = true
  | _, _, _, .nil, _ => ⟨.nil, rfl⟩
  | _, _, _, .cons h r, n => by
    obtain ⟨q1, p1⟩ := Rep.fz hM hB h (fun a z => n a (List.mem_append_left _ z))
    obtain ⟨q2, p2⟩ := Reps.fz hM hB r (fun a z => n a (List.mem_append_right _ z))
    exact ⟨.cons (L1 := []) (L2 := []) q1 q2, by simp only [D.fzs, D.pfs, p1, p2, Bool.and_self]⟩
end
mutual
/-- a look: what is owned is borrowed -/
theorem Rep.vw : ∀ {v : V} {d : D} {L : List Addr}, Rep K P M B H v d L → (∀ a ∈ L, a ∉ B) → Rep K P M B H v d.vw []
  | _, _, _, .non, _ => .non
  | _, _, _, .bl, _ => .bl
  | _, _, _, .int, _ => .int
  | _, _, _, .str, _ => .str
  | _, _, _, .pen h, _ => .pen h
  | _, _, _, .tup h r, n => .tup h (Reps.vw r n)
  | _, _, _, .lstF h r p, _ => .lstF h r p
  | _, _, _, .lstB h r, _ => .lstB h r
  | _, _, _, @Rep.lstO _ _ _ _ _ a vs ds L h n r, m => by
    refine .lstB (.inl ⟨.inl h, fun z => ?_⟩) (Reps.vw r (fun b z => m b (List.mem_cons_of_mem _ z)))
    rcases List.mem_append.mp z with z | z
    · exact n z
    · exact m a (List.mem_cons_self ..) z
theorem Reps.vw : ∀ {vs : List V} {ds : List D} {L : List Addr}, Reps K P M B H vs ds L → (∀ a ∈ L, a ∉ B) → Reps K P M B H vs (D.vws ds) []
  | _, _, _, .nil, _ => .nil
  | _, _, _, .cons h r, n => .cons (L1 := []) (L2 := []) (Rep.vw h (fun a z => n a (List.mem_append_left _ z))) (Reps.vw r (fun a z => n a (List.mem_append_right _ z)))
end
mutual
/-- what comes back from a call with things that are not all frozen -/
theorem Rep.wk (hB : ∀ a ∈ B', a ∈ M) (hB2 : ∀ a ∈ B', a ∈ B) : ∀ {v : V} {d : D} {L : List Addr}, Rep K P M B H v d L → Rep K P M' B' H v d.wk L
  | _, _, _, .non => .non
  | _, _, _, .bl => .bl
  | _, _, _, .int => .int
  | _, _, _, .str => .str
  | _, _, _, .pen h => .pen h
  | _, _, _, .tup h r => .tup h (Reps.wk hB hB2 r)
  | _, _, _, .lstF h r p => .lstB (SqF.sub h (sub_app hB)) (Reps.wk hB hB2 r)
  | _, _, _, .lstB h r => .lstB (SqF.sub h (sub_app hB2)) (Reps.wk hB hB2 r)
  | _, _, _, .lstO h n r => .lstO h n (Reps.wk hB hB2 r)
theorem Reps.wk (hB : ∀ a ∈ B', a ∈ M) (hB2 : ∀ a ∈ B', a ∈ B) : ∀ {vs : List V} {ds : List D} {L : List Addr}, Reps K P M B H vs ds L → Reps K P M' B' H vs (D.wks ds) L
  | _, _, _, .nil => .nil
  | _, _, _, .cons h r => .cons (Rep.wk hB hB2 h) (Reps.wk hB hB2 r)
end
mutual
/-- behind a return: what was borrowed is frozen -/
theorem Rep.rt (hM : ∀ a ∈ B, a ∈ M) : ∀ {v : V} {d : D} {L : List Addr}, Rep K P M B H v d L → Rep K P B B H v d.rt L
  | _, _, _, .non => .non
  | _, _, _, .bl => .bl
  | _, _, _, .int => .int
  | _, _, _, .str => .str
  | _, _, _, .pen h => .pen h
  | _, _, _, .tup h r => .tup h (Reps.rt hM r)
  | _, _, _, .lstF h r p => .lstF (SqF.sub h (sub_app hM)) (Reps.sub hM (fun _ z => z) (Reps.pf r p).2) p
  | _, _, _, .lstB h r => by
    obtain ⟨q, p⟩ := Reps.fz hM (fun _ z => z) r (fun _ z => nomatch z)
    exact .lstF h q p
  | _, _, _, .lstO h n r => .lstO h n (Reps.rt hM r)
theorem Reps.rt (hM : ∀ a ∈ B, a ∈ M) : ∀ {vs : List V} {ds : List D} {L : List Addr}, Reps K P M B H vs ds L → Reps K P B B H vs (D.rts ds) L
  | _, _, _, .nil => .nil
  | _, _, _, .cons h r => .cons (Rep.rt hM h) (Reps.rt hM r)
end
theorem SqT.upd {a c : Addr} {xs ys : List V} {o : HO} (h : SqT K H a xs) (hc : H c = some (.lst ys)) : SqT K (upd H c o) a xs := by
  refine SqT.gr (N := [c]) h (Gr.by (fun b u e q => by rw [upd_ne (fun z => q (by simp [z]))]; exact e) fun b q u e => ?_) (fun b q => ?_)
  · have z : b = c := by simpa using q
    subst z
    rw [hc] at e; cases e
    exact ⟨fun _ z => (nomatch z), fun _ _ z => (nomatch z)⟩
  have e : b = c := by simpa using q
  subst e
  exact ⟨ys, hc⟩
theorem SqF.upd {a c : Addr} {xs : List V} {o : HO} (h : SqF K N H a xs) (hm : c ∈ N) : SqF K N (upd H c o) a xs := by
  rcases h with ⟨r, n⟩ | h
  · have ne : a ≠ c := fun e => n (e ▸ hm)
    refine .inl ⟨?_, n⟩
    rcases r with r | ⟨x, r⟩
    · exact .inl (by rw [upd_ne ne]; exact r)
    · exact .inr ⟨x, by rw [upd_ne ne]; exact r⟩
  · exact .inr h
mutual
/-- an own list of another is changed -/
theorem Rep.mut {c : Addr} {xs : List V} {o : HO} (hc : H c = some (.lst xs)) (hm : c ∈ M) : ∀ {v : V} {d : D} {L : List Addr}, Rep K P M B H v d L → d.nb = true → c ∉ L → Rep K P M B (upd H c o) v d L
  | _, _, _, .non, _, _ => .non
  | _, _, _, .bl, _, _ => .bl
  | _, _, _, .int, _, _ => .int
  | _, _, _, .str, _, _ => .str
  | _, _, _, .pen h, _, _ => .pen h
  | _, _, _, .tup h r, p, n => by
    refine .tup ?_ (Reps.mut hc hm r (by simpa [D.nb] using p) n)
    exact SqT.upd h hc
  | _, _, _, .lstF h r p, _, _ => by
    exact .lstF (SqF.upd h (List.mem_append_right _ hm)) (Reps.mutF hc hm r p) p
  | _, _, _, .lstB _ _, p, _ => by simp [D.nb] at p
  | _, _, _, .lstO h n r, p, q => by
    refine .lstO ?_ n (Reps.mut hc hm r (by simpa [D.nb] using p) fun z => q (List.mem_cons_of_mem _ z))
    rw [upd_ne (fun z => q (by simp [z]))]
    exact h
theorem Reps.mut {c : Addr} {xs : List V} {o : HO} (hc : H c = some (.lst xs)) (hm : c ∈ M) : ∀ {vs : List V} {ds : List D} {L : List Addr}, Reps K P M B H vs ds L → D.nbs ds = true → c ∉ L → Reps K P M B (upd H c o) vs ds L
  | _, _, _, .nil, _, _ => .nil
  | _, _, _, .cons h r, p, n => by
    simp only [D.nbs, Bool.and_eq_true] at p
    exact .cons (Rep.mut hc hm h p.1 fun z => n (List.mem_append_left _ z)) (Reps.mut hc hm r p.2 fun z => n (List.mem_append_right _ z))
theorem Rep.mutF {c : Addr} {xs : List V} {o : HO} (hc : H c = some (.lst xs)) (hm : c ∈ M) : ∀ {v : V} {d : D} {L : List Addr}, Rep K P M B H v d L → d.pf = true → Rep K P M B (upd H c o) v d L
  | _, _, _, .non, _ => .non
  | _, _, _, .bl, _ => .bl
  | _, _, _, .int, _ => .int
  | _, _, _, .str, _ => .str
  | _, _, _, .pen h, _ => .pen h
  | _, _, _, .tup h r, p => by
    refine .tup ?_ (Reps.mutF hc hm r (by simpa [D.pf] using p))
    exact SqT.upd h hc
  | _, _, _, .lstF h r p, _ => by
    exact .lstF (SqF.upd h (List.mem_append_right _ hm)) (Reps.mutF hc hm r p) p
  | _, _, _, .lstB _ _, p => by simp [D.pf] at p
  | _, _, _, .lstO _ _ _, p => by simp [D.pf] at p
theorem Reps.mutF {c : Addr} {xs : List V} {o : HO} (hc : H c = some (.lst xs)) (hm : c ∈ M) : ∀ {vs : List V} {ds : List D} {L : List Addr}, Reps K P M B H vs ds L → D.pfs ds = true → Reps K P M B (upd H c o) vs ds L
  | _, _, _, .nil, _ => .nil
  | _, _, _, .cons h r, p => by
    simp only [D.pfs, Bool.and_eq_true] at p
    exact .cons (Rep.mutF hc hm h p.1) (Reps.mutF hc hm r p.2)
end
theorem Reps.len : ∀ {vs : List V} {ds : List D} {L : List Addr}, Reps K P M B H vs ds L → vs.length = ds.length
  | _, _, _, .nil => rfl
  | _, _, _, .cons _ r => congrArg Nat.succ r.len
theorem Reps.get : ∀ {vs : List V} {ds : List D} {L : List Addr} {i : Nat} {d : D}, Reps K P M B H vs ds L → ds[i]? = some d → ∃ v L1, vs[i]? = some v ∧ Rep K P M B H v d L1 ∧ ∀ a ∈ L1, a ∈ L
  | _, _, _, _, _, .nil, e => by simp at e
  | _, _, _, 0, _, .cons h r, e => by
    simp at e
    subst e
    exact ⟨_, _, rfl, h, fun a z => List.mem_append_left _ z⟩
  | _, _, _, i + 1, _, .cons h r, e => by
    obtain ⟨v, L1, e1, q, s⟩ := r.get (i := i) (by simpa using e)
    exact ⟨v, L1, by simpa using e1, q, fun a z => List.mem_append_right _ (s a z)⟩
theorem Reps.app : ∀ {vs ws : List V} {ds es : List D} {L L2 : List Addr}, Reps K P M B H vs ds L → Reps K P M B H ws es L2 → Reps K P M B H (vs ++ ws) (ds ++ es) (L ++ L2)
  | _, _, _, _, _, _, .nil, s => s
  | _, _, _, _, _, _, .cons h r, s => by
    rw [List.append_assoc]
    exact .cons h (r.app s)
end
end DL
set_option maxHeartbeats 4000000
namespace DL
open PySem PySem.Spec PyProof.Rows L2
variable [Tb]

abbrev Env := List (Option D)
abbrev Sg := L2.St
/-- where one stands -/
structure Stt [Tb] (P : Pens) (M B : List Addr) (H : Hp) : Prop where
  pens : PensOk P M H
  sub : ∀ a ∈ B, a ∈ M
  ls : ∀ a ∈ M, ∃ xs, H a = some (.lst xs)
  tabs : ∀ p ∈ Tb.T, TabF H p.1 p.2
/-- the names' values -/
def Slots (K : PySem.W.Frag) (P : Pens) (M B : List Addr) (H : Hp) (σ : Sg) (ρ : Env) : Prop :=
  ρ.length ≤ σ.length ∧ ∃ F : Nat → List Addr, (∀ (i : Nat) (d : D), ρ[i]? = some (some d) → ∃ v, σ[i]? = some (some v) ∧ Rep K P M B H v d (F i)) ∧
    (∀ (i : Nat) (a : Addr), a ∈ F i → a ∈ M ∧ a ∉ B) ∧ (∀ i : Nat, (F i).Nodup) ∧ ∀ (i j : Nat) (a : Addr), a ∈ F i → a ∈ F j → i = j
/-- a good value: T are temporary lists that it may have taken over -/
def Res (K : PySem.W.Frag) (P : Pens) (M B T : List Addr) (H : Hp) (Q0 : D → Prop) : V → Hp → Prop := fun v H' =>
  ∃ c Lr, Q0 c ∧ Gr P.as H H' ∧ PensOk P (Lr ++ M) H' ∧ Rep K P (Lr ++ M) (Lr ++ B) H' v c Lr ∧ Lr.Nodup ∧ ∀ a ∈ Lr, H a = none ∨ a ∈ T
def ResA (K : PySem.W.Frag) (P : Pens) (M B : List Addr) (H : Hp) (Q0 : List D → Prop) : List V → Hp → Prop := fun vs H' =>
  ∃ cs Lr, Q0 cs ∧ Gr P.as H H' ∧ PensOk P (Lr ++ M) H' ∧ Reps K P (Lr ++ M) (Lr ++ B) H' vs cs Lr ∧ Lr.Nodup ∧ ∀ a ∈ Lr, H a = none

abbrev DT := Env → (D → Prop) → Prop
abbrev DTA := Env → (List D → Prop) → Prop
def lift (K : PySem.W.Frag) (t : DT) : TE := fun σ H Q => ∃ P M B ρ Q0, Stt P M B H ∧ Slots K P M B H σ ρ ∧ t ρ Q0 ∧ ∀ v H', Res K P M B [] H Q0 v H' → Q v H'
def liftA (K : PySem.W.Frag) (t : DTA) : TA := fun σ H Q => ∃ P M B ρ Q0, Stt P M B H ∧ Slots K P M B H σ ρ ∧ t ρ Q0 ∧ ∀ v H', ResA K P M B H Q0 v H' → Q v H'
def liftT (K : PySem.W.Frag) (t : Env → (Bool → Prop) → Prop) : TT := fun σ H Q => ∃ P M B ρ Q0, Stt P M B H ∧ Slots K P M B H σ ρ ∧ t ρ Q0 ∧
  ∀ b H', Q0 b → Gr P.as H H' → PensOk P M H' → Q b H'

section
variable {K : PySem.W.Frag} {P : Pens} {M M' B B' T L Lr : List Addr} {H H' : Hp} {σ : Sg} {ρ : Env} {v : V} {d : D}
theorem Stt.lists (s : Stt P M B H) : ∀ b ∈ P.as, ∃ ys, H b = some (.lst ys) := fun _ hb => s.pens.lst hb
theorem new_or {Lr M : List Addr} (h : ∀ a ∈ Lr, H a = none) : ∀ a ∈ Lr ++ M, a ∈ M ∨ H a = none := fun a z =>
  (List.mem_append.mp z).elim (fun q => .inr (h a q)) .inl
theorem Gr.trk (g : Gr P.as H H') (h : PensOk P M' H') {a : Addr} (ha : H a ≠ none) : H' a ≠ none := fun z => ha (g.nil h z)
theorem Stt.trk (s : Stt P M B H) : ∀ a ∈ M, H a ≠ none := fun a z => by
  obtain ⟨xs, e⟩ := s.ls a z
  rw [e]; intro q; cases q
theorem Stt.np (s : Stt P M B H) : ∀ a ∈ M, a ∉ P.as := fun a z q => by
  obtain ⟨l, hl⟩ := Pens.mem q
  exact (s.pens a l hl).1 z
/-- behind an expression -/
theorem Stt.after (s : Stt P M B H) (g : Gr P.as H H') (p : PensOk P (Lr ++ M) H') (own : ∀ a ∈ Lr, ∃ xs, H' a = some (.lst xs)) : Stt P (Lr ++ M) (Lr ++ B) H' :=
  ⟨p, sub_app s.sub, fun a z => (List.mem_append.mp z).elim (own a) fun q => by
    obtain ⟨xs, e⟩ := s.ls a q
    exact ⟨xs, g a _ e (s.np a q)⟩, fun x z => g.tab _ _ z (s.tabs x z)⟩
theorem Slots.after (s : Stt P M B H) (h : Slots K P M B H σ ρ) (g : Gr P.as H H') (n : ∀ a ∈ Lr, H a = none) : Slots K P (Lr ++ M) (Lr ++ B) H' σ ρ := by
  obtain ⟨hl, F, h1, h2, h3, h4⟩ := h
  refine ⟨hl, F, fun i d e => ?_, fun i a z => ⟨List.mem_append_right _ (h2 i a z).1, fun q => ?_⟩, h3, h4⟩
  · obtain ⟨v, e1, r⟩ := h1 i d e
    exact ⟨v, e1, Rep.gr g s.lists (new_or n) (new_or n) r⟩
  · rcases List.mem_append.mp q with q | q
    · exact s.trk a (h2 i a z).1 (n a q)
    · exact (h2 i a z).2 q
theorem Slots.get (h : Slots K P M B H σ ρ) {i : Nat} (e : ρ[i]? = some (some d)) : ∃ v L, σ[i]? = some (some v) ∧ Rep K P M B H v d L ∧ (∀ a ∈ L, a ∈ M ∧ a ∉ B) ∧ L.Nodup := by
  obtain ⟨_, F, h1, h2, h3, h4⟩ := h
  obtain ⟨v, e1, r⟩ := h1 i d e
  exact ⟨v, F i, e1, r, fun a z => h2 i a z, h3 i⟩
/-- a value that owns nothing, at the heap as it stands -/
theorem Res.same {Q0 : D → Prop} (s : Stt P M B H) (r : Rep K P M B H v d []) (q : Q0 d) : Res K P M B T H Q0 v H :=
  ⟨d, [], q, Gr.refl, s.pens, r, List.nodup_nil, fun _ z => nomatch z⟩
end

/-! ### operations by values -/
/-- values handed to an operation: L the temporary lists -/
structure Args (K : PySem.W.Frag) (P : Pens) (M B : List Addr) (H : Hp) (vs : List V) (ds : List D) (L : List Addr) : Prop where
  stt : Stt P (L ++ M) (L ++ B) H
  reps : Reps K P (L ++ M) (L ++ B) H vs ds L
  nd : L.Nodup
  sub : ∀ a ∈ B, a ∈ M
  out : ∀ a ∈ L, a ∉ M
abbrev DO := List D → (D → Prop) → Prop
def rC (K : PySem.W.Frag) (o : DO) : List V → Hp → VK → Prop := fun vs H Q => ∃ P M B ds L Q0, Args K P M B H vs ds L ∧ o ds Q0 ∧ ∀ v H', Res K P M B L H Q0 v H' → Q v H'
def rD (K : PySem.W.Frag) (o : DO) : R2 := fun x y H Q => rC K o [x, y] H Q
def dBin (o : DO) (ta tb : DT) : DT := fun ρ Q => ta ρ fun x => tb ρ fun y => o [x, y] Q
def dUn (o : DO) (ta : DT) : DT := fun ρ Q => ta ρ fun x => o [x] Q
def dCall (o : DO) (ta : DTA) : DT := fun ρ Q => ta ρ fun xs => o xs Q
section
variable {K : PySem.W.Frag} {P : Pens} {M B L L1 L2 L' Lr : List Addr} {H H' : Hp} {σ : Sg} {ρ : Env} {v : V} {d : D} {vs vs' : List V} {ds ds' : List D} {Q0 : D → Prop}
theorem Rep.trk (r : Rep K P M B H v d L) : ∀ a ∈ L, H a ≠ none := fun a z => by
  obtain ⟨⟨xs, e⟩, _⟩ := Rep.own r a z
  rw [e]; intro q; cases q
theorem Reps.trk (r : Reps K P M B H vs ds L) : ∀ a ∈ L, H a ≠ none := fun a z => by
  obtain ⟨⟨xs, e⟩, _⟩ := Reps.own r a z
  rw [e]; intro q; cases q
/-- the arguments have been evaluated -/
theorem Args.of (s : Stt P M B H) (g : Gr P.as H H') (p : PensOk P (L ++ M) H') (r : Reps K P (L ++ M) (L ++ B) H' vs ds L) (n : L.Nodup) (f : ∀ a ∈ L, H a = none) : Args K P M B H' vs ds L :=
  ⟨s.after g p fun a z => (Reps.own r a z).1, r, n, s.sub, fun a z q => s.trk a q (f a z)⟩
theorem Args.base (A : Args K P M B H vs ds L) : Stt P M B H :=
  ⟨A.stt.pens.grow fun a z => .inl (List.mem_append_right _ z), A.sub, fun a z => A.stt.ls a (List.mem_append_right _ z), A.stt.tabs⟩
/-- what follows an operation follows the whole -/
theorem Res.back {H1 : Hp} {M' : List Addr} (r : Res K P M B L H' Q0 v H1) (g : Gr P.as H H') (p : PensOk P M' H') (f : ∀ a ∈ L, H a = none) : Res K P M B [] H Q0 v H1 := by
  obtain ⟨c, Lr, q0, g', p', r, n, f'⟩ := r
  refine ⟨c, Lr, q0, g.trans g', p', r, n, fun a z => .inl ?_⟩
  rcases f' a z with q | q
  · exact g.nil p q
  · exact f a q
theorem lift_call {o : DO} {ta : DTA} {Q : VK} (h : lift K (dCall o ta) σ H Q) : liftA K ta σ H fun vs H1 => rC K o vs H1 Q := by
  obtain ⟨P, M, B, ρ, Q0, s, sl, t, k⟩ := h
  refine ⟨P, M, B, ρ, _, s, sl, t, fun vs H1 r1 => ?_⟩
  obtain ⟨ds, L, t1, g1, p1, r1, n1, f1⟩ := r1
  exact ⟨P, M, B, ds, L, Q0, Args.of s g1 p1 r1 n1 f1, t1, fun v H' r => k v H' (Res.back (M' := L ++ M) r g1 p1 f1)⟩
theorem lift_un {o : DO} {ta : DT} {Q : VK} (h : lift K (dUn o ta) σ H Q) : lift K ta σ H fun v H1 => rC K o [v] H1 Q := by
  obtain ⟨P, M, B, ρ, Q0, s, sl, t, k⟩ := h
  refine ⟨P, M, B, ρ, _, s, sl, t, fun v H1 r1 => ?_⟩
  obtain ⟨d, L, t1, g1, p1, r1, n1, f1⟩ := r1
  have f1 : ∀ a ∈ L, H a = none := fun a z => (f1 a z).elim id fun q => nomatch q
  refine ⟨P, M, B, [d], L ++ [], Q0, ?_, t1, fun v H' r => k v H' (Res.back (M' := L ++ M) r g1 p1 ?_)⟩
  · rw [List.append_nil]
    have r' := Reps.cons r1 .nil
    rw [List.append_nil] at r'
    exact Args.of s g1 p1 r' n1 f1
  · rw [List.append_nil]; exact f1
theorem liftA_nil {Q : List V → Hp → Prop} (h : liftA K (fun _ Q => Q []) σ H Q) : tNil σ H Q := by
  obtain ⟨P, M, B, ρ, Q0, s, sl, t, k⟩ := h
  exact k [] H ⟨[], [], t, Gr.refl, s.pens, .nil, List.nodup_nil, fun _ z => nomatch z⟩
theorem mem3 {A B C : List Addr} {a : Addr} : a ∈ B ++ (A ++ C) ↔ a ∈ (A ++ B) ++ C := by
  simp only [List.mem_append]
  constructor
  · rintro (h | h | h)
    · exact .inl (.inr h)
    · exact .inl (.inl h)
    · exact .inr h
  · rintro ((h | h) | h)
    · exact .inr (.inl h)
    · exact .inl h
    · exact .inr (.inr h)
theorem nodup_app {A B : List Addr} (h1 : A.Nodup) (h2 : B.Nodup) (d : ∀ a ∈ A, a ∉ B) : (A ++ B).Nodup :=
  List.nodup_append.mpr ⟨h1, h2, fun a z b q e => d a z (e ▸ q)⟩
theorem liftA_cons {te : DT} {tr : DTA} {Q : List V → Hp → Prop} (h : liftA K (fun ρ Q => te ρ fun x => tr ρ fun xs => Q (x :: xs)) σ H Q) : tCons (lift K te) (liftA K tr) σ H Q := by
  obtain ⟨P, M, B, ρ, Q0, s, sl, t, k⟩ := h
  refine ⟨P, M, B, ρ, _, s, sl, t, fun x H1 r1 => ?_⟩
  obtain ⟨d, L1, t1, g1, p1, r1, n1, f1⟩ := r1
  have f1 : ∀ a ∈ L1, H a = none := fun a z => (f1 a z).elim id fun q => nomatch q
  have s1 := s.after g1 p1 fun a z => (Rep.own r1 a z).1
  refine ⟨P, L1 ++ M, L1 ++ B, ρ, _, s1, sl.after s g1 f1, t1, fun xs H2 r2 => ?_⟩
  obtain ⟨ds, L2, t2, g2, p2, r2, n2, f2⟩ := r2
  have r1' := Rep.gr g2 s1.lists (new_or f2) (new_or f2) r1
  refine k _ _ ⟨d :: ds, L1 ++ L2, t2, g1.trans g2, p2.grow fun a z => .inl (mem3.mpr z), ?_, nodup_app n1 n2 fun a z q => r1.trk a z (f2 a q), fun a z => ?_⟩
  · exact .cons (Rep.sub (fun a z => mem3.mpr z) (fun a z => mem3.mpr z) r1') (Reps.sub (fun a z => mem3.mpr z) (fun a z => mem3.mpr z) r2)
  · rcases List.mem_append.mp z with z | z
    · exact f1 a z
    · exact g1.nil p1 (f2 a z)
theorem lift_bin {o : DO} {ta tb : DT} {Q : VK} (h : lift K (dBin o ta tb) σ H Q) : tOp (rD K o) (lift K ta) (lift K tb) σ H Q := by
  obtain ⟨P, M, B, ρ, Q0, s, sl, t, k⟩ := h
  refine ⟨P, M, B, ρ, _, s, sl, t, fun x H1 r1 => ?_⟩
  obtain ⟨d, L1, t1, g1, p1, r1, n1, f1⟩ := r1
  have f1 : ∀ a ∈ L1, H a = none := fun a z => (f1 a z).elim id fun q => nomatch q
  have s1 := s.after g1 p1 fun a z => (Rep.own r1 a z).1
  refine ⟨P, L1 ++ M, L1 ++ B, ρ, _, s1, sl.after s g1 f1, t1, fun y H2 r2 => ?_⟩
  obtain ⟨e, L3, t2, g2, p2, r2, n2, f2⟩ := r2
  have f2 : ∀ a ∈ L3, H1 a = none := fun a z => (f2 a z).elim id fun q => nomatch q
  have r1' := Rep.gr g2 s1.lists (new_or f2) (new_or f2) r1
  have f3 : ∀ a ∈ L1 ++ (L3 ++ []), H a = none := fun a z => by
    rw [List.append_nil] at z
    rcases List.mem_append.mp z with z | z
    · exact f1 a z
    · exact g1.nil p1 (f2 a z)
  have r3 : Reps K P ((L1 ++ (L3 ++ [])) ++ M) ((L1 ++ (L3 ++ [])) ++ B) H2 [x, y] [d, e] (L1 ++ (L3 ++ [])) := by
    refine .cons (Rep.sub ?_ ?_ r1') (.cons (Rep.sub ?_ ?_ r2) .nil) <;> (rw [List.append_nil]; exact fun a z => mem3.mpr z)
  exact ⟨P, M, B, [d, e], L1 ++ (L3 ++ []), Q0, Args.of s (g1.trans g2) (p2.grow fun a z => .inl (by rw [List.append_nil] at z; exact mem3.mpr z)) r3
    (by rw [List.append_nil]; exact nodup_app n1 n2 fun a z q => r1.trk a z (f2 a q)) f3, t2, fun v H' r => k v H' (Res.back r (g1.trans g2) p2 f3)⟩

/-! ### results -/
theorem Args.plain (A : Args K P M B H vs ds L) {v : V} {c : D} (r : ∀ {N : List Addr}, Rep K P N N H v c []) (q : Q0 c) : Res K P M B L H Q0 v H :=
  ⟨c, [], q, Gr.refl, A.base.pens, Rep.sub (M := M ++ B) (B := M ++ B) (fun a z => List.mem_append_left _ z) (fun a z => List.mem_append_right _ z) r, List.nodup_nil, fun _ z => nomatch z⟩
theorem in_app {L' L M : List Addr} (hL : ∀ a ∈ L', a ∈ L) : ∀ a ∈ L' ++ M, a ∈ L ++ M := fun a z => by
  rcases List.mem_append.mp z with z | z
  · exact List.mem_append_left _ (hL a z)
  · exact List.mem_append_right _ z
theorem Args.elem (A : Args K P M B H vs ds L) {v : V} {c : D} (r : Rep K P (L ++ M) (L ++ B) H v c L') (hL : ∀ a ∈ L', a ∈ L) (n : L'.Nodup) (q : Q0 c) : Res K P M B L H Q0 v H :=
  ⟨c, L', q, Gr.refl, A.stt.pens.grow fun a z => .inl (in_app hL a z), Rep.sub (in_app hL) (in_app hL) r, n, fun a z => .inr (hL a z)⟩
theorem Args.newl (A : Args K P M B H vs ds L) {p : Addr} (hp : H p = none) (r : Reps K P (L ++ M) (L ++ B) H vs' ds' L') (hL : ∀ a ∈ L', a ∈ L) (n : L'.Nodup) (q : Q0 (.lst .o ds')) : Res K P M B L H Q0 (.ref p) (upd H p (.lst vs')) := by
  have pp : p ∉ P.as := fun z => by
    obtain ⟨ys, e⟩ := A.stt.lists p z
    rw [e] at hp; cases hp
  have hM : ∀ {M : List Addr}, ∀ a ∈ (p :: L') ++ M, a ∈ L ++ M ∨ H a = none := fun a z => by
    rcases List.mem_cons.mp z with e | z
    · exact .inr (e ▸ hp)
    · exact .inl (in_app hL a z)
  refine ⟨.lst .o ds', p :: L', q, Gr.laid hp, (A.stt.pens.grow hM).laid hp, .lstO upd_same pp (Reps.gr (Gr.laid hp) A.stt.lists hM hM r), List.nodup_cons.mpr ⟨fun z => A.stt.trk p (List.mem_append_left _ (hL p z)) hp, n⟩, fun a z => ?_⟩
  rcases List.mem_cons.mp z with e | z
  · exact .inl (e ▸ hp)
  · exact .inr (hL a z)
theorem Args.newt (A : Args K P M B H vs ds L) {p : Addr} (hp : H p = none) (r : Reps K P (L ++ M) (L ++ B) H vs' ds' L') (hL : ∀ a ∈ L', a ∈ L) (n : L'.Nodup) (q : Q0 (.tup ds')) : Res K P M B L H Q0 (.ref p) (upd H p (.tup vs')) := by
  have hM : ∀ {M : List Addr}, ∀ a ∈ L' ++ M, a ∈ L ++ M ∨ H a = none := fun a z => .inl (in_app hL a z)
  exact ⟨.tup ds', L', q, Gr.laid hp, (A.stt.pens.grow hM).laid hp, .tup (SqT.of upd_same) (Reps.gr (Gr.laid hp) A.stt.lists hM hM r), n, fun a z => .inr (hL a z)⟩
end
end DL
set_option maxHeartbeats 4000000
set_option exponentiation.threshold 50000
namespace DL
open PySem PySem.Spec PyProof.Rows L2
variable [Tb]

/-! ### data as PyData -/
mutual
def D.py : D → PyData
  | .non => .none
  | .bl b => .bool b
  | .int i => .int i
  | .str x => .str x
  | .pen => .none
  | .tup xs => .tuple (D.pys xs)
  | .lst _ xs => .list (D.pys xs)
def D.pys : List D → List PyData
  | [] => []
  | x :: xs => D.py x :: D.pys xs
end
/-- data of at most so many storeys, no pen in it, its texts not too long -/
def Sh : Nat → D → Prop
  | _, .non => True
  | _, .bl _ => True
  | _, .int _ => True
  | _, .str x => PyData.strOk x = true
  | _, .pen => False
  | 0, .tup _ => False
  | 0, .lst _ _ => False
  | n + 1, .tup xs => ∀ x ∈ xs, Sh n x
  | n + 1, .lst _ xs => ∀ x ∈ xs, Sh n x
section
variable {K : PySem.W.Frag} {P : Pens} {M B : List Addr} {H : Hp}
mutual
theorem Rep.dp : ∀ {v : V} {d : D} {L : List Addr} {n : Nat}, Rep K P M B H v d L → Sh n d → Dp K H v d.py
  | _, _, _, _, .non, _ => .non
  | _, _, _, _, .bl, _ => .bl _
  | _, _, _, _, .int, _ => .int _
  | _, _, _, _, .str, _ => .str _
  | _, _, _, _, .pen _, s => by unfold Sh at s; exact s.elim
  | _, _, _, 0, .tup _ _, s => by unfold Sh at s; exact s.elim
  | _, _, _, n + 1, .tup h r, s => .tup h (Reps.dp r (by simpa [Sh] using s))
  | _, _, _, 0, .lstF _ _ _, s => by unfold Sh at s; exact s.elim
  | _, _, _, n + 1, .lstF h r p, s => .lst h.sq (Reps.dp r (by simpa [Sh] using s))
  | _, _, _, 0, .lstB _ _, s => by unfold Sh at s; exact s.elim
  | _, _, _, n + 1, .lstB h r, s => .lst h.sq (Reps.dp r (by simpa [Sh] using s))
  | _, _, _, 0, .lstO _ _ _, s => by unfold Sh at s; exact s.elim
  | _, _, _, n + 1, .lstO h _ r, s => .lst (SqL.of h) (Reps.dp r (by simpa [Sh] using s))
theorem Reps.dp : ∀ {vs : List V} {ds : List D} {L : List Addr} {n : Nat}, Reps K P M B H vs ds L → (∀ x ∈ ds, Sh n x) → DpAll K H vs (D.pys ds)
  | _, _, _, _, .nil, _ => .nil
  | _, _, _, _, .cons h r, s => .cons (Rep.dp h (s _ (List.mem_cons_self ..))) (Reps.dp r fun x z => s x (List.mem_cons_of_mem _ z))
end
end
theorem Sh.lay : ∀ {n : Nat} {d : D}, Sh n d → d.py.canLay0 = true ∧ d.py.depth ≤ n
  | _, .non, _ => ⟨rfl, by simp [D.py, PyData.depth]⟩
  | _, .bl _, _ => ⟨rfl, by simp [D.py, PyData.depth]⟩
  | _, .int _, _ => ⟨rfl, by simp [D.py, PyData.depth]⟩
  | _, .str _, s => ⟨by simpa [D.py, PyData.canLay0, Sh] using s, by simp [D.py, PyData.depth]⟩
  | _, .pen, s => by unfold Sh at s; exact s.elim
  | 0, .tup _, s => by unfold Sh at s; exact s.elim
  | 0, .lst _ _, s => by unfold Sh at s; exact s.elim
  | n + 1, .tup xs, s => by
    have s' : ∀ x ∈ xs, Sh n x := by simpa [Sh] using s
    have go : ∀ ys : List D, (∀ x ∈ ys, Sh n x) → PyData.canLayAll0 (D.pys ys) = true ∧ PyData.depthAll (D.pys ys) ≤ n := by
      intro ys
      induction ys with
      | nil => intro _; exact ⟨rfl, by simp [D.pys, PyData.depthAll]⟩
      | cons y r ih =>
        intro h
        obtain ⟨a, b⟩ := Sh.lay (h y (List.mem_cons_self ..))
        obtain ⟨c, e⟩ := ih fun x z => h x (List.mem_cons_of_mem _ z)
        refine ⟨by simp [D.pys, PyData.canLayAll0, a, c], ?_⟩
        simp only [D.pys, PyData.depthAll]
        omega
    obtain ⟨a, b⟩ := go xs s'
    refine ⟨by simpa [D.py, PyData.canLay0] using a, ?_⟩
    simp only [D.py, PyData.depth]
    omega
  | n + 1, .lst _ xs, s => by
    have s' : ∀ x ∈ xs, Sh n x := by simpa [Sh] using s
    have go : ∀ ys : List D, (∀ x ∈ ys, Sh n x) → PyData.canLayAll0 (D.pys ys) = true ∧ PyData.depthAll (D.pys ys) ≤ n := by
      intro ys
      induction ys with
      | nil => intro _; exact ⟨rfl, by simp [D.pys, PyData.depthAll]⟩
      | cons y r ih =>
        intro h
        obtain ⟨a, b⟩ := Sh.lay (h y (List.mem_cons_self ..))
        obtain ⟨c, e⟩ := ih fun x z => h x (List.mem_cons_of_mem _ z)
        refine ⟨by simp [D.pys, PyData.canLayAll0, a, c], ?_⟩
        simp only [D.pys, PyData.depthAll]
        omega
    obtain ⟨a, b⟩ := go xs s'
    refine ⟨by simpa [D.py, PyData.canLay0] using a, ?_⟩
    simp only [D.py, PyData.depth]
    omega
theorem Sh.shaped {d : D} (h : Sh 60 d) : SeqAt.shaped d.py = true := by
  obtain ⟨a, b⟩ := h.lay
  unfold SeqAt.shaped
  rw [a, Bool.true_and]
  exact decide_eq_true (by omega)
/-- == of data -/
def eqD (x y : D) : Bool := PyData.eqv x.py y.py
end DL

namespace DL
open PySem PySem.Spec PyProof.Rows L2
variable [Tb]
/-- a bound for factors -/
def BIG : Nat := 2 ^ 40000
theorem big_of {i : Int} {n : Nat} (h : i.natAbs < 2 ^ n) (hn : n ≤ 40000) : i.natAbs < BIG := Nat.lt_of_lt_of_le h (Nat.pow_le_pow_right (by decide) hn)
def MulOk (i j : Int) : Prop := i.natAbs < BIG ∧ j.natAbs < BIG
theorem MulOk.w {i j : Int} (h : MulOk i j) : CMulW i j := wide_mul (a := 40000) (b := 40000) h.1 h.2 (by decide) (by decide) (by decide)
def DivOk (j : Int) : Prop := 0 < j ∧ j.natAbs < 2 ^ 2000
theorem DivOk.w {i j : Int} (h : DivOk j) : CDivW i j := wide_div (b := 2000) h.1 h.2 (by decide) (by decide)
abbrev D2 := D → D → (D → Prop) → Prop
abbrev D1 := D → (D → Prop) → Prop
def o2 (f : D2) : DO := fun ds Q => match ds with
  | [x, y] => f x y Q
  | _ => False
def o1 (f : D1) : DO := fun ds Q => match ds with
  | [x] => f x Q
  | _ => False
def addD : D2
  | .int i, .int j, Q => Q (.int (i + j))
  | .int i, .bl k, Q => Q (.int (i + b2i k))
  | .str a, .str b, Q => a.length + b.length ≤ sizeLine ∧ Q (.str (a ++ b))
  | .lst _ xs, .lst _ ys, Q => xs.length + ys.length ≤ sizeLine ∧ Q (.lst .o (xs ++ ys))
  | .tup xs, .tup ys, Q => xs ≠ [] ∧ ys ≠ [] ∧ xs.length + ys.length ≤ sizeLine ∧ Q (.tup (xs ++ ys))
  | _, _, _ => False
def subD : D2
  | .int i, .int j, Q => Q (.int (i - j))
  | _, _, _ => False
def mulD : D2
  | .int i, .int j, Q => MulOk i j ∧ Q (.int (i * j))
  | .lst .o xs, .int k, Q => D.pfs xs = true ∧ 0 ≤ k ∧ k < 2 ^ 63 ∧ xs.length * k.toNat ≤ sizeLine ∧ Q (.lst .o (List.replicate k.toNat xs).flatten)
  | _, _, _ => False
def fdivD : D2
  | .int i, .int j, Q => DivOk j ∧ Q (.int (i / j))
  | _, _, _ => False
def modD : D2
  | .int i, .int j, Q => 0 < j ∧ Q (.int (i % j))
  | _, _, _ => False
def powD : D2
  | .int i, .int j, Q => 0 ≤ j ∧ j ≤ 1000 ∧ i.natAbs < 2 ^ 64 ∧ Q (.int (i ^ j.toNat))
  | _, _, _ => False
def negD : D1
  | .int i, Q => Q (.int (-i))
  | _, _ => False
def eqO (f : Bool → Bool) : D2 := fun x y Q => Sh 60 x ∧ Sh 60 y ∧ Q (.bl (f (eqD x y)))
def ordO (p : Int → Int → Bool) : D2
  | .int i, .int j, Q => Q (.bl (p i j))
  | _, _, _ => False
def inO (f : Bool → Bool) : D2
  | x, .lst _ ys, Q => Sh 60 x ∧ (∀ y ∈ ys, Sh 58 y) ∧ Q (.bl (f (ys.any fun z => eqD z x)))
  | x, .tup ys, Q => Sh 60 x ∧ (∀ y ∈ ys, Sh 58 y) ∧ Q (.bl (f (ys.any fun z => eqD z x)))
  | .str c, .str z, Q => c.cps.size = 1 ∧ Q (.bl (f (decide (c.cps.getD 0 0 ∈ z.cps.toList))))
  | _, _, _ => False
def isN : D → Bool
  | .non => true
  | _ => false
def isO (f : Bool → Bool) : D2
  | x, .non, Q => Q (.bl (f (isN x)))
  | _, _, _ => False
def ixD : D2
  | .lst _ xs, .int i, Q => (match atI xs i with | some d => Q d | none => False)
  | .tup xs, .int i, Q => (match atI xs i with | some d => Q d | none => False)
  | .str z, .int i, Q => z.length ≤ sizeLine ∧ (match atI z.cps.toList i with | some c => Q (.str ⟨#[c]⟩) | none => False)
  | _, _, _ => False

section
variable {K : PySem.W.Frag} {P : Pens} {M B L : List Addr} {H : Hp}
theorem v1 {vs : List V} {d : D} (h : Reps K P M B H vs [d] L) : ∃ v, vs = [v] ∧ Rep K P M B H v d L := by
  cases h with
  | cons h r =>
    cases r
    rw [List.append_nil]
    exact ⟨_, rfl, h⟩
theorem v2 {vs : List V} {d e : D} (h : Reps K P M B H vs [d, e] L) : ∃ v u L1 L3, vs = [v, u] ∧ L = L1 ++ L3 ∧ Rep K P M B H v d L1 ∧ Rep K P M B H u e L3 := by
  cases h with
  | cons h r =>
    obtain ⟨u, eu, ru⟩ := v1 r
    subst eu
    exact ⟨_, _, _, _, rfl, rfl, h, ru⟩
theorem Rep.int_inv {v : V} {i : Int} (h : Rep K P M B H v (.int i) L) : v = .int i ∧ L = [] := by cases h; exact ⟨rfl, rfl⟩
theorem Rep.bl_inv {v : V} {i : Bool} (h : Rep K P M B H v (.bl i) L) : v = .bl i ∧ L = [] := by cases h; exact ⟨rfl, rfl⟩
theorem Rep.str_inv {v : V} {i : Str} (h : Rep K P M B H v (.str i) L) : v = .str i ∧ L = [] := by cases h; exact ⟨rfl, rfl⟩
theorem Rep.non_inv {v : V} (h : Rep K P M B H v .non L) : v = .non ∧ L = [] := by cases h; exact ⟨rfl, rfl⟩
theorem Rep.tup_inv {v : V} {ds : List D} (h : Rep K P M B H v (.tup ds) L) : ∃ a vs, v = .ref a ∧ SqT K H a vs ∧ Reps K P M B H vs ds L := by cases h; exact ⟨_, _, rfl, by assumption, by assumption⟩
/-- a list, whatever its standing -/
theorem Rep.lst_inv {v : V} {k : Fl} {ds : List D} (h : Rep K P M B H v (.lst k ds) L) : ∃ a vs L', v = .ref a ∧ SqL K H a vs ∧ Reps K P M B H vs ds L' ∧ (L' = L ∨ L = a :: L') := by
  cases h with
  | lstF h r p => exact ⟨_, _, _, rfl, h.sq, r, .inl rfl⟩
  | lstB h r => exact ⟨_, _, _, rfl, h.sq, r, .inl rfl⟩
  | lstO h n r => exact ⟨_, _, _, rfl, SqL.of h, r, .inr rfl⟩
theorem nodup_tl {a : Addr} {L L' : List Addr} (h : L' = L ∨ L = a :: L') (n : L.Nodup) : L'.Nodup ∧ ∀ b ∈ L', b ∈ L := by
  rcases h with e | e
  · subst e; exact ⟨n, fun _ z => z⟩
  · subst e; exact ⟨(List.nodup_cons.mp n).2, fun _ z => List.mem_cons_of_mem _ z⟩
theorem Rep.nodup_sub {d : D} {ds : List D} {vs : List V} {i : Nat} (h : Reps K P M B H vs ds L) (n : L.Nodup) (e : ds[i]? = some d) : ∃ v L1, vs[i]? = some v ∧ Rep K P M B H v d L1 ∧ (∀ a ∈ L1, a ∈ L) ∧ L1.Nodup := by
  induction i generalizing vs ds L with
  | zero =>
    cases h with
    | nil => simp at e
    | cons h r =>
      simp at e
      subst e
      exact ⟨_, _, rfl, h, fun a z => List.mem_append_left _ z, (List.nodup_append.mp n).1⟩
  | succ i ih =>
    cases h with
    | nil => simp at e
    | cons h r =>
      obtain ⟨v, L1, e1, q, s, m⟩ := ih r (List.nodup_append.mp n).2.1 (by simpa using e)
      exact ⟨v, L1, by simpa using e1, q, fun a z => List.mem_append_right _ (s a z), m⟩
end
section
variable {X : Cx}
abbrev Two (X : Cx) (f : D2) (r : R2) : Prop := ∀ (x y : V) (H : Hp) (Q : VK) (P : Pens) (M B : List Addr) (d e : D) (L1 L3 : List Addr) (Q0 : D → Prop), Args X.K P M B H [x, y] [d, e] (L1 ++ L3) →
  Rep X.K P ((L1 ++ L3) ++ M) ((L1 ++ L3) ++ B) H x d L1 → Rep X.K P ((L1 ++ L3) ++ M) ((L1 ++ L3) ++ B) H y e L3 → f d e Q0 → (∀ v H', Res X.K P M B (L1 ++ L3) H Q0 v H' → Q v H') → r x y H Q
theorem to2 {f : D2} {x y : V} {H : Hp} {Q : VK} {R : Prop} (h : rD X.K (o2 f) x y H Q) (k : ∀ (P : Pens) (M B : List Addr) (d e : D) (L1 L3 : List Addr) (Q0 : D → Prop), Args X.K P M B H [x, y] [d, e] (L1 ++ L3) →
  Rep X.K P ((L1 ++ L3) ++ M) ((L1 ++ L3) ++ B) H x d L1 → Rep X.K P ((L1 ++ L3) ++ M) ((L1 ++ L3) ++ B) H y e L3 → f d e Q0 → (∀ v H', Res X.K P M B (L1 ++ L3) H Q0 v H' → Q v H') → R) : R := by
  obtain ⟨P, M, B, ds, L, Q0, A, q, kk⟩ := h
  unfold o2 at q
  split at q
  · rename_i d e
    obtain ⟨x', y', L1, L3, e0, rfl, r1, r2⟩ := v2 A.reps
    injection e0 with e1 e2; injection e2 with e2 _; subst e1 e2
    exact k P M B d e L1 L3 Q0 A r1 r2 q kk
  · exact q.elim
theorem opr {f : Value → Value → Sem Value} {o : D2} {r : R2} (hr : OpR X f r) (h : Two X o r) : OpR X f (rD X.K (o2 o)) := by
  intro pins s σ H x y v u Q I rx ry h0
  exact to2 h0 fun P M B d e L1 L3 Q0 A r1 r2 q k => hr pins s σ H x y v u Q I rx ry (h x y H Q P M B d e L1 L3 Q0 A r1 r2 q k)
theorem op_addD : OpR X (binaryOp .Add) (rD X.K (o2 addD)) := by
  intro pins s σ H x y v u Q I rx ry h0
  refine to2 h0 fun P M B d e L1 L3 Q0 A r1 r2 o k => ?_
  unfold addD at o
  split at o
  · obtain ⟨rfl, rfl⟩ := r1.int_inv
    obtain ⟨rfl, rfl⟩ := r2.int_inv
    exact op_add pins s σ H _ _ v u Q I rx ry ⟨_, _, rfl, rfl, k _ _ (A.plain (fun {_} => .int) o)⟩
  · obtain ⟨rfl, rfl⟩ := r1.int_inv
    obtain ⟨rfl, rfl⟩ := r2.bl_inv
    exact op_add_ib pins s σ H _ _ v u Q I rx ry ⟨_, _, rfl, rfl, k _ _ (A.plain (fun {_} => .int) o)⟩
  · obtain ⟨rfl, rfl⟩ := r1.str_inv
    obtain ⟨rfl, rfl⟩ := r2.str_inv
    exact op_add_str pins s σ H _ _ v u Q I rx ry ⟨_, _, rfl, rfl, o.1, k _ _ (A.plain (fun {_} => .str) o.2)⟩
  · obtain ⟨a, vs, L1', rfl, h1, r1, c1⟩ := r1.lst_inv
    obtain ⟨b, ws, L3', rfl, h2, r2, c2⟩ := r2.lst_inv
    have nd := List.nodup_append.mp A.nd
    obtain ⟨n1, s1⟩ := nodup_tl c1 nd.1
    obtain ⟨n2, s2⟩ := nodup_tl c2 nd.2.1
    cases rx
    cases ry
    obtain ⟨its, q1, ⟨ob1, m1, e1, f1, _, g1⟩, z1⟩ := I.list h1
    obtain ⟨its2, q2, ⟨ob2, m2, e2, f2, _, g2⟩, z2⟩ := I.list h2
    obtain ⟨cls, dd, data, sl⟩ := ob1
    obtain ⟨cls2, dd2, data2, sl2⟩ := ob2
    simp only at f1 g1 f2 g2
    subst f1 g1 f2 g2
    have hz : its.length + its2.length ≤ sizeLine := by rw [← q1.length, ← q2.length, r1.len, r2.len]; exact o.1
    refine concat_meets ⟨_, e1, rfl⟩ ⟨_, e2, rfl⟩ noFill_list_add seq_list_add PySem.F.slot_list_add PySem.F.entry_list_add (PySem.F.args_list_add_2 _ _) (list_addW a b its.toArray its2.toArray m1 m2 dd dd2 sl sl2 (by simpa using hz)) ⟨e1, e2, ?_⟩
    have ee : its.toArray ++ its2.toArray = (its ++ its2).toArray := by simp
    rw [ee]
    exact ⟨.ref _, _, I.lnew (t' := s.toks) (q1.append q2) (by rw [List.length_append, q1.length, q2.length]; exact hz), rfl,
      k _ _ (A.newl I.fresh (r1.app r2) (fun c z => (List.mem_append.mp z).elim (fun q => List.mem_append_left _ (s1 c q)) fun q => List.mem_append_right _ (s2 c q))
        (nodup_app n1 n2 fun c z q => nd.2.2 c (s1 c z) c (s2 c q) rfl) o.2)⟩
  · obtain ⟨a, vs, rfl, h1, r1⟩ := r1.tup_inv
    obtain ⟨b, ws, rfl, h2, r2⟩ := r2.tup_inv
    refine op_catT pins s σ H _ _ v u Q I rx ry ⟨a, b, vs, ws, rfl, rfl, h1, h2, ?_, by rw [r1.len, r2.len]; exact o.2.2.1, ?_, ?_⟩
    · intro z; subst z; cases r1; exact o.1 rfl
    · intro z; subst z; cases r2; exact absurd rfl o.2.1
    · intro _ p hp
      exact k _ _ (A.newt hp (r1.app r2) (fun _ z => z) A.nd o.2.2.2)
  · exact o.elim
theorem op_subD : OpR X (binaryOp .Sub) (rD X.K (o2 subD)) := opr op_sub fun x y H Q P M B d e L1 L3 Q0 A r1 r2 q k => by
  unfold subD at q
  split at q
  · obtain ⟨rfl, rfl⟩ := r1.int_inv
    obtain ⟨rfl, rfl⟩ := r2.int_inv
    exact ⟨_, _, rfl, rfl, k _ _ (A.plain (fun {_} => .int) q)⟩
  · exact q.elim
theorem reps_rep {K : PySem.W.Frag} {P : Pens} {M B : List Addr} {H : Hp} {vs : List V} {ds : List D} (r : Reps K P M B H vs ds []) : ∀ n : Nat, Reps K P M B H (List.replicate n vs).flatten (List.replicate n ds).flatten []
  | 0 => .nil
  | n + 1 => by
    rw [List.replicate_succ, List.replicate_succ, List.flatten_cons, List.flatten_cons]
    exact Reps.app (L := []) (L2 := []) r (reps_rep r n)
theorem op_mulD : OpR X (binaryOp .Mult) (rD X.K (o2 mulD)) := by
  intro pins s σ H x y v u Q I rx ry h0
  refine to2 h0 fun P M B d e L1 L3 Q0 A r1 r2 o k => ?_
  unfold mulD at o
  split at o
  · obtain ⟨rfl, rfl⟩ := r1.int_inv
    obtain ⟨rfl, rfl⟩ := r2.int_inv
    exact op_mulW pins s σ H _ _ v u Q I rx ry ⟨_, _, rfl, rfl, o.1.w, k _ _ (A.plain (fun {_} => .int) o.2)⟩
  · obtain ⟨rfl, rfl⟩ := r2.int_inv
    obtain ⟨p0, p1, p2, p3, p4⟩ := o
    cases r1 with
    | lstO h n r =>
      obtain ⟨el, r'⟩ := Reps.pf r p0
      refine op_rep pins s σ H _ _ v u Q I rx ry ⟨_, _, _, rfl, rfl, h, by omega, p2, by rw [r.len]; exact p3, fun p hp => k _ _ (A.newl hp (reps_rep r' _) (fun _ z => nomatch z) List.nodup_nil p4)⟩
  · exact o.elim
theorem op_fdivD : OpR X (binaryOp .FloorDiv) (rD X.K (o2 fdivD)) := opr op_fdivW fun x y H Q P M B d e L1 L3 Q0 A r1 r2 q k => by
  unfold fdivD at q
  split at q
  · obtain ⟨rfl, rfl⟩ := r1.int_inv
    obtain ⟨rfl, rfl⟩ := r2.int_inv
    exact ⟨_, _, rfl, rfl, q.1.w, k _ _ (A.plain (fun {_} => .int) q.2)⟩
  · exact q.elim
theorem op_modD : OpR X (binaryOp .Mod) (rD X.K (o2 modD)) := opr op_mod fun x y H Q P M B d e L1 L3 Q0 A r1 r2 q k => by
  unfold modD at q
  split at q
  · obtain ⟨rfl, rfl⟩ := r1.int_inv
    obtain ⟨rfl, rfl⟩ := r2.int_inv
    exact ⟨_, _, rfl, rfl, q.1, k _ _ (A.plain (fun {_} => .int) q.2)⟩
  · exact q.elim
theorem op_powD : OpR X (binaryOp .Pow) (rD X.K (o2 powD)) := opr op_pow fun x y H Q P M B d e L1 L3 Q0 A r1 r2 q k => by
  unfold powD at q
  split at q
  · obtain ⟨rfl, rfl⟩ := r1.int_inv
    obtain ⟨rfl, rfl⟩ := r2.int_inv
    exact ⟨_, _, rfl, rfl, ⟨q.1, by omega, q.2.2.1⟩, k _ _ (A.plain (fun {_} => .int) q.2.2.2)⟩
  · exact q.elim
theorem ord_i {f : Value → Value → Sem Value} {p : Int → Int → Bool} (hr : OpR X f (rI0 fun i j => .bl (p i j))) : OpR X f (rD X.K (o2 (ordO p))) := opr hr fun x y H Q P M B d e L1 L3 Q0 A r1 r2 q k => by
  unfold ordO at q
  split at q
  · obtain ⟨rfl, rfl⟩ := r1.int_inv
    obtain ⟨rfl, rfl⟩ := r2.int_inv
    exact ⟨_, _, rfl, rfl, k _ _ (A.plain (fun {_} => .bl) q)⟩
  · exact q.elim
theorem op_ltD : OpR X (compareOp .Lt) (rD X.K (o2 (ordO fun i j => decide (i < j)))) := ord_i op_lt
theorem op_leD : OpR X (compareOp .LtE) (rD X.K (o2 (ordO fun i j => decide (i ≤ j)))) := ord_i op_le
theorem op_gtD : OpR X (compareOp .Gt) (rD X.K (o2 (ordO fun i j => decide (j < i)))) := ord_i op_gt
theorem op_geD : OpR X (compareOp .GtE) (rD X.K (o2 (ordO fun i j => decide (j ≤ i)))) := ord_i op_ge
theorem op_eqO (hu : X.A.units + 64 < cLine) : OpR X (compareOp .Eq) (rD X.K (o2 (eqO id))) := opr (op_eqD hu) fun x y H Q P M B d e L1 L3 Q0 A r1 r2 q k => by
  obtain ⟨s1, s2, q⟩ := q
  exact ⟨_, _, r1.dp s1, r2.dp s2, s1.shaped, s2.shaped, k _ _ (A.plain (fun {_} => .bl) q)⟩
theorem op_neO (hu : X.A.units + 64 < cLine) : OpR X (compareOp .NotEq) (rD X.K (o2 (eqO not))) := opr (op_neD hu) fun x y H Q P M B d e L1 L3 Q0 A r1 r2 q k => by
  obtain ⟨s1, s2, q⟩ := q
  exact ⟨_, _, r1.dp s1, r2.dp s2, s1.shaped, s2.shaped, k _ _ (A.plain (fun {_} => .bl) q)⟩
theorem isN_dec {K : PySem.W.Frag} {P : Pens} {M B L : List Addr} {H : Hp} {v : V} {d : D} (h : Rep K P M B H v d L) : decide (v = .non) = isN d := by
  cases h <;> simp [isN]
theorem op_isO : OpR X (compareOp .Is) (rD X.K (o2 (isO id))) := opr op_isN fun x y H Q P M B d e L1 L3 Q0 A r1 r2 q k => by
  unfold isO at q
  split at q
  · obtain ⟨rfl, rfl⟩ := r2.non_inv
    exact ⟨rfl, k _ _ (A.plain (fun {_} => .bl) (by rw [isN_dec r1]; exact q))⟩
  · exact q.elim
theorem op_isnO : OpR X (compareOp .IsNot) (rD X.K (o2 (isO not))) := opr op_notN fun x y H Q P M B d e L1 L3 Q0 A r1 r2 q k => by
  unfold isO at q
  split at q
  · obtain ⟨rfl, rfl⟩ := r2.non_inv
    exact ⟨rfl, k _ _ (A.plain (fun {_} => .bl) (by rw [isN_dec r1]; exact q))⟩
  · exact q.elim
theorem un_negD : UnR X (unaryOp .USub) (fun v H Q => rC X.K (o1 negD) [v] H Q) := by
  intro pins s σ H x v Q I rx h0
  obtain ⟨P, M, B, ds, L, Q0, A, q, k⟩ := h0
  unfold o1 at q
  split at q
  · rename_i d
    obtain ⟨x', e0, r1⟩ := v1 A.reps
    injection e0 with e1 _; subst e1
    unfold negD at q
    split at q
    · obtain ⟨rfl, rfl⟩ := r1.int_inv
      exact un_neg pins s σ H _ v Q I rx ⟨_, rfl, k _ _ (A.plain (fun {_} => .int) q)⟩
    · exact q.elim
  · exact q.elim
theorem at_get {α β : Type} {xs : List α} {ys : List β} (hl : ys.length = xs.length) {i : Int} {d : α} (h : atI xs i = some d) : ∃ j : Nat, xs[j]? = some d ∧ ∀ y, ys[j]? = some y → atI ys i = some y := by
  unfold atI at h ⊢
  cases e : ixN xs.length i with
  | none => rw [e] at h; cases h
  | some j =>
    rw [e] at h
    refine ⟨j, h, fun y hy => ?_⟩
    rw [hl, e]
    exact hy
theorem ix_dD : IxR X (rD X.K (o2 ixD)) := by
  intro value slice pins s σ H x y v u Q I rx ry h0 hs
  refine to2 h0 fun P M B d e L1 L3 Q0 A r1 r2 o k => ?_
  unfold ixD at o
  split at o
  · obtain ⟨rfl, rfl⟩ := r2.int_inv
    obtain ⟨a, vs, L', rfl, h1, r1, c1⟩ := r1.lst_inv
    split at o
    · rename_i e0
      obtain ⟨j, ej, f⟩ := at_get r1.len e0
      obtain ⟨n1, s1⟩ := nodup_tl c1 (List.nodup_append.mp A.nd).1
      obtain ⟨w', L5, e5, r5, s5, n5⟩ := Rep.nodup_sub r1 n1 ej
      exact ix_list value slice pins s σ H _ _ v u Q I rx ry ⟨_, _, _, _, rfl, rfl, h1, f _ e5, k _ _ (A.elem r5 (fun b z => List.mem_append_left _ (s1 b (s5 b z))) n5 o)⟩ hs
    · exact o.elim
  · obtain ⟨rfl, rfl⟩ := r2.int_inv
    obtain ⟨a, vs, rfl, h1, r1⟩ := r1.tup_inv
    split at o
    · rename_i e0
      obtain ⟨j, ej, f⟩ := at_get r1.len e0
      obtain ⟨w', L5, e5, r5, s5, n5⟩ := Rep.nodup_sub r1 (List.nodup_append.mp A.nd).1 ej
      exact ix_tup value slice pins s σ H _ _ v u Q I rx ry ⟨_, _, _, _, rfl, rfl, h1, f _ e5, k _ _ (A.elem r5 (fun b z => List.mem_append_left _ (s5 b z)) n5 o)⟩ hs
    · exact o.elim
  · obtain ⟨rfl, rfl⟩ := r2.int_inv
    obtain ⟨rfl, rfl⟩ := r1.str_inv
    obtain ⟨o1, o⟩ := o
    split at o
    · rename_i e0
      exact ix_str value slice pins s σ H _ _ v u Q I rx ry ⟨_, _, _, rfl, rfl, o1, e0, k _ _ (A.plain (fun {_} => .str) o)⟩ hs
    · exact o.elim
  · exact o.elim
end
end DL
set_option maxHeartbeats 4000000
namespace DL
open PySem PySem.Spec PyProof.Rows L2
variable [Tb]
/-! ### built-ins by values -/
/-- a type's name -/
def tyD : D → String
  | .non => "NoneType"
  | .bl _ => "bool"
  | .int _ => "int"
  | .str _ => "str"
  | .pen => "list"
  | .tup _ => "tuple"
  | .lst _ _ => "list"
section
variable {X : Cx} {pins : List (Addr × Obj)} {σ : Sg} {H : Hp} {s : Shared} {P : Pens} {M B L : List Addr}
theorem Rep.tyx {v : V} {d : D} (st : Stt P M B H) (r : Rep X.K P M B H v d L) : TyX X.K H v (.type (tyD d)) := by
  cases r with
  | non => exact .base .non
  | bl => exact .base (.bl _)
  | int => exact .base (.int _)
  | str => exact .base (.str _)
  | pen h =>
    obtain ⟨_, _, _, ns, i, b, s, e, _⟩ := st.pens _ _ h
    exact .base (.lst e)
  | tup h r =>
    rcases h with (h | ⟨o, h⟩) | ⟨o, its, n, h, c, _⟩
    · exact .base (.tup h)
    · exact .fTuple h
    · exact .kTuple h c
  | lstF h r p =>
    rcases h with ⟨h | ⟨o, h⟩, _⟩ | ⟨o, its, n, h, c, _⟩
    · exact .base (.lst h)
    · exact .base (.frz h)
    · exact .kList h c
  | lstB h r =>
    rcases h with ⟨h | ⟨o, h⟩, _⟩ | ⟨o, its, n, h, c, _⟩
    · exact .base (.lst h)
    · exact .base (.frz h)
    · exact .kList h c
  | lstO h n r => exact .base (.lst h)
end
/-- isinstance(x, one of these) -/
def isiB (t : String) : List String → Option Bool
  | [] => some false
  | c :: cs => match kitB t c with
    | some true => some true
    | some false => isiB t cs
    | none => none
theorem kit_any {K : PySem.W.Frag} {t : String} : ∀ {cs : List String} {b : Bool}, isiB t cs = some b → PySem.W.kitAny K (.type t) (cs.map Value.type) = some b
  | [], b, h => by
    have e : false = b := Option.some.inj h
    subst e
    rfl
  | c :: cs, b, h => by
    unfold isiB at h
    cases e : kitB t c with
    | none => rw [e] at h; cases h
    | some k =>
      rw [e] at h
      cases k with
      | true =>
        have e2 : true = b := Option.some.inj h
        exact kitAny_cons (kit_ty e) (fun z => nomatch z) (fun _ => e2.symm)
      | false => exact kitAny_cons (kit_ty e) (fun _ => kit_any h) (fun z => nomatch z)
/-- isinstance with one class, with a tuple of classes; the classes are told beside -/
def isiD (cs : List String) : D1 := fun x Q => match isiB (tyD x) cs with
  | some b => Q (.bl b)
  | none => False
def blsD : List D → Option (List Bool)
  | [] => some []
  | .bl b :: r => (blsD r).map (b :: ·)
  | _ :: _ => none
def intsD : List D → Option (List Int)
  | [] => some []
  | .int b :: r => (intsD r).map (b :: ·)
  | _ :: _ => none
def lenD : D1
  | .lst _ xs, Q => Q (.int xs.length)
  | .tup xs, Q => Q (.int xs.length)
  | .str x, Q => x.length ≤ sizeLine ∧ Q (.int x.length)
  | _, _ => False
def intD : D1
  | .int i, Q => Q (.int i)
  | .bl b, Q => Q (.int (if b then 1 else 0))
  | _, _ => False
def absD : D1
  | .int i, Q => Q (.int (if i < 0 then -i else i))
  | _, _ => False
def max2D : D2
  | .int i, .int j, Q => Q (.int (if j > i then j else i))
  | _, _, _ => False
def min2D : D2
  | .int i, .int j, Q => Q (.int (if j < i then j else i))
  | _, _, _ => False
def allD : D1
  | .lst _ xs, Q => (match blsD xs with | some bs => Q (.bl (bs.all id)) | none => False)
  | _, _ => False
def anyD : D1
  | .lst _ xs, Q => (match blsD xs with | some bs => Q (.bl (bs.any id)) | none => False)
  | _, _ => False
def sumD : D1
  | .lst _ xs, Q => (match intsD xs with | some ns => Q (.int ns.sum) | none => False)
  | _, _ => False
def maxD : D1
  | .lst _ xs, Q => (match intsD xs with | some ns => 0 < ns.length ∧ ∀ m, m ∈ ns → (∀ y, y ∈ ns → y ≤ m) → Q (.int m) | none => False)
  | _, _ => False
def minD : D1
  | .lst _ xs, Q => (match intsD xs with | some ns => 0 < ns.length ∧ ∀ m, m ∈ ns → (∀ y, y ∈ ns → m ≤ y) → Q (.int m) | none => False)
  | _, _ => False
def listD : D1
  | .lst _ xs, Q => Q (.lst .o xs)
  | .tup xs, Q => Q (.lst .o xs)
  | _, _ => False
mutual
/-- nothing is owned in it -/
def D.no : D → Bool
  | .tup xs => D.nos xs
  | .lst k xs => (match k with | .o => false | _ => true) && D.nos xs
  | _ => true
def D.nos : List D → Bool
  | [] => true
  | x :: xs => D.no x && D.nos xs
end
def leD (x y : D) : Bool := PySem.W.dataLe false D.py x y
def alikeD (x y : D) : Bool := PySem.W.alike x.py y.py
def okSort (xs : List D) : Prop := (∀ x ∈ xs, ∀ y ∈ xs, alikeD x y = true) ∧ ((∀ x ∈ xs, ∃ y r, x = .tup (y :: r)) ∨ ∀ x ∈ xs, x ≠ .non ∧ x ≠ .pen ∧ ∀ ys, x ≠ .tup ys)
def sortD : D1
  | .lst _ xs, Q => (∀ x ∈ xs, Sh 50 x) ∧ D.nos xs = true ∧ okSort xs ∧ Q (.lst .o (xs.mergeSort leD))
  | .tup xs, Q => (∀ x ∈ xs, Sh 50 x) ∧ D.nos xs = true ∧ okSort xs ∧ Q (.lst .o (xs.mergeSort leD))
  | _, _ => False
end DL
namespace DL
open PySem PySem.Spec PyProof.Rows L2
variable [Tb]
section
variable {X : Cx}
theorem to1 {f : D1} {vs : List V} {H : Hp} {Q : VK} {R : Prop} (h : rC X.K (o1 f) vs H Q) (k : ∀ (P : Pens) (M B : List Addr) (v : V) (d : D) (L : List Addr) (Q0 : D → Prop), vs = [v] → Args X.K P M B H [v] [d] L →
  Rep X.K P (L ++ M) (L ++ B) H v d L → f d Q0 → (∀ v H', Res X.K P M B L H Q0 v H' → Q v H') → R) : R := by
  obtain ⟨P, M, B, ds, L, Q0, A, q, kk⟩ := h
  unfold o1 at q
  split at q
  · rename_i d
    obtain ⟨v, e, r⟩ := v1 A.reps
    subst e
    exact k P M B v d L Q0 rfl A r q kk
  · exact q.elim
theorem toC2 {f : D2} {vs : List V} {H : Hp} {Q : VK} {R : Prop} (h : rC X.K (o2 f) vs H Q) (k : ∀ (P : Pens) (M B : List Addr) (x y : V) (d e : D) (L1 L3 : List Addr) (Q0 : D → Prop), vs = [x, y] → Args X.K P M B H [x, y] [d, e] (L1 ++ L3) →
  Rep X.K P ((L1 ++ L3) ++ M) ((L1 ++ L3) ++ B) H x d L1 → Rep X.K P ((L1 ++ L3) ++ M) ((L1 ++ L3) ++ B) H y e L3 → f d e Q0 → (∀ v H', Res X.K P M B (L1 ++ L3) H Q0 v H' → Q v H') → R) : R := by
  obtain ⟨P, M, B, ds, L, Q0, A, q, kk⟩ := h
  unfold o2 at q
  split at q
  · rename_i d e
    obtain ⟨x, y, L1, L3, e0, rfl, r1, r2⟩ := v2 A.reps
    subst e0
    exact k P M B x y d e L1 L3 Q0 rfl A r1 r2 q kk
  · exact q.elim
theorem cal {f : Value} {o : D1} {r : List V → Hp → VK → Prop} (hr : CallR X f r) (h : ∀ (H : Hp) (Q : VK) (P : Pens) (M B : List Addr) (v : V) (d : D) (L : List Addr) (Q0 : D → Prop), Args X.K P M B H [v] [d] L →
  Rep X.K P (L ++ M) (L ++ B) H v d L → o d Q0 → (∀ v H', Res X.K P M B L H Q0 v H' → Q v H') → r [v] H Q) : CallR X f (rC X.K (o1 o)) := by
  intro pins s σ H xs us Q I r0 h0
  refine to1 h0 fun P M B v d L Q0 e A r1 q k => ?_
  subst e
  exact hr pins s σ H _ us Q I r0 (h H Q P M B v d L Q0 A r1 q k)
theorem cal2 {f : Value} {o : D2} {r : List V → Hp → VK → Prop} (hr : CallR X f r) (h : ∀ (H : Hp) (Q : VK) (P : Pens) (M B : List Addr) (x y : V) (d e : D) (L1 L3 : List Addr) (Q0 : D → Prop), Args X.K P M B H [x, y] [d, e] (L1 ++ L3) →
  Rep X.K P ((L1 ++ L3) ++ M) ((L1 ++ L3) ++ B) H x d L1 → Rep X.K P ((L1 ++ L3) ++ M) ((L1 ++ L3) ++ B) H y e L3 → o d e Q0 → (∀ v H', Res X.K P M B (L1 ++ L3) H Q0 v H' → Q v H') → r [x, y] H Q) : CallR X f (rC X.K (o2 o)) := by
  intro pins s σ H xs us Q I r0 h0
  refine toC2 h0 fun P M B x y d e L1 L3 Q0 ee A r1 r2 q k => ?_
  subst ee
  exact hr pins s σ H _ us Q I r0 (h H Q P M B x y d e L1 L3 Q0 A r1 r2 q k)
theorem isi1D {c : String} : ∀ (pins : List (Addr × Obj)) (s : Shared) (σ : Sg) (H : Hp) (v : V) (u : Value) (Q : VK), Inv X pins σ H s → RelV v u → rC X.K (o1 (isiD [c])) [v] H Q →
    wpAny (model X.prog X.w) X.A (call (.builtin "isinstance") [u, .type c]) (EP X pins σ Q) X.xe s := by
  intro pins s σ H v u Q I ru h0
  refine to1 h0 fun P M B v' d L Q0 e A r1 q k => ?_
  injection e with e1 _; subst e1
  unfold isiD at q
  split at q
  · rename_i b eb
    unfold isiB at eb
    refine call_isi pins s σ H [v, .ty c] [u, .type c] Q I (.cons ru (.cons rfl .nil)) ⟨v, .ty c, _, _, b, rfl, .ty c, r1.tyx A.stt, ?_, k _ _ (A.plain (fun {_} => .bl) q)⟩
    cases e2 : kitB (tyD d) c with
    | none => rw [e2] at eb; cases eb
    | some z =>
      rw [e2] at eb
      have e3 : z = b := by
        cases z with
        | true => exact Option.some.inj eb
        | false => unfold isiB at eb; exact Option.some.inj eb
      rw [← e3]
      exact kit_ty e2
  · exact q.elim
theorem cr_lenD : CallR X (.builtin "len") (rC X.K (o1 lenD)) := by
  intro pins s σ H xs us Q I r0 h0
  refine to1 h0 fun P M B v d L Q0 e A r1 q k => ?_
  subst e
  unfold lenD at q
  split at q
  · obtain ⟨a, vs, L', rfl, h1, r, _⟩ := r1.lst_inv
    exact call_len_seq pins s σ H _ us Q I r0 ⟨_, _, rfl, .inl h1, by rw [r.len]; exact k _ _ (A.plain (fun {_} => .int) q)⟩
  · obtain ⟨a, vs, rfl, h1, r⟩ := r1.tup_inv
    exact call_len_seq pins s σ H _ us Q I r0 ⟨_, _, rfl, .inr h1, by rw [r.len]; exact k _ _ (A.plain (fun {_} => .int) q)⟩
  · obtain ⟨rfl, rfl⟩ := r1.str_inv
    exact call_len_str pins s σ H _ us Q I r0 ⟨_, rfl, q.1, k _ _ (A.plain (fun {_} => .int) q.2)⟩
  · exact q.elim
theorem cr_intD : CallR X (.type "int") (rC X.K (o1 intD)) := cal call_int1 fun H Q P M B v d L Q0 A r1 q k => by
  unfold intD at q
  split at q
  · obtain ⟨rfl, rfl⟩ := r1.int_inv
    exact .inl ⟨_, rfl, k _ _ (A.plain (fun {_} => .int) q)⟩
  · obtain ⟨rfl, rfl⟩ := r1.bl_inv
    exact .inr ⟨_, rfl, k _ _ (A.plain (fun {_} => .int) q)⟩
  · exact q.elim
theorem cr_absD : CallR X (.builtin "abs") (rC X.K (o1 absD)) := cal call_abs fun H Q P M B v d L Q0 A r1 q k => by
  unfold absD at q
  split at q
  · obtain ⟨rfl, rfl⟩ := r1.int_inv
    exact ⟨_, rfl, k _ _ (A.plain (fun {_} => .int) q)⟩
  · exact q.elim
theorem cr_max2D (hc : X.calm = true) : CallR X (.builtin "max") (rC X.K (o2 max2D)) := cal2 (call_max2 hc) fun H Q P M B x y d e L1 L3 Q0 A r1 r2 q k => by
  unfold max2D at q
  split at q
  · obtain ⟨rfl, rfl⟩ := r1.int_inv
    obtain ⟨rfl, rfl⟩ := r2.int_inv
    exact ⟨_, _, rfl, k _ _ (A.plain (fun {_} => .int) q)⟩
  · exact q.elim
theorem cr_min2D (hc : X.calm = true) : CallR X (.builtin "min") (rC X.K (o2 min2D)) := cal2 (call_min2 hc) fun H Q P M B x y d e L1 L3 Q0 A r1 r2 q k => by
  unfold min2D at q
  split at q
  · obtain ⟨rfl, rfl⟩ := r1.int_inv
    obtain ⟨rfl, rfl⟩ := r2.int_inv
    exact ⟨_, _, rfl, k _ _ (A.plain (fun {_} => .int) q)⟩
  · exact q.elim
theorem bls_of {K : PySem.W.Frag} {P : Pens} {M B : List Addr} {H : Hp} : ∀ {vs : List V} {ds : List D} {L : List Addr} {bs : List Bool}, Reps K P M B H vs ds L → blsD ds = some bs → vs = bs.map V.bl
  | _, _, _, _, .nil, e => by
    have e : [] = _ := Option.some.inj e
    subst e; rfl
  | _, .bl b :: ds, _, bs, .cons h r, e => by
    unfold blsD at e
    cases e2 : blsD ds with
    | none => rw [e2] at e; cases e
    | some z =>
      rw [e2] at e
      have e : b :: z = bs := Option.some.inj e
      subst e
      obtain ⟨rfl, _⟩ := h.bl_inv
      rw [bls_of r e2]; rfl
  | _, .non :: _, _, _, .cons _ _, e => by simp [blsD] at e
  | _, .int _ :: _, _, _, .cons _ _, e => by simp [blsD] at e
  | _, .str _ :: _, _, _, .cons _ _, e => by simp [blsD] at e
  | _, .pen :: _, _, _, .cons _ _, e => by simp [blsD] at e
  | _, .tup _ :: _, _, _, .cons _ _, e => by simp [blsD] at e
  | _, .lst _ _ :: _, _, _, .cons _ _, e => by simp [blsD] at e
theorem ints_of {K : PySem.W.Frag} {P : Pens} {M B : List Addr} {H : Hp} : ∀ {vs : List V} {ds : List D} {L : List Addr} {bs : List Int}, Reps K P M B H vs ds L → intsD ds = some bs → vs = bs.map V.int
  | _, _, _, _, .nil, e => by
    have e : [] = _ := Option.some.inj e
    subst e; rfl
  | _, .int b :: ds, _, bs, .cons h r, e => by
    unfold intsD at e
    cases e2 : intsD ds with
    | none => rw [e2] at e; cases e
    | some z =>
      rw [e2] at e
      have e : b :: z = bs := Option.some.inj e
      subst e
      obtain ⟨rfl, _⟩ := h.int_inv
      rw [ints_of r e2]; rfl
  | _, .non :: _, _, _, .cons _ _, e => by simp [intsD] at e
  | _, .bl _ :: _, _, _, .cons _ _, e => by simp [intsD] at e
  | _, .str _ :: _, _, _, .cons _ _, e => by simp [intsD] at e
  | _, .pen :: _, _, _, .cons _ _, e => by simp [intsD] at e
  | _, .tup _ :: _, _, _, .cons _ _, e => by simp [intsD] at e
  | _, .lst _ _ :: _, _, _, .cons _ _, e => by simp [intsD] at e
theorem cr_allD (hc : X.calm = true) : CallR X (.builtin "all") (rC X.K (o1 allD)) := cal (cr_all hc) fun H Q P M B v d L Q0 A r1 q k => by
  unfold allD at q
  split at q
  · obtain ⟨a, vs, L', rfl, h1, r, _⟩ := r1.lst_inv
    split at q
    · rename_i bs e
      rw [bls_of r e] at h1
      exact ⟨a, bs, rfl, h1, k _ _ (A.plain (fun {_} => .bl) q)⟩
    · exact q.elim
  · exact q.elim
theorem cr_anyD (hc : X.calm = true) : CallR X (.builtin "any") (rC X.K (o1 anyD)) := cal (cr_any hc) fun H Q P M B v d L Q0 A r1 q k => by
  unfold anyD at q
  split at q
  · obtain ⟨a, vs, L', rfl, h1, r, _⟩ := r1.lst_inv
    split at q
    · rename_i bs e
      rw [bls_of r e] at h1
      exact ⟨a, bs, rfl, h1, k _ _ (A.plain (fun {_} => .bl) q)⟩
    · exact q.elim
  · exact q.elim
theorem cr_sumD (hc : X.calm = true) : CallR X (.builtin "sum") (rC X.K (o1 sumD)) := cal (cr_sum hc) fun H Q P M B v d L Q0 A r1 q k => by
  unfold sumD at q
  split at q
  · obtain ⟨a, vs, L', rfl, h1, r, _⟩ := r1.lst_inv
    split at q
    · rename_i bs e
      rw [ints_of r e] at h1
      exact ⟨a, bs, rfl, h1, k _ _ (A.plain (fun {_} => .int) q)⟩
    · exact q.elim
  · exact q.elim
theorem cr_maxD (hc : X.calm = true) : CallR X (.builtin "max") (rC X.K (o1 maxD)) := cal (cr_max hc) fun H Q P M B v d L Q0 A r1 q k => by
  unfold maxD at q
  split at q
  · obtain ⟨a, vs, L', rfl, h1, r, _⟩ := r1.lst_inv
    split at q
    · rename_i bs e
      rw [ints_of r e] at h1
      exact ⟨a, bs, rfl, h1, q.1, fun m hm hy => k _ _ (A.plain (fun {_} => .int) (q.2 m hm hy))⟩
    · exact q.elim
  · exact q.elim
theorem cr_minD (hc : X.calm = true) : CallR X (.builtin "min") (rC X.K (o1 minD)) := cal (cr_min hc) fun H Q P M B v d L Q0 A r1 q k => by
  unfold minD at q
  split at q
  · obtain ⟨a, vs, L', rfl, h1, r, _⟩ := r1.lst_inv
    split at q
    · rename_i bs e
      rw [ints_of r e] at h1
      exact ⟨a, bs, rfl, h1, q.1, fun m hm hy => k _ _ (A.plain (fun {_} => .int) (q.2 m hm hy))⟩
    · exact q.elim
  · exact q.elim
theorem cr_listD : CallR X (.type "list") (rC X.K (o1 listD)) := cal call_list_of fun H Q P M B v d L Q0 A r1 q k => by
  unfold listD at q
  split at q
  · obtain ⟨a, vs, L', rfl, h1, r, c⟩ := r1.lst_inv
    obtain ⟨n1, s1⟩ := nodup_tl c A.nd
    exact ⟨a, vs, rfl, .inl h1, fun l hl => k _ _ (A.newl hl r s1 n1 q)⟩
  · obtain ⟨a, vs, rfl, h1, r⟩ := r1.tup_inv
    exact ⟨a, vs, rfl, .inr h1, fun l hl => k _ _ (A.newl hl r (fun _ z => z) A.nd q)⟩
  · exact q.elim
end
end DL
set_option maxHeartbeats 4000000
namespace PySem.W
open PySem PySem.Calls PyProof.Rows
section
variable {β : Type} {prog : Program} {w : World} {A : Around} {E : Value → Shared → Prop} {s : Shared} {R : Value → β → Prop} {enc : β → PyData} {vs : List Value} {bs : List β}
/-- a list's or tuple's items gathered: a new list alone -/
theorem gath {l : Addr} {T : String} {o : Obj} {xs : Array Value} {n : Nat} {Q : List Value → Shared → Prop} (hT : T = "list" ∨ T = "tuple") (lo : s.heap.get? l = some o) (co : o.cls = .type T) (dO : o.data = .seq xs n) (z : xs.size ≤ sizeLine)
    (k : ∀ g : Heap, s.heap.objs.size < g.objs.size → (∀ b u, s.heap.get? b = some u → g.get? b = some u) → Q xs.toList { s with heap := g }) : wpAny (model prog w) A (collect (.ref l)) Q E s := by
  unfold collect
  refine wpAny_bind (wpAny_runValue
    (codeAny_builtin F.entry_proto_collect ?_))
  rw [Around.under_plainId
    F.plain_proto_collect _]
  refine (?_ : wpAny _ A.in1 (newList [] >>= fun m => again
    (.builtin "list.__iadd__" ⟨[m, .ref l], []⟩)) _ _ s)
  refine wpAny_bind (wpAny_newObj_type ?_)
  refine wpAny_pure ⟨plainId_quiet F.plain_list_iadd _,
    codeAny_builtin F.entry_list_iadd ?_⟩
  rw [Around.under_plainId
    F.plain_list_iadd _]
  have g0 : (s.heap.push { cls := .type "list", data := .seq ([] : List Value).toArray }).get? s.heap.objs.size = some (seqObj "list" #[] 0) := Heap.get?_push_size _ rfl
  have g1 : ((s.heap.push { cls := .type "list", data := .seq ([] : List Value).toArray }).update s.heap.objs.size (Obj.mapSeq (· ++ xs))).get? s.heap.objs.size = some (Obj.mapSeq (· ++ xs) (seqObj "list" #[] 0)) := Heap.get?_update_self (Obj.mapSeq (· ++ xs)) g0 rfl
  have last : wpAny (model prog w) A (do
      match (← load s.heap.objs.size).data with
        | Data.seq ys _ => pure ys.toList
        | _ => unsupported "internal:collect") Q E { s with heap := (s.heap.push { cls := .type "list", data := .seq ([] : List Value).toArray }).update s.heap.objs.size (Obj.mapSeq (· ++ xs)) } := by
    refine wpAny_bind (wpAny_load g1 (wpAny_pure ?_))
    have e0 : ((#[] : Array Value) ++ xs).toList = xs.toList := by simp
    have q := k ((s.heap.push { cls := .type "list", data := .seq ([] : List Value).toArray }).update s.heap.objs.size (Obj.mapSeq (· ++ xs))) (by rw [Heap.size_update, size_push']; exact Nat.lt_succ_self _)
      (fun b u hb => (Heap.get?_update_other _ _ (Nat.ne_of_gt (Heap.lt_size hb))).trans (Heap.get?_push_of_some _ hb))
    rw [← e0] at q
    exact q
  refine wpAny_mono (wpAny_extend_seq (hsz := z) (A := A) (R := fun r t => r = .ok (.ret (.ref s.heap.objs.size)) ∧ t = { s with heap := (s.heap.push { cls := .type "list", data := .seq ([] : List Value).toArray }).update s.heap.objs.size (Obj.mapSeq (· ++ xs)) })
    (s := { s with heap := s.heap.push { cls := .type "list", data := .seq ([] : List Value).toArray } }) _ l _ 0 hT g0 (Heap.get?_push_of_some _ lo) co dO ⟨rfl, rfl⟩) (fun fin t h => ?_) (fun e t h => ?_)
  · cases fin with
    | done f =>
      obtain ⟨e, rfl⟩ := h
      cases e
      exact last
    | again c =>
      refine ⟨h.1, codeAny_mono h.2 fun r t' hr => ?_⟩
      obtain ⟨rfl, rfl⟩ := hr
      exact last
  · exact absurd h.1 (by simp)
/-- sorted of a list or a tuple -/
theorem sorted_seqD {l : Addr} {T : String} {o : Obj} {n : Nat} {Q : Value → Shared → Prop} (hT : T = "list" ∨ T = "tuple") (ho : s.heap.get? l = some o) (hc : o.cls = .type T) (hd : o.data = .seq vs.toArray n)
    (e : EachIs R vs bs) (er : EachIs (fun v b => ∃ as, Reads s.heap v (enc b) as) vs bs) (hal : AllAlike (bs.map enc)) (hk : Sortable (bs.map enc)) (hL : vs.length ≤ sizeLine)
    (hu : ∀ b, b ∈ bs → A.units + 2 + (enc b).depth < cLine)
    (h : ∀ out h' p c, out.length = bs.length → EachIs R out (bs.mergeSort (dataLe false enc)) → (∀ b u, s.heap.get? b = some u → h'.get? b = some u) → s.heap.objs.size ≤ p → h'.get? p = some (seqObj "list" (List.toArray out) c) → Q (.ref p) { s with heap := h' }) :
    wpAny (model prog w) A (call (.builtin "sorted") [.ref l]) Q E s := by
  refine call_function_entry_kw kind_sorted plain_sorted
    entry_sorted (args_sorted1 _) ?_
  unfold Builtin.«sorted»
  refine wpAny_bind (m := checkCount "sorted" 1 1 _)
    (wpAny_pure ?_)
  refine wpAny_bind (gath hT ho hc hd (by simpa using hL) fun h1 sz k1 => ?_)
  have sz1 : s.heap.objs.size ≤ h1.objs.size := Nat.le_of_lt sz
  refine wpAny_bind (wpAny_newList ?_ (by simpa using hL))
  have hoL : (h1.push (seqObj "list" vs.toArray 0)).get? h1.objs.size = some (seqObj "list" vs.toArray 0) := Heap.get?_push_size _ rfl
  have old : ∀ {b : Addr} {u : Obj}, s.heap.get? b = some u → (sortingHeap (h1.push (seqObj "list" vs.toArray 0)) h1.objs.size vs).get? b = some u := fun {b u} z =>
    sortingHeap_old (Nat.ne_of_lt (Heap.lt_size (k1 _ _ z))) (Heap.get?_push_of_some _ (k1 _ _ z))
  have er' : EachIs (fun v b => ∃ as, Reads (sortingHeap (h1.push (seqObj "list" vs.toArray 0)) h1.objs.size vs) v (enc b) as) vs bs := er.mono fun _ _ ⟨as, r⟩ => ⟨as, PyProof.Rows.Reads.keeps (fun _ _ => old) r⟩
  refine wpAny_bind (wpAny_holding (wpAny_call_entry_kw slot_list_sort ⟨_, hoL, rfl⟩ entry_list_sort ?body (args_list_sort _)))
  case body =>
    refine wpAny_mono (list_sort_vals (κ := dataKind (sortingHeap (h1.push (seqObj "list" vs.toArray 0)) h1.objs.size vs) (bs.map enc)) (P := fun f s' => f = .done (.ret .none) ∧ s' = { s with heap := sortedHeap (h1.push (seqObj "list" vs.toArray 0)) h1.objs.size vs (sortVals (dataKind (sortingHeap (h1.push (seqObj "list" vs.toArray 0)) h1.objs.size vs) (bs.map enc)) false vs vs).toArray }) (s := { s with heap := h1.push (seqObj "list" vs.toArray 0) }) hoL
      (SortsAt.data (s := { s with heap := sortingHeap (h1.push (seqObj "list" vs.toArray 0)) h1.objs.size vs }) (each_map (R := fun v d => ∃ as, Reads (sortingHeap (h1.push (seqObj "list" vs.toArray 0)) h1.objs.size vs) v d as) enc er') hal hk (bound_map hu)) hL ⟨rfl, rfl⟩) (fun f s' hf => ?_) fun _ _ z => z
    obtain ⟨rfl, rfl⟩ := hf
    obtain ⟨c, hc'⟩ := sortedHeap_at (vs := vs) (out := (sortVals (dataKind (sortingHeap (h1.push (seqObj "list" vs.toArray 0)) h1.objs.size vs) (bs.map enc)) false vs vs).toArray) hoL
    refine ⟨_, rfl, wpAny_pure ⟨_, rfl, h _ _ _ c (by rw [sortVals_length false rfl]; exact e.length) (sortVals_data false e er' hal) (fun b u z => ?_) sz1 hc'⟩⟩
    have z1 := k1 b u z
    have hlt := Heap.lt_size z1
    rw [sortedHeap_old (Nat.ne_of_lt hlt) (by rw [size_push']; exact Nat.lt_succ_of_lt hlt)]
    exact Heap.get?_push_of_some _ z1
end
end PySem.W

namespace DL
open PySem PySem.Spec PyProof.Rows L2
variable [Tb]
section
variable {K : PySem.W.Frag} {P : Pens} {M B : List Addr} {H : Hp}
mutual
theorem Rep.no : ∀ {v : V} {d : D} {L : List Addr}, Rep K P M B H v d L → d.no = true → L = []
  | _, _, _, .non, _ => rfl
  | _, _, _, .bl, _ => rfl
  | _, _, _, .int, _ => rfl
  | _, _, _, .str, _ => rfl
  | _, _, _, .pen _, _ => rfl
  | _, _, _, .tup _ r, p => Reps.no r (by simpa [D.no] using p)
  | _, _, _, .lstF _ _ _, _ => rfl
  | _, _, _, .lstB _ _, _ => rfl
  | _, _, _, .lstO _ _ _, p => by simp [D.no] at p
theorem Reps.no : ∀ {vs : List V} {ds : List D} {L : List Addr}, Reps K P M B H vs ds L → D.nos ds = true → L = []
  | _, _, _, .nil, _ => rfl
  | _, _, _, .cons h r, p => by
    simp only [D.nos, Bool.and_eq_true] at p
    rw [Rep.no h p.1, Reps.no r p.2]; rfl
end
theorem reps_each {us : List Value} : ∀ {vs : List V} {us : List Value} {ds : List D}, Vals vs us → Reps K P M B H vs ds [] → PySem.W.EachIs (fun u d => ∃ v, RelV v u ∧ Rep K P M B H v d []) us ds
  | _, _, _, .nil, h => by
    cases h
    exact .nil
  | _, _, _, .cons r rs, h => by
    generalize e : ([] : List Addr) = L at h
    cases h with
    | cons h1 h2 =>
      obtain ⟨e1, e2⟩ := app_nil e.symm
      subst e1 e2
      exact .cons ⟨_, r, h1⟩ (reps_each (us := []) rs h2)
theorem each_reps : ∀ {us : List Value} {ds : List D}, PySem.W.EachIs (fun u d => ∃ v, RelV v u ∧ Rep K P M B H v d []) us ds → ∃ vs, Vals vs us ∧ Reps K P M B H vs ds []
  | _, _, .nil => ⟨[], .nil, .nil⟩
  | _, _, .cons ⟨v, r, h⟩ t => by
    obtain ⟨vs, a, b⟩ := each_reps t
    exact ⟨v :: vs, .cons r a, .cons (L1 := []) (L2 := []) h b⟩
end
theorem okSort.al {xs : List D} (h : okSort xs) : PySem.W.AllAlike (xs.map D.py) := by
  intro d hd d' hd'
  obtain ⟨b, hb, rfl⟩ := List.mem_map.mp hd
  obtain ⟨b', hb', rfl⟩ := List.mem_map.mp hd'
  exact h.1 b hb b' hb'
theorem okSort.so {xs : List D} (h : okSort xs) : PySem.W.Sortable (xs.map D.py) := by
  rcases h.2 with h | h
  · refine .inl fun d hd => ?_
    obtain ⟨b, hb, rfl⟩ := List.mem_map.mp hd
    obtain ⟨y, r, rfl⟩ := h b hb
    exact ⟨y.py, D.pys r, by simp [D.py, D.pys]⟩
  · refine .inr fun d hd => ?_
    obtain ⟨b, hb, rfl⟩ := List.mem_map.mp hd
    obtain ⟨h1, h2, h3⟩ := h b hb
    cases b with
    | non => exact absurd rfl h1
    | pen => exact absurd rfl h2
    | tup ys => exact absurd rfl (h3 ys)
    | bl _ => exact ⟨fun z => (by simp [D.py] at z), fun ys z => (by simp [D.py] at z)⟩
    | int _ => exact ⟨fun z => (by simp [D.py] at z), fun ys z => (by simp [D.py] at z)⟩
    | str _ => exact ⟨fun z => (by simp [D.py] at z), fun ys z => (by simp [D.py] at z)⟩
    | lst _ _ => exact ⟨fun z => (by simp [D.py] at z), fun ys z => (by simp [D.py] at z)⟩
section
variable {X : Cx}
theorem sort_run {pins : List (Addr × Obj)} {s : Shared} {σ : Sg} {H : Hp} {P : Pens} {M B L : List Addr} {vs0 : List V} {ds0 : List D} {Q0 : D → Prop} {Q : VK} {a : Addr} {T : String} {o : Obj} {n : Nat} {vs : List V} {its : List Value} {xs : List D}
    (hu : X.A.units + 64 < cLine) (I : Inv X pins σ H s) (A : Args X.K P M B H vs0 ds0 L) (hT : T = "list" ∨ T = "tuple") (ho : s.heap.get? a = some o) (hc : o.cls = .type T) (hd : o.data = .seq its.toArray n) (hz : its.length ≤ sizeLine)
    (rv : Vals vs its) (r : Reps X.K P (L ++ M) (L ++ B) H vs xs []) (h1 : ∀ x ∈ xs, Sh 50 x) (h2 : okSort xs) (q : Q0 (.lst .o (xs.mergeSort leD))) (k : ∀ v H', Res X.K P M B L H Q0 v H' → Q v H') :
    wpAny (model X.prog X.w) X.A (call (.builtin "sorted") [.ref a]) (EP X pins σ Q) X.xe s := by
  have e0 : PySem.W.EachIs (fun u d => (∃ v, RelV v u ∧ Rep X.K P (L ++ M) (L ++ B) H v d []) ∧ ∃ as, Reads s.heap u (D.py d) as) its xs := by
    have base := reps_each (us := []) rv r
    have : ∀ {us : List Value} {ds : List D}, PySem.W.EachIs (fun u d => ∃ v, RelV v u ∧ Rep X.K P (L ++ M) (L ++ B) H v d []) us ds → (∀ x ∈ ds, Sh 50 x) → PySem.W.EachIs (fun u d => (∃ v, RelV v u ∧ Rep X.K P (L ++ M) (L ++ B) H v d []) ∧ ∃ as, Reads s.heap u (D.py d) as) us ds := by
      intro us ds h
      induction h with
      | nil => intro _; exact .nil
      | cons hh t ih =>
        intro hs
        obtain ⟨v, rv, rr⟩ := hh
        exact .cons ⟨⟨v, rv, rr⟩, Dp.reads I _ _ _ (rr.dp (hs _ (List.mem_cons_self ..))) rv⟩ (ih fun x z => hs x (List.mem_cons_of_mem _ z))
    exact this base h1
  refine PySem.W.sorted_seqD (R := fun u d => ∃ v, RelV v u ∧ Rep X.K P (L ++ M) (L ++ B) H v d []) (enc := D.py) hT ho hc hd (e0.mono fun _ _ z => z.1) (e0.mono fun _ _ z => z.2) h2.al h2.so hz (fun b hb => ?_) fun out h' p c hl e kp hp hg => ?_
  · have := (Sh.lay (h1 b hb)).2
    omega
  · obtain ⟨ws, w1, w2⟩ := each_reps e
    have hpn : H p = none := I.hok.fresh hp
    refine ⟨.ref p, upd H p (.lst ws), I.laid (t' := s.toks) kp hp ⟨?_, out, c, w1, hg⟩, rfl, k _ _ (A.newl hpn w2 (fun _ z => nomatch z) List.nodup_nil q)⟩
    have e2 : out.length = ws.length := w1.length.symm
    have e3 : its.length = vs.length := rv.length.symm
    have e4 : vs.length = xs.length := r.len
    omega
theorem cr_sortD (hu : X.A.units + 64 < cLine) : CallR X (.builtin "sorted") (rC X.K (o1 sortD)) := by
  intro pins s σ H xs us Q I r0 h0
  refine to1 h0 fun P M B v d L Q0 e A r1 q k => ?_
  subst e
  unfold sortD at q
  split at q
  · obtain ⟨a, vs, L', rfl, h1, r, c⟩ := r1.lst_inv
    obtain ⟨p1, p2, p3, q⟩ := q
    have el := r.no p2
    subst el
    obtain ⟨u, rfl, ru⟩ := vals1 r0
    cases ru
    obtain ⟨its, rv, ⟨ob, n, e1, e2, _, e4⟩, hz⟩ := I.list h1
    exact sort_run hu I A (.inl rfl) e1 e2 e4 (by rw [← rv.length]; exact hz) rv r p1 p3 q k
  · obtain ⟨a, vs, rfl, h1, r⟩ := r1.tup_inv
    obtain ⟨p1, p2, p3, q⟩ := q
    have el := r.no p2
    subst el
    obtain ⟨u, rfl, ru⟩ := vals1 r0
    cases ru
    obtain ⟨its, rv, ⟨ob, e1, e2, n, e4⟩, hz⟩ := I.tuple h1
    exact sort_run hu I A (.inr rfl) e1 e2 e4 (by rw [← rv.length]; exact hz) rv r p1 p3 q k
  · exact q.elim
end
end DL
set_option maxHeartbeats 4000000
namespace DL
open PySem PySem.Spec PyProof.Rows L2
variable [Tb]
/-! ### expressions -/
def Env.at (ρ : Env) (i : Nat) : Option D := (ρ[i]?).join
def dVar (i : Nat) : DT := fun ρ Q => match Env.at ρ i with
  | some d => Q d.vw
  | none => False
def dC (c : D) : DT := fun _ Q => Q c
def dTup (t : DTA) : DT := fun ρ Q => t ρ fun ds => ds.length ≤ 1000 ∧ Q (.tup ds)
def dLst (t : DTA) : DT := fun ρ Q => t ρ fun ds => ds.length ≤ 1000 ∧ Q (.lst .o ds)
def dNil : DTA := fun _ Q => Q []
def dCons (te : DT) (tr : DTA) : DTA := fun ρ Q => te ρ fun x => tr ρ fun xs => Q (x :: xs)
abbrev DTT := Env → (Bool → Prop) → Prop
def truD : D → (Bool → Prop) → Prop
  | .non, Q => Q false
  | .bl b, Q => Q b
  | .int i, Q => Q (i != 0)
  | .str x, Q => x.length ≤ sizeLine ∧ Q ((x.length : Int) != 0)
  | .lst _ xs, Q => Q (!xs.isEmpty)
  | .tup xs, Q => Q (!xs.isEmpty)
  | .pen, _ => False
def dTru (t : DT) : DTT := fun ρ Q => t ρ fun d => truD d Q
def dIf (c : DTT) (a b : DT) : DT := fun ρ Q => c ρ fun k => if k = true then a ρ Q else b ρ Q
def dAndT (a b : DTT) : DTT := fun ρ Q => a ρ fun k => if k = true then b ρ Q else Q false
def dOrT (a b : DTT) : DTT := fun ρ Q => a ρ fun k => if k = true then Q true else b ρ Q
def dNotT (a : DTT) : DTT := fun ρ Q => a ρ fun k => Q (!k)
def dAnd (a b : DT) : DT := fun ρ Q => a ρ fun x => match x with
  | .bl true => b ρ Q
  | .bl false => Q (.bl false)
  | _ => False
def dOr (a b : DT) : DT := fun ρ Q => a ρ fun x => match x with
  | .bl true => Q (.bl true)
  | .bl false => b ρ Q
  | _ => False
def dNot (a : DT) : DT := fun ρ Q => a ρ fun x => match x with
  | .bl k => Q (.bl (!k))
  | _ => False
def dB (a : DT) : DTT := fun ρ Q => a ρ fun x => match x with
  | .bl k => Q k
  | _ => False
def dChain (o p : D2) (a b c : DT) : DT := fun ρ Q => a ρ fun x => b ρ fun y => o x y fun z => match z with
  | .bl true => c ρ fun w => p y w Q
  | .bl false => Q (.bl false)
  | _ => False

section
variable {K : PySem.W.Frag} {P : Pens} {M M' B B' L Lr : List Addr} {H H' : Hp} {σ : Sg} {ρ : Env} {v : V} {d : D}
theorem Slots.keep (s : Stt P M B H) (h : Slots K P M B H σ ρ) (g : Gr P.as H H') : Slots K P M B H' σ ρ := Slots.after (Lr := []) s h g fun _ z => nomatch z
theorem Stt.keep (s : Stt P M B H) (g : Gr P.as H H') (p : PensOk P M H') : Stt P M B H' := Stt.after (Lr := []) s g p fun _ z => nomatch z
theorem Res.drop {Q0 : D → Prop} (r : Res K P M B [] H Q0 v H') : ∃ c, Q0 c ∧ Gr P.as H H' ∧ PensOk P M H' ∧ ∃ Lr, Rep K P (Lr ++ M) (Lr ++ B) H' v c Lr := by
  obtain ⟨c, Lr, q, g, p, r, _, _⟩ := r
  exact ⟨c, q, g, p.grow fun a z => .inl (List.mem_append_right _ z), Lr, r⟩
theorem Env.at_get {i : Nat} {d : D} (h : Env.at ρ i = some d) : ρ[i]? = some (some d) := by
  unfold Env.at at h
  cases e : ρ[i]? with
  | none => rw [e] at h; cases h
  | some o =>
    rw [e] at h
    rw [show o = some d from h]
theorem lift_var {i : Nat} {Q : VK} (h : lift K (dVar i) σ H Q) : tVar i σ H Q := by
  obtain ⟨P, M, B, ρ, Q0, s, sl, t, k⟩ := h
  unfold dVar at t
  split at t
  · rename_i d e
    obtain ⟨v, L, e1, r, n, _⟩ := sl.get (Env.at_get e)
    exact ⟨v, e1, k _ _ (Res.same s (r.vw fun a z => (n a z).2) t)⟩
  · exact t.elim
theorem lift_c {c : D} {v : V} {Q : VK} (hc : ∀ (P : Pens) (M B : List Addr) (H : Hp), Rep K P M B H v c []) (h : lift K (dC c) σ H Q) : tC v σ H Q := by
  obtain ⟨P, M, B, ρ, Q0, s, sl, t, k⟩ := h
  exact k _ _ (Res.same s (hc _ _ _ _) t)
theorem lift_tup {t : DTA} {Q : VK} (h : lift K (dTup t) σ H Q) : tTup (liftA K t) σ H Q := by
  obtain ⟨P, M, B, ρ, Q0, s, sl, t, k⟩ := h
  refine ⟨P, M, B, ρ, _, s, sl, t, fun vs H1 r1 => ?_⟩
  obtain ⟨ds, L, ⟨hl, t1⟩, g1, p1, r1, n1, f1⟩ := r1
  have A := Args.of s g1 p1 r1 n1 f1
  refine ⟨by rw [r1.len]; exact Nat.le_trans hl (by decide), fun p hp => k _ _ (Res.back (M' := L ++ M) (A.newt (Q0 := Q0) hp r1 (fun _ z => z) n1 t1) g1 p1 f1)⟩
theorem lift_lst {t : DTA} {Q : VK} (h : lift K (dLst t) σ H Q) : tLst (liftA K t) σ H Q := by
  obtain ⟨P, M, B, ρ, Q0, s, sl, t, k⟩ := h
  refine ⟨P, M, B, ρ, _, s, sl, t, fun vs H1 r1 => ?_⟩
  obtain ⟨ds, L, ⟨hl, t1⟩, g1, p1, r1, n1, f1⟩ := r1
  have A := Args.of s g1 p1 r1 n1 f1
  refine ⟨by rw [r1.len]; exact Nat.le_trans hl (by decide), fun p hp => k _ _ (Res.back (M' := L ++ M) (A.newl (Q0 := Q0) hp r1 (fun _ z => z) n1 t1) g1 p1 f1)⟩
theorem Reps.emp {vs : List V} {ds : List D} (r : Reps K P M B H vs ds L) : vs.isEmpty = ds.isEmpty := by cases r <;> rfl
theorem truV {Q0 : Bool → Prop} (r : Rep K P M B H v d L) (t : truD d Q0) : ∃ k, TruV K v H k ∧ Q0 k := by
  cases r with
  | non => exact ⟨_, rfl, t⟩
  | bl => exact ⟨_, rfl, t⟩
  | int => exact ⟨_, rfl, t⟩
  | str => exact ⟨_, ⟨t.1, rfl⟩, t.2⟩
  | pen _ => exact t.elim
  | tup h r => exact ⟨_, .inr (.inl ⟨_, h, rfl⟩), by rw [r.emp]; exact t⟩
  | lstF h r p => exact ⟨_, .inl ⟨_, h.sq, rfl⟩, by rw [r.emp]; exact t⟩
  | lstB h r => exact ⟨_, .inl ⟨_, h.sq, rfl⟩, by rw [r.emp]; exact t⟩
  | lstO h n r => exact ⟨_, .inl ⟨_, SqL.of h, rfl⟩, by rw [r.emp]; exact t⟩
theorem lift_tru {t : DT} {Q : Bool → Hp → Prop} (h : liftT K (dTru t) σ H Q) : lift K t σ H fun x H1 => ∃ k, TruV K x H1 k ∧ Q k H1 := by
  obtain ⟨P, M, B, ρ, Q0, s, sl, t, k⟩ := h
  refine ⟨P, M, B, ρ, _, s, sl, t, fun v H1 r1 => ?_⟩
  obtain ⟨c, q, g, p, Lr, r⟩ := r1.drop
  obtain ⟨b, e, q⟩ := truV r q
  exact ⟨b, e, k b H1 q g p⟩
theorem lift_b {t : DT} {Q : Bool → Hp → Prop} (h : liftT K (dB t) σ H Q) : lift K t σ H fun x H1 => ∃ k, x = .bl k ∧ Q k H1 := by
  obtain ⟨P, M, B, ρ, Q0, s, sl, t, k⟩ := h
  refine ⟨P, M, B, ρ, _, s, sl, t, fun v H1 r1 => ?_⟩
  obtain ⟨c, q, g, p, Lr, r⟩ := r1.drop
  split at q
  · obtain ⟨rfl, _⟩ := r.bl_inv
    exact ⟨_, rfl, k _ H1 q g p⟩
  · exact q.elim
/-- go on with what follows, behind something that left only a value's choice -/
theorem liftT_next {c : DTT} {t : Bool → DT} {Q : VK} (h : lift K (fun ρ Q => c ρ fun k => t k ρ Q) σ H Q) : liftT K c σ H fun k H1 => lift K (t k) σ H1 Q := by
  obtain ⟨P, M, B, ρ, Q0, s, sl, q, k⟩ := h
  refine ⟨P, M, B, ρ, _, s, sl, q, fun b H1 q1 g p => ⟨P, M, B, ρ, Q0, s.keep g p, sl.keep s g, q1, fun v H2 r => k v H2 (Res.back (M' := M) r g p fun _ z => nomatch z)⟩⟩
theorem liftT_nextT {c : DTT} {t : Bool → DTT} {Q : Bool → Hp → Prop} (h : liftT K (fun ρ Q => c ρ fun k => t k ρ Q) σ H Q) : liftT K c σ H fun k H1 => liftT K (t k) σ H1 Q := by
  obtain ⟨P, M, B, ρ, Q0, s, sl, q, k⟩ := h
  refine ⟨P, M, B, ρ, _, s, sl, q, fun b H1 q1 g p => ⟨P, M, B, ρ, Q0, s.keep g p, sl.keep s g, q1, fun v H2 q2 g2 p2 => k v H2 q2 (g.trans g2) p2⟩⟩
theorem liftT_end {b : Bool} {Q : Bool → Hp → Prop} (h : liftT K (fun _ Q => Q b) σ H Q) : Q b H := by
  obtain ⟨P, M, B, ρ, Q0, s, sl, q, k⟩ := h
  exact k b H q Gr.refl s.pens
theorem lift_if {c : DTT} {a b : DT} {Q : VK} (h : lift K (dIf c a b) σ H Q) : tIf (liftT K c) (lift K a) (lift K b) σ H Q := by
  have h1 := liftT_next (t := fun k => if k = true then a else b) (c := c) (σ := σ) (H := H) (Q := Q) (by
    obtain ⟨P, M, B, ρ, Q0, s, sl, q, k⟩ := h
    exact ⟨P, M, B, ρ, Q0, s, sl, by
      have e : (fun k => (if k = true then a else b) ρ Q0) = fun k => if k = true then a ρ Q0 else b ρ Q0 := by funext k; cases k <;> rfl
      show c ρ (fun k => (if k = true then a else b) ρ Q0)
      rw [e]; exact q, k⟩)
  obtain ⟨P, M, B, ρ, Q0, s, sl, q, k⟩ := h1
  refine ⟨P, M, B, ρ, Q0, s, sl, q, fun b' H' q' g p => ?_⟩
  have z := k b' H' q' g p
  cases b' with
  | true => exact z
  | false => exact z
theorem lift_andT {a b : DTT} {Q : Bool → Hp → Prop} (h : liftT K (dAndT a b) σ H Q) : tAnd (liftT K a) (liftT K b) σ H Q := by
  obtain ⟨P, M, B, ρ, Q0, s, sl, q, k⟩ := h
  refine ⟨P, M, B, ρ, _, s, sl, q, fun b' H' q' g p => ?_⟩
  cases b' with
  | true => exact ⟨P, M, B, ρ, Q0, s.keep g p, sl.keep s g, q', fun v H2 q2 g2 p2 => k v H2 q2 (g.trans g2) p2⟩
  | false => exact k _ _ q' g p
theorem lift_orT {a b : DTT} {Q : Bool → Hp → Prop} (h : liftT K (dOrT a b) σ H Q) : tOr (liftT K a) (liftT K b) σ H Q := by
  obtain ⟨P, M, B, ρ, Q0, s, sl, q, k⟩ := h
  refine ⟨P, M, B, ρ, _, s, sl, q, fun b' H' q' g p => ?_⟩
  cases b' with
  | false => exact ⟨P, M, B, ρ, Q0, s.keep g p, sl.keep s g, q', fun v H2 q2 g2 p2 => k v H2 q2 (g.trans g2) p2⟩
  | true => exact k _ _ q' g p
theorem lift_notT {a : DTT} {Q : Bool → Hp → Prop} (h : liftT K (dNotT a) σ H Q) : tNot (liftT K a) σ H Q := by
  obtain ⟨P, M, B, ρ, Q0, s, sl, q, k⟩ := h
  exact ⟨P, M, B, ρ, _, s, sl, q, fun b' H' q' g p => k _ _ q' g p⟩
theorem lift_and {a b : DT} {Q : VK} (h : lift K (dAnd a b) σ H Q) : tAndV (lift K a) (lift K b) σ H Q := by
  obtain ⟨P, M, B, ρ, Q0, s, sl, q, k⟩ := h
  refine ⟨P, M, B, ρ, _, s, sl, q, fun v H1 r1 => ?_⟩
  obtain ⟨c, q, g, p, Lr, r⟩ := r1.drop
  have s1 := s.keep g p
  split at q
  · obtain ⟨rfl, _⟩ := r.bl_inv
    exact ⟨true, rfl, ⟨P, M, B, ρ, Q0, s1, sl.keep s g, q, fun v H2 r => k v H2 (Res.back (M' := M) r g p fun _ z => nomatch z)⟩⟩
  · obtain ⟨rfl, _⟩ := r.bl_inv
    exact ⟨false, rfl, k _ _ (Res.back (M' := M) (Res.same (T := []) s1 .bl q) g p fun _ z => nomatch z)⟩
  · exact q.elim
theorem lift_or {a b : DT} {Q : VK} (h : lift K (dOr a b) σ H Q) : tOrV (lift K a) (lift K b) σ H Q := by
  obtain ⟨P, M, B, ρ, Q0, s, sl, q, k⟩ := h
  refine ⟨P, M, B, ρ, _, s, sl, q, fun v H1 r1 => ?_⟩
  obtain ⟨c, q, g, p, Lr, r⟩ := r1.drop
  have s1 := s.keep g p
  split at q
  · obtain ⟨rfl, _⟩ := r.bl_inv
    exact ⟨true, rfl, k _ _ (Res.back (M' := M) (Res.same (T := []) s1 .bl q) g p fun _ z => nomatch z)⟩
  · obtain ⟨rfl, _⟩ := r.bl_inv
    exact ⟨false, rfl, ⟨P, M, B, ρ, Q0, s1, sl.keep s g, q, fun v H2 r => k v H2 (Res.back (M' := M) r g p fun _ z => nomatch z)⟩⟩
  · exact q.elim
theorem lift_not {a : DT} {Q : VK} (h : lift K (dNot a) σ H Q) : tNotV (lift K a) σ H Q := by
  obtain ⟨P, M, B, ρ, Q0, s, sl, q, k⟩ := h
  refine ⟨P, M, B, ρ, _, s, sl, q, fun v H1 r1 => ?_⟩
  obtain ⟨c, q, g, p, Lr, r⟩ := r1.drop
  split at q
  · obtain ⟨rfl, _⟩ := r.bl_inv
    exact ⟨_, rfl, k _ _ (Res.back (M' := M) (Res.same (T := []) (s.keep g p) .bl q) g p fun _ z => nomatch z)⟩
  · exact q.elim
theorem PensOk.mix (h : PensOk P M H) (h' : PensOk P M' H') : PensOk P M H' := fun a l hl => by
  obtain ⟨n1, n2, _⟩ := h a l hl
  obtain ⟨_, _, n3, r⟩ := h' a l hl
  exact ⟨n1, n2, n3, r⟩
theorem nil_app {L : List Addr} : L ++ [] = L := List.append_nil L
theorem lift_chain {o p : D2} {a b c : DT} {Q : VK} (h : lift K (dChain o p a b c) σ H Q) : tChain (rD K (o2 o)) (rD K (o2 p)) (lift K a) (lift K b) (lift K c) σ H Q := by
  obtain ⟨P, M, B, ρ, Q0, s, sl, t, k⟩ := h
  refine ⟨P, M, B, ρ, _, s, sl, t, fun x H1 r1 => ?_⟩
  obtain ⟨d, L1, t1, g1, p1, r1, n1, f1⟩ := r1
  have f1 : ∀ a ∈ L1, H a = none := fun a z => (f1 a z).elim id fun q => nomatch q
  have s1 := s.after g1 p1 fun a z => (Rep.own r1 a z).1
  have sl1 := sl.after s g1 f1
  refine ⟨P, L1 ++ M, L1 ++ B, ρ, _, s1, sl1, t1, fun y H2 r2 => ?_⟩
  obtain ⟨e, L3, t2, g2, p2, r2, n2, f2⟩ := r2
  have f2 : ∀ a ∈ L3, H1 a = none := fun a z => (f2 a z).elim id fun q => nomatch q
  have s2 := s1.after g2 p2 fun a z => (Rep.own r2 a z).1
  have sl2 := sl1.after s1 g2 f2
  have r1' := Rep.gr g2 s1.lists (new_or f2) (new_or f2) r1
  have f3 : ∀ a ∈ L1 ++ (L3 ++ []), H a = none := fun a z => by
    rw [nil_app] at z
    rcases List.mem_append.mp z with z | z
    · exact f1 a z
    · exact g1.nil p1 (f2 a z)
  have r3 : Reps K P ((L1 ++ (L3 ++ [])) ++ M) ((L1 ++ (L3 ++ [])) ++ B) H2 [x, y] [d, e] (L1 ++ (L3 ++ [])) := by
    refine .cons (Rep.sub ?_ ?_ r1') (.cons (Rep.sub ?_ ?_ r2) .nil) <;> (rw [nil_app]; exact fun a z => mem3.mpr z)
  have A := Args.of s (g1.trans g2) (p2.grow fun a z => .inl (by rw [nil_app] at z; exact mem3.mpr z)) r3 (by rw [nil_app]; exact nodup_app n1 n2 fun a z q => r1.trk a z (f2 a q)) f3
  refine ⟨P, M, B, [d, e], L1 ++ (L3 ++ []), _, A, t2, fun v H3 r4 => ?_⟩
  obtain ⟨c', Lr, q, g3, p3, r5, n5, f5⟩ := r4
  split at q
  · obtain ⟨rfl, _⟩ := r5.bl_inv
    refine ⟨true, rfl, ?_⟩
    have s3 : Stt P (L3 ++ (L1 ++ M)) (L3 ++ (L1 ++ B)) H3 := s2.keep g3 (s2.pens.mix p3)
    have sl3 := sl2.keep s2 g3
    refine ⟨P, _, _, ρ, _, s3, sl3, q, fun w' H4 r6 => ?_⟩
    obtain ⟨d6, L6, t6, g6, p6, r6, n6, f6⟩ := r6
    have f6 : ∀ a ∈ L6, H3 a = none := fun a z => (f6 a z).elim id fun q => nomatch q
    have gy := g3.trans g6
    have ry := Rep.gr gy s2.lists (fun a z => new_or f6 a z |>.elim .inl fun q => .inr (g3.nil p3 q)) (fun a z => new_or f6 a z |>.elim .inl fun q => .inr (g3.nil p3 q)) r2
    have m6 : ∀ {N : List Addr}, ∀ a ∈ (L3 ++ (L6 ++ [])) ++ N, a ∈ L6 ++ (L3 ++ (L1 ++ N)) := fun a z => by
      rw [nil_app] at z
      rcases List.mem_append.mp z with z | z
      · rcases List.mem_append.mp z with z | z
        · exact List.mem_append_right _ (List.mem_append_left _ z)
        · exact List.mem_append_left _ z
      · exact List.mem_append_right _ (List.mem_append_right _ (List.mem_append_right _ z))
    have r7 : Reps K P ((L3 ++ (L6 ++ [])) ++ M) ((L3 ++ (L6 ++ [])) ++ B) H4 [y, w'] [e, d6] (L3 ++ (L6 ++ [])) :=
      .cons (Rep.sub m6 m6 ry) (.cons (Rep.sub m6 m6 r6) .nil)
    have f7 : ∀ a ∈ L3 ++ (L6 ++ []), H a = none := fun a z => by
      rw [nil_app] at z
      rcases List.mem_append.mp z with z | z
      · exact g1.nil p1 (f2 a z)
      · exact g1.nil p1 (g2.nil p2 (g3.nil p3 (f6 a z)))
    have G : Gr P.as H H4 := (g1.trans g2).trans gy
    have A7 := Args.of s G (p6.grow fun a z => .inl (m6 a z)) r7 (by rw [nil_app]; exact nodup_app n2 n6 fun a z q => Gr.trk g3 p3 (r2.trk a z) (f6 a q)) f7
    exact ⟨P, M, B, [e, d6], _, Q0, A7, t6, fun v H' r => k v H' (Res.back r G p6 f7)⟩
  · obtain ⟨rfl, e0⟩ := r5.bl_inv
    subst e0
    exact ⟨false, rfl, k _ _ ⟨.bl false, [], q, (g1.trans g2).trans g3, p3, r5, List.nodup_nil, fun _ z => nomatch z⟩⟩
  · exact q.elim
end
end DL
set_option maxHeartbeats 4000000
namespace DL
open PySem PySem.Spec PyProof.Rows L2
variable [Tb]
/-- from there to here: but for pens and one's own lists all stays -/
structure StAft (P : Pens) (M B : List Addr) (H : Hp) (P' : Pens) (M' : List Addr) (H' : Hp) : Prop where
  gr : ∀ b o, H b = some o → b ∉ P.as → (b ∉ M ∨ b ∈ B) → GrO o (H' b)
  pens : ∀ p ∈ P, p ∈ P'
  newp : ∀ a ∈ P'.as, a ∈ P.as ∨ H a = none ∨ (a ∈ M ∧ a ∉ B)
  newm : ∀ a ∈ M', a ∈ M ∨ H a = none
  tr : ∀ b, H b ≠ none → H' b ≠ none
  tab : ∀ b q, (b, q) ∈ Tb.T → TabF H b q → TabF H' b q
section
variable {K : PySem.W.Frag} {P P' P'' : Pens} {M M' M'' B : List Addr} {H H' H'' : Hp}
theorem StAft.refl : StAft P M B H P M H := ⟨fun _ _ h _ _ => GrO.of h, fun _ z => z, fun _ z => .inl z, fun _ z => .inl z, fun _ z => z, fun _ _ _ t => t⟩
theorem StAft.trans (a : StAft P M B H P' M' H') (b : StAft P' M' B H' P'' M'' H'') : StAft P M B H P'' M'' H'' := by
  refine ⟨fun c o h n1 n2 => ?_, fun p z => b.pens p (a.pens p z), fun c z => ?_, fun c z => ?_, fun c z => b.tr c (a.tr c z), fun c q mT t => b.tab c q mT (a.tab c q mT t)⟩
  · have h1 := a.gr c o h n1 n2
    have e1 : c ∉ P'.as := fun z => by
      rcases a.newp c z with q | q | q
      · exact n1 q
      · rw [q] at h; cases h
      · exact n2.elim (fun w => w q.1) fun w => q.2 w
    have e2 : c ∉ M' ∨ c ∈ B := by
      rcases n2 with n2 | n2
      · refine .inl fun z => ?_
        rcases a.newm c z with q | q
        · exact n2 q
        · rw [q] at h; cases h
      · exact .inr n2
    cases o with
    | tbl ps =>
      obtain ⟨qs, e⟩ := h1
      exact (b.gr c _ e e1 e2 : ∃ ps, _)
    | _ => exact b.gr c _ h1 e1 e2
  · have nn : H' c = none → H c = none := fun z => Classical.byContradiction fun q => a.tr c q z
    rcases b.newp c z with q | q | q
    · exact a.newp c q
    · exact .inr (.inl (nn q))
    · rcases a.newm c q.1 with w | w
      · exact .inr (.inr ⟨w, q.2⟩)
      · exact .inr (.inl w)
  · rcases b.newm c z with q | q
    · exact a.newm c q
    · exact .inr (Classical.byContradiction fun w => a.tr c w q)
theorem SqT.aft (s : Stt P M B H) (f : StAft P M B H P' M' H') {a : Addr} {xs : List V} (h : SqT K H a xs) : SqT K H' a xs := by
  have ne : ∀ o, H a = some o → (∀ ys, o ≠ .lst ys) → GrO o (H' a) := fun o e n => f.gr a o e (fun z => by
      obtain ⟨ys, q⟩ := s.lists a z
      rw [e] at q; cases q; exact n ys rfl) (.inl fun z => by
      obtain ⟨ys, q⟩ := s.ls a z
      rw [e] at q; cases q; exact n ys rfl)
  rcases h with (h | ⟨o, h⟩) | h
  · exact .inl (.inl (ne _ h fun _ z => nomatch z))
  · exact .inl (.inr ⟨o, ne _ h fun _ z => nomatch z⟩)
  · exact .inr h
theorem SqF.aft (f : StAft P M B H P' M' H') {a : Addr} {xs : List V} (h : SqF K (P.as ++ M) H a xs) : SqF K (P'.as ++ M') H' a xs := by
  rcases h with ⟨r, n⟩ | h
  · have n1 : a ∉ P.as := fun z => n (List.mem_append_left _ z)
    have n2 : a ∉ M := fun z => n (List.mem_append_right _ z)
    have t := Rd.trk r
    refine .inl ⟨?_, fun z => ?_⟩
    · rcases r with r | ⟨o, r⟩
      · exact .inl (f.gr a _ r n1 (.inl n2))
      · exact .inr ⟨o, f.gr a _ r n1 (.inl n2)⟩
    · rcases List.mem_append.mp z with z | z
      · rcases f.newp a z with q | q | q
        · exact n1 q
        · exact t q
        · exact n2 q.1
      · rcases f.newm a z with q | q
        · exact n2 q
        · exact t q
  · exact .inr h
mutual
theorem Rep.aft (s : Stt P M B H) (f : StAft P M B H P' M' H') : ∀ {v : V} {d : D} {L : List Addr}, Rep K P M B H v d L → d.pf = true → Rep K P' M' B H' v d []
  | _, _, _, .non, _ => .non
  | _, _, _, .bl, _ => .bl
  | _, _, _, .int, _ => .int
  | _, _, _, .str, _ => .str
  | _, _, _, .pen h, _ => .pen (f.pens _ h)
  | _, _, _, .tup h r, p => .tup (SqT.aft s f h) (Reps.aft s f r (by simpa [D.pf] using p))
  | _, _, _, .lstF h r p, _ => .lstF (SqF.aft f h) (Reps.aft s f r p) p
  | _, _, _, .lstB _ _, p => by simp [D.pf] at p
  | _, _, _, .lstO _ _ _, p => by simp [D.pf] at p
theorem Reps.aft (s : Stt P M B H) (f : StAft P M B H P' M' H') : ∀ {vs : List V} {ds : List D} {L : List Addr}, Reps K P M B H vs ds L → D.pfs ds = true → Reps K P' M' B H' vs ds []
  | _, _, _, .nil, _ => .nil
  | _, _, _, .cons h r, p => by
    simp only [D.pfs, Bool.and_eq_true] at p
    exact .cons (L1 := []) (L2 := []) (Rep.aft s f h p.1) (Reps.aft s f r p.2)
end
end
/-! ### what is walked -/
/-- in a comprehension -/
def itemsC : D → Option (List D)
  | .lst .o xs => if D.nos xs = true then some xs else if D.nbs xs = true then some (D.fzs xs) else none
  | .lst _ xs => some xs
  | .tup xs => if D.nos xs = true then some xs else if D.nbs xs = true then some (D.fzs xs) else none
  | .str z => some (z.cps.toList.map fun c => .str ⟨#[c]⟩)
  | _ => none
/-- in a for: nothing borrowed -/
def itemsS : D → Option (List D)
  | .lst .b _ => none
  | .lst .f xs => some xs
  | .lst .o xs => if D.pfs xs = true then some xs else if D.nbs xs = true then some (D.fzs xs) else none
  | .tup xs => if D.pfs xs = true then some xs else if D.nbs xs = true then some (D.fzs xs) else none
  | .str z => some (z.cps.toList.map fun c => .str ⟨#[c]⟩)
  | _ => none
def rngD (lo hi : Int) : List D := (List.range (hi - lo).toNat).map fun i => D.int (lo + (i : Nat))
/-- downward -/
def rdnD (lo : Int) (n : Nat) : List D := (List.range n).map fun i => D.int (lo + (i : Nat) * (-1))
def enumD (ds : List D) : List D := ds.mapIdx fun i d => .tup [.int (i : Nat), d]
def zipD (ds es : List D) : List D := List.zipWith (fun d e => D.tup [d, e]) ds es
abbrev DTI := Env → (List D → Prop) → Prop
def dIter (f : D → Option (List D)) (t : DT) : DTI := fun ρ Q => t ρ fun d => match f d with
  | some ds => Q ds
  | none => False
def dEnum (f : D → Option (List D)) (t : DT) : DTI := fun ρ Q => t ρ fun d => match d with
  | .lst k xs => (match f (.lst k xs) with
    | some ds => Q (enumD ds)
    | none => False)
  | _ => False
def seqK : D → Nat
  | .lst _ _ => 1
  | .tup _ => 2
  | _ => 0
def dZip (f : D → Option (List D)) (a b : DT) : DTI := fun ρ Q => a ρ fun d => b ρ fun e => if seqK d = seqK e ∧ seqK d ≠ 0 then (match f d, f e with
    | some ds, some es => Q (zipD ds es)
    | _, _ => False) else False
def dRng1 (a : DT) : DTI := fun ρ Q => a ρ fun d => match d with
  | .int j => -1000000000000 ≤ j ∧ j ≤ 1000000000000 ∧ Q (rngD 0 j)
  | _ => False
def dRng2 (a b : DT) : DTI := fun ρ Q => a ρ fun d => b ρ fun e => match d, e with
  | .int i, .int j => (-1000000000000 ≤ i ∧ i ≤ 1000000000000) ∧ (-1000000000000 ≤ j ∧ j ≤ 1000000000000) ∧ Q (rngD i j)
  | _, _ => False

/-- what stands at the iterator's turns -/
structure Wk (K : PySem.W.Frag) (P : Pens) (M B : List Addr) (H : Hp) (ds : List D) (J : It) : Prop where
  go : ∀ i, i < ds.length → J.go i H
  stop : J.stop ds.length H
  yld : ∀ i x H', i < ds.length → J.yld i H x H' → (H' = H ∨ ∃ T us, H T = none ∧ H' = upd H T (.tup us)) ∧ ∃ d, ds[i]? = some d ∧ Rep K P M B H' x d []
/-- a list or a tuple -/
inductive Nd (K : PySem.W.Frag) (N : List Addr) (H : Hp) : Nat → Addr → List V → Prop
  | lst {a vs} : SqF K N H a vs → Nd K N H 1 a vs
  | tup {a vs} : SqT K H a vs → Nd K N H 2 a vs
inductive Src (K : PySem.W.Frag) (P : Pens) (N M B : List Addr) (H : Hp) : List D → It → Prop
  | lst {a vs ds} : SqF K N H a vs → Reps K P M B H vs ds [] → Src K P N M B H ds (Itl K a)
  | tup {a vs ds} : SqT K H a vs → Reps K P M B H vs ds [] → Src K P N M B H ds (Itt K a)
  | str {z : Str} : Src K P N M B H (z.cps.toList.map fun c => .str ⟨#[c]⟩) (Its z)
  | rng {lo hi : Int} : Src K P N M B H (rngD lo hi) (Itr lo (hi - lo).toNat)
  | rdn {lo : Int} {n : Nat} : Src K P N M B H (rdnD lo n) (Itc lo (-1) n)
  | enum {a vs ds} : SqF K N H a vs → Reps K P M B H vs ds [] → Src K P N M B H (enumD ds) (Ite K a)
  | zipL {a vs ds b ws es} : SqF K N H a vs → Reps K P M B H vs ds [] → SqF K N H b ws → Reps K P M B H ws es [] → Src K P N M B H (zipD ds es) (Itz K a b)
  | zipT {a vs ds b ws es} : SqT K H a vs → Reps K P M B H vs ds [] → SqT K H b ws → Reps K P M B H ws es [] → Src K P N M B H (zipD ds es) (RZ.ItzT K a b)
section
variable {K : PySem.W.Frag} {P : Pens} {M M' B B' N L Lr : List Addr} {H H' : Hp} {σ : Sg} {ρ : Env} {v : V} {d : D} {ds es : List D} {vs ws : List V} {J : It}
theorem Reps.at {i : Nat} {x : V} (r : Reps K P M B H vs ds []) (e : vs[i]? = some x) : ∃ d, ds[i]? = some d ∧ Rep K P M B H x d [] := by
  obtain ⟨h1, h2⟩ := List.getElem?_eq_some_iff.mp e
  have hl := r.len
  have h3 : i < ds.length := by omega
  obtain ⟨v, L1, e1, q, s⟩ := r.get (List.getElem?_eq_getElem h3)
  rw [e] at e1; cases e1
  have : L1 = [] := by
    cases L1 with
    | nil => rfl
    | cons a _ => exact nomatch s a (List.mem_cons_self ..)
  subst this
  exact ⟨_, List.getElem?_eq_getElem h3, q⟩
/-- the pair laid anew -/
theorem rep_pair (hP : ∀ b ∈ P.as, ∃ ys, H b = some (.lst ys)) {T : Addr} (hT : H T = none) {x y : V} {c e : D} (h1 : Rep K P M B H x c []) (h2 : Rep K P M B H y e []) : Rep K P M B (upd H T (.tup [x, y])) (.ref T) (.tup [c, e]) [] := by
  have k : ∀ {v : V} {d : D}, Rep K P M B H v d [] → Rep K P M B (upd H T (.tup [x, y])) v d [] := fun r => Rep.gr (Gr.laid hT) hP (fun _ z => .inl z) (fun _ z => .inl z) r
  exact .tup (SqT.of upd_same) (.cons (L1 := []) (L2 := []) (k h1) (.cons (L1 := []) (L2 := []) (k h2) .nil))
theorem Src.now (hP : ∀ b ∈ P.as, ∃ ys, H b = some (.lst ys)) (h : Src K P N M B H ds J) : Wk K P M B H ds J := by
  cases h with
  | lst h r =>
    have hl := r.len
    refine ⟨fun i hi => ⟨_, _, h.sq, List.getElem?_eq_getElem (by omega)⟩, ⟨_, h.sq, by omega⟩, fun i x H' hi y => ?_⟩
    obtain ⟨e, y⟩ := y
    subst e
    exact ⟨.inl rfl, r.at (y _ h.sq)⟩
  | tup h r =>
    have hl := r.len
    refine ⟨fun i hi => ⟨_, _, h, List.getElem?_eq_getElem (by omega)⟩, ⟨_, h, by omega⟩, fun i x H' hi y => ?_⟩
    obtain ⟨e, y⟩ := y
    subst e
    exact ⟨.inl rfl, r.at (y _ h)⟩
  | @str z =>
    have hl : (z.cps.toList.map fun c => D.str ⟨#[c]⟩).length = z.cps.size := by simp
    refine ⟨fun i hi => by rw [hl] at hi; exact hi, by rw [hl]; exact Nat.le_refl _, fun i x H' hi y => ?_⟩
    obtain ⟨e, c, ec, ex⟩ := y
    subst e ex
    refine ⟨.inl rfl, .str ⟨#[c]⟩, ?_, .str⟩
    rw [List.getElem?_map, Array.getElem?_toList, ec]; rfl
  | @rng lo hi =>
    have hl : (rngD lo hi).length = (hi - lo).toNat := by simp [rngD]
    refine ⟨fun i h => by rw [hl] at h; exact h, by rw [hl]; exact Nat.le_refl _, fun i x H' h y => ?_⟩
    obtain ⟨e, ex⟩ := y
    subst e ex
    refine ⟨.inl rfl, .int (lo + i), ?_, .int⟩
    rw [hl] at h
    simp [rngD, h]
  | @rdn lo n =>
    have hl : (rdnD lo n).length = n := by simp [rdnD]
    refine ⟨fun i h => by rw [hl] at h; exact h, by rw [hl]; exact Nat.le_refl _, fun i x H' h y => ?_⟩
    obtain ⟨e, ex⟩ := y
    subst e ex
    refine ⟨.inl rfl, .int (lo + (i : Nat) * (-1)), ?_, .int⟩
    rw [hl] at h
    simp [rdnD, h]
  | @enum a vs ds h r =>
    have hl := r.len
    have hl2 : (enumD ds).length = ds.length := by simp [enumD]
    refine ⟨fun i hi => ⟨_, _, h.sq, List.getElem?_eq_getElem (by omega)⟩, ⟨_, h.sq, by omega⟩, fun i x H' hi y => ?_⟩
    obtain ⟨T, x', e1, e2, e3, e4⟩ := y
    subst e1 e3
    obtain ⟨d, ed, rd⟩ := r.at (e4 _ h.sq)
    refine ⟨.inr ⟨T, _, e2, rfl⟩, .tup [.int (i : Nat), d], ?_, rep_pair hP e2 .int rd⟩
    simp [enumD, List.getElem?_mapIdx, ed]
  | @zipL a vs ds b ws es h r h2 r2 =>
    have hl := r.len
    have hl2 := r2.len
    have hl3 : (zipD ds es).length = min ds.length es.length := by simp [zipD]
    refine ⟨fun i hi => ⟨_, _, _, _, h.sq, h2.sq, List.getElem?_eq_getElem (by omega), List.getElem?_eq_getElem (by omega)⟩, ⟨_, _, h.sq, h2.sq, by omega⟩, fun i x H' hi y => ?_⟩
    obtain ⟨T, x', y', e1, e2, e3, e4, e5⟩ := y
    subst e1 e3
    obtain ⟨d, ed, rd⟩ := r.at (e4 _ h.sq)
    obtain ⟨e, ee, re⟩ := r2.at (e5 _ h2.sq)
    refine ⟨.inr ⟨T, _, e2, rfl⟩, .tup [d, e], ?_, rep_pair hP e2 rd re⟩
    simp [zipD, List.getElem?_zipWith, ed, ee]
  | @zipT a vs ds b ws es h r h2 r2 =>
    have hl := r.len
    have hl2 := r2.len
    have hl3 : (zipD ds es).length = min ds.length es.length := by simp [zipD]
    refine ⟨fun i hi => ⟨_, _, _, _, h, h2, List.getElem?_eq_getElem (by omega), List.getElem?_eq_getElem (by omega)⟩, ⟨_, _, h, h2, by omega⟩, fun i x H' hi y => ?_⟩
    obtain ⟨T, x', y', e1, e2, e3, e4, e5⟩ := y
    subst e1 e3
    obtain ⟨d, ed, rd⟩ := r.at (e4 _ h)
    obtain ⟨e, ee, re⟩ := r2.at (e5 _ h2)
    refine ⟨.inr ⟨T, _, e2, rfl⟩, .tup [d, e], ?_, rep_pair hP e2 rd re⟩
    simp [zipD, List.getElem?_zipWith, ed, ee]
mutual
/-- frozen, where nothing is borrowed -/
theorem Rep.fzn (hM : ∀ a ∈ N, a ∈ M) : ∀ {v : V} {d : D} {L : List Addr}, Rep K P M B H v d L → d.nb = true → (∀ a ∈ L, a ∉ N) → (∀ {B' : List Addr}, Rep K P N B' H v d.fz []) ∧ d.fz.pf = true
  | _, _, _, .non, _, _ => ⟨.non, rfl⟩
  | _, _, _, .bl, _, _ => ⟨.bl, rfl⟩
  | _, _, _, .int, _, _ => ⟨.int, rfl⟩
  | _, _, _, .str, _, _ => ⟨.str, rfl⟩
  | _, _, _, .pen h, _, _ => ⟨.pen h, rfl⟩
  | _, _, _, .tup h r, b, n => by
    obtain ⟨q, p⟩ := Reps.fzn hM r (by simpa [D.nb] using b) n
    exact ⟨.tup h q, by simpa [D.fz, D.pf] using p⟩
  | _, _, _, .lstF h r p, _, _ => ⟨.lstF (SqF.sub h (sub_app hM)) (Reps.sub hM (fun _ z => z) (Reps.pf r p).2) p, by simpa [D.fz, D.pf] using p⟩
  | _, _, _, .lstB _ _, b, _ => by simp [D.nb] at b
  | _, _, _, @Rep.lstO _ _ _ _ _ a vs ds L h n r, b, m => by
    obtain ⟨q, p⟩ := Reps.fzn hM r (by simpa [D.nb] using b) (fun b z => m b (List.mem_cons_of_mem _ z))
    refine ⟨.lstF (.inl ⟨.inl h, fun z => ?_⟩) q p, by simpa [D.fz, D.pf] using p⟩
    rcases List.mem_append.mp z with z | z
    · exact n z
    · exact m a (List.mem_cons_self ..) z
theorem Reps.fzn (hM : ∀ a ∈ N, a ∈ M) : ∀ {vs : List V} {ds : List D} {L : List Addr}, Reps K P M B H vs ds L → D.nbs ds = true → (∀ a ∈ L, a ∉ N) → (∀ {B' : List Addr}, Reps K P N B' H vs (D.fzs ds) []) ∧ D.pfs (D.fzs ds) = true
  | _, _, _, .nil, _, _ => ⟨.nil, rfl⟩
  | _, _, _, .cons h r, b, n => by
    simp only [D.nbs, Bool.and_eq_true] at b
    obtain ⟨q1, p1⟩ := Rep.fzn hM h b.1 (fun a z => n a (List.mem_append_left _ z))
    obtain ⟨q2, p2⟩ := Reps.fzn hM r b.2 (fun a z => n a (List.mem_append_right _ z))
    exact ⟨.cons (L1 := []) (L2 := []) q1 q2, by simp only [D.fzs, D.pfs, p1, p2, Bool.and_self]⟩
end
/-- the three kinds of what a value is walked as -/
inductive Kd (K : PySem.W.Frag) (N : List Addr) (H : Hp) : V → It → Nat → Addr → List V → Prop
  | lst {a vs} : SqF K N H a vs → Kd K N H (.ref a) (Itl K a) 1 a vs
  | tup {a vs} : SqT K H a vs → Kd K N H (.ref a) (Itt K a) 2 a vs
theorem in_r {L M : List Addr} : ∀ a ∈ M, a ∈ L ++ M := fun _ z => List.mem_append_right _ z
theorem nodeC (hs : ∀ a ∈ B, a ∈ M) (hd : ∀ a ∈ Lr, a ∉ M) (r : Rep K P (Lr ++ M) (Lr ++ B) H v d Lr) (h : itemsC d = some ds) :
    (∃ a vs, v = .ref a ∧ seqK d = 1 ∧ SqF K (P.as ++ B) H a vs ∧ Reps K P M B H vs ds []) ∨ (∃ a vs, v = .ref a ∧ seqK d = 2 ∧ SqT K H a vs ∧ Reps K P M B H vs ds []) ∨ ∃ z : Str, v = .str z ∧ d = .str z ∧ ds = z.cps.toList.map fun c => .str ⟨#[c]⟩ := by
  have subF : ∀ b ∈ P.as ++ B, b ∈ P.as ++ (Lr ++ M) := fun b z => (List.mem_append.mp z).elim (fun q => List.mem_append_left _ q) fun q => List.mem_append_right _ (List.mem_append_right _ (hs b q))
  have subB : ∀ b ∈ P.as ++ B, b ∈ P.as ++ (Lr ++ B) := fun b z => (List.mem_append.mp z).elim (fun q => List.mem_append_left _ q) fun q => List.mem_append_right _ (List.mem_append_right _ q)
  cases r with
  | non => simp [itemsC] at h
  | bl => simp [itemsC] at h
  | int => simp [itemsC] at h
  | str =>
    have e : _ = ds := Option.some.inj h
    exact .inr (.inr ⟨_, rfl, rfl, e.symm⟩)
  | pen _ => simp [itemsC] at h
  | tup h1 r =>
    simp only [itemsC] at h
    refine .inr (.inl ⟨_, _, rfl, rfl, h1, ?_⟩)
    split at h
    · rename_i hn
      have e : _ = ds := Option.some.inj h
      subst e
      have el := r.no hn
      subst el
      exact Reps.sub in_r in_r r
    · split at h
      · rename_i hn
        have e : _ = ds := Option.some.inj h
        subst e
        exact (Reps.fzn in_r r hn hd).1
      · cases h
  | lstF h1 r p =>
    have e : _ = ds := Option.some.inj h
    subst e
    exact .inl ⟨_, _, rfl, rfl, h1.sub subF, Reps.sub in_r in_r r⟩
  | lstB h1 r =>
    have e : _ = ds := Option.some.inj h
    subst e
    exact .inl ⟨_, _, rfl, rfl, h1.sub subB, Reps.sub in_r in_r r⟩
  | lstO h1 n r =>
    simp only [itemsC] at h
    refine .inl ⟨_, _, rfl, rfl, .inl ⟨.inl h1, fun z => (List.mem_append.mp z).elim n fun q => hd _ (List.mem_cons_self ..) (hs _ q)⟩, ?_⟩
    split at h
    · rename_i hn
      have e : _ = ds := Option.some.inj h
      subst e
      have el := r.no hn
      subst el
      exact Reps.sub in_r in_r r
    · split at h
      · rename_i hn
        have e : _ = ds := Option.some.inj h
        subst e
        exact (Reps.fzn in_r r hn fun a z => hd a (List.mem_cons_of_mem _ z)).1
      · cases h
theorem nodeS (hd : ∀ a ∈ Lr, a ∉ M) (r : Rep K P (Lr ++ M) (Lr ++ B) H v d Lr) (h : itemsS d = some ds) :
    D.pfs ds = true ∧ ((∃ a vs, v = .ref a ∧ seqK d = 1 ∧ SqF K (P.as ++ M) H a vs ∧ Reps K P M B H vs ds []) ∨ (∃ a vs, v = .ref a ∧ seqK d = 2 ∧ SqT K H a vs ∧ Reps K P M B H vs ds []) ∨ ∃ z : Str, v = .str z ∧ d = .str z ∧ ds = z.cps.toList.map fun c => .str ⟨#[c]⟩) := by
  cases r with
  | non => simp [itemsS] at h
  | bl => simp [itemsS] at h
  | int => simp [itemsS] at h
  | @str z =>
    have e : _ = ds := Option.some.inj h
    subst e
    refine ⟨?_, .inr (.inr ⟨_, rfl, rfl, rfl⟩)⟩
    generalize z.cps.toList = l
    induction l with
    | nil => rfl
    | cons a l ih => simp only [List.map_cons, D.pfs, D.pf, Bool.true_and]; exact ih
  | pen _ => simp [itemsS] at h
  | tup h1 r =>
    simp only [itemsS] at h
    split at h
    · rename_i hn
      have e : _ = ds := Option.some.inj h
      subst e
      obtain ⟨el, r'⟩ := Reps.pf r hn
      subst el
      exact ⟨hn, .inr (.inl ⟨_, _, rfl, rfl, h1, Reps.sub in_r in_r r⟩)⟩
    · split at h
      · rename_i hn
        have e : _ = ds := Option.some.inj h
        subst e
        obtain ⟨q, p⟩ := Reps.fzn in_r r hn hd
        exact ⟨p, .inr (.inl ⟨_, _, rfl, rfl, h1, q⟩)⟩
      · cases h
  | lstF h1 r p =>
    have e : _ = ds := Option.some.inj h
    subst e
    exact ⟨p, .inl ⟨_, _, rfl, rfl, h1, Reps.sub in_r in_r r⟩⟩
  | lstB h1 r => simp [itemsS] at h
  | lstO h1 n r =>
    have hn0 : SqF K (P.as ++ M) H _ _ := .inl ⟨.inl h1, fun z => (List.mem_append.mp z).elim n (hd _ (List.mem_cons_self ..))⟩
    simp only [itemsS] at h
    split at h
    · rename_i hn
      have e : _ = ds := Option.some.inj h
      subst e
      obtain ⟨el, r'⟩ := Reps.pf r hn
      subst el
      exact ⟨hn, .inl ⟨_, _, rfl, rfl, hn0, Reps.sub in_r in_r r⟩⟩
    · split at h
      · rename_i hn
        have e : _ = ds := Option.some.inj h
        subst e
        obtain ⟨q, p⟩ := Reps.fzn in_r r hn fun a z => hd a (List.mem_cons_of_mem _ z)
        exact ⟨p, .inl ⟨_, _, rfl, rfl, hn0, q⟩⟩
      · cases h
/-- what is walked stays while the heap grows -/
theorem Src.gr (hP : ∀ b ∈ P.as, ∃ ys, H b = some (.lst ys)) (g : Gr P.as H H') (hM : ∀ a ∈ M', a ∈ M ∨ H a = none) (hB : ∀ a ∈ B', a ∈ B ∨ H a = none) (h : Src K P (P.as ++ B) M B H ds J) : Src K P (P.as ++ B') M' B' H' ds J := by
  have f : ∀ {a vs}, SqF K (P.as ++ B) H a vs → SqF K (P.as ++ B') H' a vs := fun h => h.gr g (fun _ z => List.mem_append_left _ z) (fun b z => (List.mem_append.mp z).elim (fun q => .inl (List.mem_append_left _ q)) fun q => (hB b q).elim (fun q => .inl (List.mem_append_right _ q)) .inr)
  have r : ∀ {vs ds}, Reps K P M B H vs ds [] → Reps K P M' B' H' vs ds [] := fun h => Reps.gr g hP hM hB h
  cases h with
  | lst h1 h2 => exact .lst (f h1) (r h2)
  | tup h1 h2 => exact .tup (SqT.gr h1 g hP) (r h2)
  | str => exact .str
  | rng => exact .rng
  | rdn => exact .rdn
  | enum h1 h2 => exact .enum (f h1) (r h2)
  | zipL h1 h2 h3 h4 => exact .zipL (f h1) (r h2) (f h3) (r h4)
  | zipT h1 h2 h3 h4 => exact .zipT (SqT.gr h1 g hP) (r h2) (SqT.gr h3 g hP) (r h4)
end
/-! ### the walk of any value -/
def iAny (K : PySem.W.Frag) (te : TE) : TI := fun σ H R => te σ H fun x H1 => (∃ a xs, x = .ref a ∧ SqL K H1 a xs ∧ R (Itl K a) H1) ∨ (∃ a xs, x = .ref a ∧ SqT K H1 a xs ∧ R (Itt K a) H1) ∨ ∃ z, x = .str z ∧ R (Its z) H1
theorem pi_any {X : Cx} {tg e : Expr} {te : TE} (he : PE X e te) : PI X tg e (iAny X.K te) := by
  refine ⟨fun pins s σ H R I h => ?_⟩
  refine thn (he.run pins s σ H _ I h) fun u s1 ⟨x, H1, I1, rx, q⟩ => ?_
  rcases q with ⟨a, xs, rfl, hq, q⟩ | ⟨a, xs, rfl, hq, q⟩ | ⟨z, rfl, q⟩
  · cases rx
    obtain ⟨its, rv, p, _⟩ := I1.list hq
    exact wpAny_pyIter_list p.isList (pi_one (tk := s1.toks) I1 _ (turn_list a _)
      ⟨_, Heap.get?_push_size _ rfl, rfl, rfl⟩ q)
  · cases rx
    obtain ⟨its, rv, p, _⟩ := I1.tuple hq
    exact wpAny_pyIter_tuple (show s1.heap.IsTuple a its.toArray from p) (pi_one (tk := s1.toks) I1 _ (turn_tuple a _)
      ⟨_, Heap.get?_push_size _ rfl, rfl, rfl⟩ q)
  · obtain ⟨t, rfl⟩ := rx
    cases ha : z.cps.all (· < 128) with
    | false => exact wpAny_pyIter_wide ha (pi_one (tk := s1.toks) I1 _ (turn_str _ z t "str_iterator" (.inr rfl))
        ⟨_, Heap.get?_push_size _ rfl, rfl, rfl⟩ q)
    | true => exact wpAny_pyIter_ascii ha (pi_one (tk := s1.toks) I1 _ (turn_str _ z t "str_ascii_iterator" (.inl rfl))
        ⟨_, Heap.get?_push_size _ rfl, rfl, rfl⟩ q)
end DL
set_option maxHeartbeats 4000000
namespace DL
open PySem PySem.Spec PyProof.Rows L2
variable [Tb]
/-! ### iterables, lifted -/
/-- in a comprehension: P, M, B as they stood ahead -/
def liftIC (K : PySem.W.Frag) (t : DTI) : TI := fun σ H R => ∃ P M B ρ Q0, Stt P M B H ∧ Slots K P M B H σ ρ ∧ t ρ Q0 ∧
  ∀ ds J H', Q0 ds → Gr P.as H H' → PensOk P M H' → Src K P (P.as ++ B) M B H' ds J → R J H'
def liftIS (K : PySem.W.Frag) (t : DTI) : TI := fun σ H R => ∃ P M B ρ Q0, Stt P M B H ∧ Slots K P M B H σ ρ ∧ t ρ Q0 ∧
  ∀ ds J H', Q0 ds → Gr P.as H H' → PensOk P M H' → (∀ P' M' H'', StAft P M B H' P' M' H'' → Stt P' M' B H'' → Wk K P' M' B H'' ds J) → D.pfs ds = true → R J H'
section
variable {K : PySem.W.Frag} {P : Pens} {M M' B B' L Lr : List Addr} {H H' : Hp} {σ : Sg} {ρ : Env} {v : V} {d : D} {ds : List D} {vs : List V} {Q0 : D → Prop}
/-- a value has been reckoned; its lists are let go -/
theorem res_open (s : Stt P M B H) (r : Res K P M B [] H Q0 v H') : ∃ c Lr, Q0 c ∧ Gr P.as H H' ∧ PensOk P M H' ∧ Rep K P (Lr ++ M) (Lr ++ B) H' v c Lr ∧ ∀ a ∈ Lr, a ∉ M := by
  obtain ⟨c, Lr, q, g, p, r, _, f⟩ := r
  exact ⟨c, Lr, q, g, p.grow fun a z => .inl (in_r a z), r, fun a z m => s.trk a m ((f a z).elim id fun q => nomatch q)⟩
theorem liftIC_any {t : DT} {R : It → Hp → Prop} (h : liftIC K (dIter itemsC t) σ H R) : iAny K (lift K t) σ H R := by
  obtain ⟨P, M, B, ρ, Q0, s, sl, q, k⟩ := h
  refine ⟨P, M, B, ρ, _, s, sl, q, fun v H1 r1 => ?_⟩
  obtain ⟨c, Lr, q, g, p, r, n⟩ := res_open s r1
  split at q
  · rename_i ds e
    rcases nodeC s.sub n r e with ⟨a, vs, rfl, _, h1, h2⟩ | ⟨a, vs, rfl, _, h1, h2⟩ | ⟨z, rfl, _, rfl⟩
    · exact .inl ⟨a, vs, rfl, h1.sq, k _ _ _ q g p (.lst h1 h2)⟩
    · exact .inr (.inl ⟨a, vs, rfl, h1, k _ _ _ q g p (.tup h1 h2)⟩)
    · exact .inr (.inr ⟨z, rfl, k _ _ _ q g p .str⟩)
  · exact q.elim
theorem futL (s : Stt P M B H) {a : Addr} (h1 : SqF K (P.as ++ M) H a vs) (h2 : Reps K P M B H vs ds []) (p : D.pfs ds = true) {P' : Pens} {M' : List Addr} {H' : Hp} (f : StAft P M B H P' M' H') : SqF K (P'.as ++ M') H' a vs ∧ Reps K P' M' B H' vs ds [] := ⟨SqF.aft f h1, Reps.aft s f h2 p⟩
theorem futT (s : Stt P M B H) {a : Addr} (h1 : SqT K H a vs) (h2 : Reps K P M B H vs ds []) (p : D.pfs ds = true) {P' : Pens} {M' : List Addr} {H' : Hp} (f : StAft P M B H P' M' H') : SqT K H' a vs ∧ Reps K P' M' B H' vs ds [] := ⟨SqT.aft s f h1, Reps.aft s f h2 p⟩
theorem liftIS_any {t : DT} {R : It → Hp → Prop} (h : liftIS K (dIter itemsS t) σ H R) : iAny K (lift K t) σ H R := by
  obtain ⟨P, M, B, ρ, Q0, s, sl, q, k⟩ := h
  refine ⟨P, M, B, ρ, _, s, sl, q, fun v H1 r1 => ?_⟩
  obtain ⟨c, Lr, q, g, p, r, n⟩ := res_open s r1
  split at q
  · rename_i ds e
    obtain ⟨pf, h⟩ := nodeS n r e
    rcases h with ⟨a, vs, rfl, _, h1, h2⟩ | ⟨a, vs, rfl, _, h1, h2⟩ | ⟨z, rfl, _, rfl⟩
    · exact .inl ⟨a, vs, rfl, h1.sq, k _ _ _ q g p (fun P' M' H'' f s' => (Src.lst (futL (s.keep g p) h1 h2 pf f).1 (futL (s.keep g p) h1 h2 pf f).2).now s'.lists) pf⟩
    · exact .inr (.inl ⟨a, vs, rfl, h1, k _ _ _ q g p (fun P' M' H'' f s' => (Src.tup (N := []) (futT (s.keep g p) h1 h2 pf f).1 (futT (s.keep g p) h1 h2 pf f).2).now s'.lists) pf⟩)
    · exact .inr (.inr ⟨z, rfl, k _ _ _ q g p (fun P' M' H'' f s' => (Src.str (N := [])).now s'.lists) pf⟩)
  · exact q.elim
theorem pfs_enum : ∀ (ds : List D), D.pfs ds = true → D.pfs (enumD ds) = true := by
  have go : ∀ (ds : List D) (n : Nat), D.pfs ds = true → D.pfs (ds.mapIdx fun i d => D.tup [.int ((i + n : Nat) : Int), d]) = true := by
    intro ds
    induction ds with
    | nil => intro _ _; rfl
    | cons d ds ih =>
      intro n h
      simp only [D.pfs, Bool.and_eq_true] at h
      have := ih (n + 1) h.2
      simp only [List.mapIdx_cons, D.pfs, D.pf, h.1, Bool.true_and, Bool.and_true]
      have e : (fun i (d : D) => D.tup [.int (((i + 1) + n : Nat) : Int), d]) = fun i d => D.tup [.int ((i + (n + 1) : Nat) : Int), d] := by
        funext i d; rw [show i + 1 + n = i + (n + 1) by omega]
      rw [e]; exact this
  intro ds h
  simpa [enumD] using go ds 0 h
theorem pfs_zip : ∀ (ds es : List D), D.pfs ds = true → D.pfs es = true → D.pfs (zipD ds es) = true := by
  intro ds
  induction ds with
  | nil => intro es _ _; simp [zipD, D.pfs]
  | cons d ds ih =>
    intro es h1 h2
    cases es with
    | nil => simp [zipD, D.pfs]
    | cons e es =>
      simp only [D.pfs, Bool.and_eq_true] at h1 h2
      have := ih es h1.2 h2.2
      simp only [zipD, List.zipWith_cons_cons, D.pfs, D.pf, h1.1, h2.1, Bool.true_and, Bool.and_true]
      exact this
theorem pfs_rng (lo hi : Int) : D.pfs (rngD lo hi) = true := by
  unfold rngD
  generalize List.range _ = l
  induction l with
  | nil => rfl
  | cons a l ih => simp only [List.map_cons, D.pfs, D.pf, Bool.true_and]; exact ih
/-- one argument of enumerate -/
theorem liftIC_enum {t : DT} {R : It → Hp → Prop} (h : liftIC K (dEnum itemsC t) σ H R) : iEnum K (tCons (lift K t) tNil) σ H R := by
  obtain ⟨P, M, B, ρ, Q0, s, sl, q, k⟩ := h
  refine ⟨P, M, B, ρ, _, s, sl, q, fun v H1 r1 => ?_⟩
  obtain ⟨c, Lr, q, g, p, r, n⟩ := res_open s r1
  split at q
  · split at q
    · rename_i ds e
      rcases nodeC s.sub n r e with ⟨a, vs, rfl, _, h1, h2⟩ | ⟨a, vs, rfl, e2, h1, h2⟩ | ⟨z, rfl, e2, rfl⟩
      · exact ⟨a, vs, rfl, h1.sq, k _ _ _ q g p (.enum h1 h2)⟩
      · cases e2
      · cases e2
    · exact q.elim
  · exact q.elim
theorem liftIS_enum {t : DT} {R : It → Hp → Prop} (h : liftIS K (dEnum itemsS t) σ H R) : iEnum K (tCons (lift K t) tNil) σ H R := by
  obtain ⟨P, M, B, ρ, Q0, s, sl, q, k⟩ := h
  refine ⟨P, M, B, ρ, _, s, sl, q, fun v H1 r1 => ?_⟩
  obtain ⟨c, Lr, q, g, p, r, n⟩ := res_open s r1
  split at q
  · split at q
    · rename_i ds e
      obtain ⟨pf, h⟩ := nodeS n r e
      rcases h with ⟨a, vs, rfl, _, h1, h2⟩ | ⟨a, vs, rfl, e2, h1, h2⟩ | ⟨z, rfl, e2, rfl⟩
      · exact ⟨a, vs, rfl, h1.sq, k _ _ _ q g p (fun P' M' H'' f s' => (Src.enum (futL (s.keep g p) h1 h2 pf f).1 (futL (s.keep g p) h1 h2 pf f).2).now s'.lists) (pfs_enum _ pf)⟩
      · cases e2
      · cases e2
    · exact q.elim
  · exact q.elim
theorem Nd.gr (hP : ∀ b ∈ P.as, ∃ ys, H b = some (.lst ys)) (g : Gr P.as H H') (hM : ∀ a ∈ M', a ∈ M ∨ H a = none) {k : Nat} {a : Addr} {vs : List V} (h : Nd K (P.as ++ M) H k a vs) : Nd K (P.as ++ M') H' k a vs := by
  cases h with
  | lst h => exact .lst (h.gr g (fun b z => List.mem_append_left _ z) (fun b z => (List.mem_append.mp z).elim (fun q => .inl (List.mem_append_left _ q)) fun q => (hM b q).elim (fun q => .inl (List.mem_append_right _ q)) .inr))
  | tup h => exact .tup (SqT.gr h g hP)
theorem liftIC_zip {t u : DT} {R : It → Hp → Prop} (h : liftIC K (dZip itemsC t u) σ H R) : RZ.iZipA K (tCons (lift K t) (tCons (lift K u) tNil)) σ H R := by
  obtain ⟨P, M, B, ρ, Q0, s, sl, q, k⟩ := h
  refine ⟨P, M, B, ρ, _, s, sl, q, fun v H1 r1 => ?_⟩
  obtain ⟨c, Lr, q, g, p, r, n⟩ := res_open s r1
  have s1 := s.keep g p
  have sl1 := sl.keep s g
  refine ⟨P, M, B, ρ, _, s1, sl1, q, fun v' H2 r2 => ?_⟩
  obtain ⟨c', Lr', q, g', p', r', n'⟩ := res_open s1 r2
  split at q
  · rename_i hk
    split at q
    · rename_i ds es e e'
      have G := g.trans g'
      have keep : ∀ {vs ds}, Reps K P M B H1 vs ds [] → Reps K P M B H2 vs ds [] := fun h => Reps.gr g' s1.lists (fun _ z => .inl z) (fun _ z => .inl z) h
      rcases nodeC s.sub n r e with ⟨a, vs, rfl, e1, h1, h2⟩ | ⟨a, vs, rfl, e1, h1, h2⟩ | ⟨z, rfl, e1, rfl⟩
      · rcases nodeC s.sub n' r' e' with ⟨b, ws, rfl, e2, h3, h4⟩ | ⟨b, ws, rfl, e2, h3, h4⟩ | ⟨z, rfl, e2, rfl⟩
        · have h1' := h1.gr g' (fun _ z => List.mem_append_left _ z) (fun _ z => .inl z)
          exact ⟨a, b, vs, ws, rfl, .inl ⟨h1'.sq, h3.sq, k _ _ _ q G p' (.zipL h1' (keep h2) h3 h4)⟩⟩
        · rw [e1, e2] at hk; exact absurd hk.1 (by decide)
        · subst e2; rw [e1] at hk; exact nomatch hk.1
      · rcases nodeC s.sub n' r' e' with ⟨b, ws, rfl, e2, h3, h4⟩ | ⟨b, ws, rfl, e2, h3, h4⟩ | ⟨z, rfl, e2, rfl⟩
        · rw [e1, e2] at hk; exact absurd hk.1 (by decide)
        · have h1' := SqT.gr h1 g' s1.lists
          exact ⟨a, b, vs, ws, rfl, .inr ⟨h1', h3, k _ _ _ q G p' (.zipT h1' (keep h2) h3 h4)⟩⟩
        · subst e2; rw [e1] at hk; exact nomatch hk.1
      · subst e1; exact absurd rfl hk.2
    · exact q.elim
  · exact q.elim
theorem liftIS_zip {t u : DT} {R : It → Hp → Prop} (h : liftIS K (dZip itemsS t u) σ H R) : RZ.iZipA K (tCons (lift K t) (tCons (lift K u) tNil)) σ H R := by
  obtain ⟨P, M, B, ρ, Q0, s, sl, q, k⟩ := h
  refine ⟨P, M, B, ρ, _, s, sl, q, fun v H1 r1 => ?_⟩
  obtain ⟨c, Lr, q, g, p, r, n⟩ := res_open s r1
  have s1 := s.keep g p
  have sl1 := sl.keep s g
  refine ⟨P, M, B, ρ, _, s1, sl1, q, fun v' H2 r2 => ?_⟩
  obtain ⟨c', Lr', q, g', p', r', n'⟩ := res_open s1 r2
  split at q
  · rename_i hk
    split at q
    · rename_i ds es e e'
      have G := g.trans g'
      have keep : ∀ {vs ds}, Reps K P M B H1 vs ds [] → Reps K P M B H2 vs ds [] := fun h => Reps.gr g' s1.lists (fun _ z => .inl z) (fun _ z => .inl z) h
      obtain ⟨pf, h⟩ := nodeS n r e
      obtain ⟨pf', h'⟩ := nodeS n' r' e'
      have pz := pfs_zip _ _ pf pf'
      have s2 := s1.keep g' p'
      rcases h with ⟨a, vs, rfl, e1, h1, h2⟩ | ⟨a, vs, rfl, e1, h1, h2⟩ | ⟨z, rfl, e1, rfl⟩
      · rcases h' with ⟨b, ws, rfl, e2, h3, h4⟩ | ⟨b, ws, rfl, e2, h3, h4⟩ | ⟨z, rfl, e2, rfl⟩
        · have h1' := h1.gr g' (fun _ z => List.mem_append_left _ z) (fun _ z => .inl z)
          exact ⟨a, b, vs, ws, rfl, .inl ⟨h1'.sq, h3.sq, k _ _ _ q G p' (fun P' M' H'' f s' => (Src.zipL (futL s2 h1' (keep h2) pf f).1 (futL s2 h1' (keep h2) pf f).2 (futL s2 h3 h4 pf' f).1 (futL s2 h3 h4 pf' f).2).now s'.lists) pz⟩⟩
        · rw [e1, e2] at hk; exact absurd hk.1 (by decide)
        · subst e2; rw [e1] at hk; exact nomatch hk.1
      · rcases h' with ⟨b, ws, rfl, e2, h3, h4⟩ | ⟨b, ws, rfl, e2, h3, h4⟩ | ⟨z, rfl, e2, rfl⟩
        · rw [e1, e2] at hk; exact absurd hk.1 (by decide)
        · have h1' := SqT.gr h1 g' s1.lists
          exact ⟨a, b, vs, ws, rfl, .inr ⟨h1', h3, k _ _ _ q G p' (fun P' M' H'' f s' => (Src.zipT (N := []) (futT s2 h1' (keep h2) pf f).1 (futT s2 h1' (keep h2) pf f).2 (futT s2 h3 h4 pf' f).1 (futT s2 h3 h4 pf' f).2).now s'.lists) pz⟩⟩
        · subst e2; rw [e1] at hk; exact nomatch hk.1
      · subst e1; exact absurd rfl hk.2
    · exact q.elim
  · exact q.elim
theorem liftI_rng1 {t : DT} {R : It → Hp → Prop} (h : liftIC K (dRng1 t) σ H R ∨ liftIS K (dRng1 t) σ H R) : iRng1 (tCons (lift K t) tNil) σ H R := by
  rcases h with h | h
  · obtain ⟨P, M, B, ρ, Q0, s, sl, q, k⟩ := h
    refine ⟨P, M, B, ρ, _, s, sl, q, fun v H1 r1 => ?_⟩
    obtain ⟨c, Lr, q, g, p, r, n⟩ := res_open s r1
    split at q
    · rename_i j
      obtain ⟨rfl, _⟩ := r.int_inv
      have z := k _ _ _ q.2.2 g p (.rng (lo := 0) (hi := j))
      rw [Int.sub_zero] at z
      exact ⟨_, rfl, by omega, by omega, z⟩
    · exact q.elim
  · obtain ⟨P, M, B, ρ, Q0, s, sl, q, k⟩ := h
    refine ⟨P, M, B, ρ, _, s, sl, q, fun v H1 r1 => ?_⟩
    obtain ⟨c, Lr, q, g, p, r, n⟩ := res_open s r1
    split at q
    · rename_i j
      obtain ⟨rfl, _⟩ := r.int_inv
      have z := k _ _ _ q.2.2 g p (fun P' M' H'' f s' => (Src.rng (N := []) (lo := 0) (hi := j)).now s'.lists) (pfs_rng _ _)
      rw [Int.sub_zero] at z
      exact ⟨_, rfl, by omega, by omega, z⟩
    · exact q.elim
theorem liftI_rng2 {t u : DT} {R : It → Hp → Prop} (h : liftIC K (dRng2 t u) σ H R ∨ liftIS K (dRng2 t u) σ H R) : iRng2 (tCons (lift K t) (tCons (lift K u) tNil)) σ H R := by
  rcases h with h | h
  · obtain ⟨P, M, B, ρ, Q0, s, sl, q, k⟩ := h
    refine ⟨P, M, B, ρ, _, s, sl, q, fun v H1 r1 => ?_⟩
    obtain ⟨c, Lr, q, g, p, r, n⟩ := res_open s r1
    have s1 := s.keep g p
    refine ⟨P, M, B, ρ, _, s1, sl.keep s g, q, fun v' H2 r2 => ?_⟩
    obtain ⟨c', Lr', q, g', p', r', n'⟩ := res_open s1 r2
    split at q
    · obtain ⟨rfl, _⟩ := r.int_inv
      obtain ⟨rfl, _⟩ := r'.int_inv
      exact ⟨_, _, rfl, by omega, k _ _ _ q.2.2 (g.trans g') p' .rng⟩
    · exact q.elim
  · obtain ⟨P, M, B, ρ, Q0, s, sl, q, k⟩ := h
    refine ⟨P, M, B, ρ, _, s, sl, q, fun v H1 r1 => ?_⟩
    obtain ⟨c, Lr, q, g, p, r, n⟩ := res_open s r1
    have s1 := s.keep g p
    refine ⟨P, M, B, ρ, _, s1, sl.keep s g, q, fun v' H2 r2 => ?_⟩
    obtain ⟨c', Lr', q, g', p', r', n'⟩ := res_open s1 r2
    split at q
    · obtain ⟨rfl, _⟩ := r.int_inv
      obtain ⟨rfl, _⟩ := r'.int_inv
      exact ⟨_, _, rfl, by omega, k _ _ _ q.2.2 (g.trans g') p' (fun P' M' H'' f s' => (Src.rng (N := [])).now s'.lists) (pfs_rng _ _)⟩
    · exact q.elim
end
end DL
set_option maxHeartbeats 4000000
namespace DL
open PySem PySem.Spec PyProof.Rows L2
variable [Tb]
/-! ### targets -/
mutual
inductive G where
  | nm (i : Nat)
  | tp (gs : Gs)
inductive Gs where
  | nil
  | cons (g : G) (gs : Gs)
end
def Gs.len : Gs → Nat
  | .nil => 0
  | .cons _ gs => gs.len + 1
mutual
def G.slots : G → List Nat
  | .nm i => [i]
  | .tp gs => Gs.slots gs
def Gs.slots : Gs → List Nat
  | .nil => []
  | .cons g gs => G.slots g ++ Gs.slots gs
end
mutual
def G.go : G → D → Env → (Env → Prop) → Prop
  | .nm i, d, ρ, N => N (ρ.set i (some d))
  | .tp gs, d, ρ, N => match d with
    | .tup ds => Gs.go gs ds ρ N
    | _ => False
def Gs.go : Gs → List D → Env → (Env → Prop) → Prop
  | .nil, [], ρ, N => N ρ
  | .nil, _ :: _, _, _ => False
  | .cons _ _, [], _, _ => False
  | .cons g gs, d :: ds, ρ, N => G.go g d ρ fun ρ' => Gs.go gs ds ρ' N
end
mutual
def G.tg (K : PySem.W.Frag) : G → TG
  | .nm i => gName i
  | .tp gs => gTup K gs.len (Gs.tgs K gs)
def Gs.tgs (K : PySem.W.Frag) : Gs → TGs
  | .nil => gNil
  | .cons g gs => gCons (G.tg K g) (Gs.tgs K gs)
end
def wipeE (ρ : Env) : List Nat → Env
  | [] => ρ
  | v :: vs => (wipeE ρ vs).set v none
theorem wipe_at (σ : Sg) (j : Nat) : ∀ vs : List Nat, (wipe σ vs)[j]? = if j ∈ vs ∧ j < σ.length then some none else σ[j]?
  | [] => by simp [wipe]
  | v :: vs => by
    unfold wipe
    rw [List.getElem?_set, wipe_length, wipe_at σ j vs]
    by_cases h : v = j
    · subst h
      by_cases hl : v < σ.length
      · simp [hl]
      · simp [hl]
    · have h' : ¬ j = v := fun e => h e.symm
      simp [h, h']
theorem wipe_idem (σ : Sg) (vs : List Nat) : wipe (wipe σ vs) vs = wipe σ vs := by
  refine List.ext_getElem? fun j => ?_
  rw [wipe_at, wipe_length, wipe_at]
  by_cases h : j ∈ vs ∧ j < σ.length <;> simp [h]
theorem wipe_set (σ : Sg) {vs : List Nat} {i : Nat} (o : Option V) (h : i ∈ vs) : wipe (σ.set i o) vs = wipe σ vs := by
  refine List.ext_getElem? fun j => ?_
  rw [wipe_at, wipe_at, List.length_set]
  by_cases hj : j ∈ vs ∧ j < σ.length
  · simp [hj]
  · simp only [if_neg hj]
    rw [List.getElem?_set]
    by_cases e : i = j
    · subst e
      have : ¬ i < σ.length := fun z => hj ⟨h, z⟩
      simp [this]
    · simp [e]
theorem wipeE_len (ρ : Env) : ∀ vs : List Nat, (wipeE ρ vs).length = ρ.length
  | [] => rfl
  | v :: vs => by unfold wipeE; rw [List.length_set, wipeE_len ρ vs]
theorem wipeE_some {ρ : Env} {i : Nat} {x : D} : ∀ {vs : List Nat}, (wipeE ρ vs)[i]? = some (some x) → ρ[i]? = some (some x) ∧ i ∉ vs
  | [], h => ⟨h, by simp⟩
  | v :: vs, h => by
    unfold wipeE at h
    rw [List.getElem?_set] at h
    by_cases hi : v = i
    · subst hi
      by_cases hl : v < (wipeE ρ vs).length <;> simp [hl] at h
    · simp only [if_neg hi] at h
      obtain ⟨h1, h2⟩ := wipeE_some h
      exact ⟨h1, by simp only [List.mem_cons, not_or]; exact ⟨fun e => hi e.symm, h2⟩⟩
section
variable {K : PySem.W.Frag} {P : Pens} {M M' B B' L Lr R : List Addr} {H H' : Hp} {σ : Sg} {ρ : Env} {v : V} {d : D} {ds : List D} {vs : List V}
/-- the names' values, apart from what is reserved -/
def SlotsX (K : PySem.W.Frag) (P : Pens) (M B : List Addr) (H : Hp) (σ : Sg) (ρ : Env) (R : List Addr) : Prop :=
  ρ.length ≤ σ.length ∧ ∃ F : Nat → List Addr, (∀ (i : Nat) (d : D), ρ[i]? = some (some d) → ∃ v, σ[i]? = some (some v) ∧ Rep K P M B H v d (F i)) ∧
    (∀ (i : Nat) (a : Addr), a ∈ F i → a ∈ M ∧ a ∉ B) ∧ (∀ i : Nat, (F i).Nodup) ∧ (∀ (i j : Nat) (a : Addr), a ∈ F i → a ∈ F j → i = j) ∧ ∀ (i : Nat) (a : Addr), a ∈ F i → a ∉ R
theorem Slots.x (h : Slots K P M B H σ ρ) : SlotsX K P M B H σ ρ [] := by
  obtain ⟨hl, F, h1, h2, h3, h4⟩ := h
  exact ⟨hl, F, h1, h2, h3, h4, fun _ _ _ z => nomatch z⟩
theorem SlotsX.s (h : SlotsX K P M B H σ ρ R) : Slots K P M B H σ ρ := by
  obtain ⟨hl, F, h1, h2, h3, h4, _⟩ := h
  exact ⟨hl, F, h1, h2, h3, h4⟩
theorem SlotsX.wipe (h : SlotsX K P M B H σ ρ R) (vs : List Nat) : SlotsX K P M B H (L2.wipe σ vs) (wipeE ρ vs) R := by
  obtain ⟨hl, F, h1, h2, h3, h4, h5⟩ := h
  refine ⟨by rw [wipe_length, wipeE_len]; exact hl, F, fun i d e => ?_, h2, h3, h4, h5⟩
  obtain ⟨e1, e2⟩ := wipeE_some e
  obtain ⟨v, e3, r⟩ := h1 i d e1
  refine ⟨v, ?_, r⟩
  rw [wipe_at, if_neg (fun z => e2 z.1), e3]
/-- a value is stored -/
theorem SlotsX.set (h : SlotsX K P M B H σ ρ (L ++ R)) (r : Rep K P M B H v d L) (hL : ∀ a ∈ L, a ∈ M ∧ a ∉ B) (n : L.Nodup) (dj : ∀ a ∈ L, a ∉ R) (i : Nat) : SlotsX K P M B H (σ.set i (some v)) (ρ.set i (some d)) R := by
  obtain ⟨hl, F, h1, h2, h3, h4, h5⟩ := h
  refine ⟨by rw [List.length_set, List.length_set]; exact hl, fun j => if j = i then L else F j, fun j e he => ?_, fun j a z => ?_, fun j => ?_, fun j k a z z' => ?_, fun j a z => ?_⟩
  · rw [List.getElem?_set] at he
    by_cases hj : i = j
    · subst hj
      rw [if_pos rfl] at he
      by_cases hi : i < ρ.length
      · rw [if_pos hi] at he
        cases he
        refine ⟨v, ?_, by simpa using r⟩
        rw [List.getElem?_set, if_pos rfl, if_pos (by omega)]
      · rw [if_neg hi] at he; cases he
    · rw [if_neg hj] at he
      obtain ⟨w, e1, r1⟩ := h1 j e he
      refine ⟨w, ?_, ?_⟩
      · rw [List.getElem?_set, if_neg hj, e1]
      · have : ¬ j = i := fun e => hj e.symm
        simpa [this] using r1
  · dsimp only at z
    split at z
    · exact hL a z
    · exact h2 j a z
  · dsimp only
    split
    · exact n
    · exact h3 j
  · dsimp only at z z'
    split at z <;> split at z'
    · rename_i e1 e2; rw [e1, e2]
    · exact absurd (List.mem_append_left _ z) (h5 k a z')
    · exact absurd (List.mem_append_left _ z') (h5 j a z)
    · exact h4 j k a z z'
  · dsimp only at z
    split at z
    · exact dj a z
    · exact fun q => h5 j a z (List.mem_append_right _ q)
theorem SlotsX.res (h : SlotsX K P M B H σ ρ R) {R' : List Addr} (hr : ∀ a ∈ R', a ∈ R) : SlotsX K P M B H σ ρ R' := by
  obtain ⟨hl, F, h1, h2, h3, h4, h5⟩ := h
  exact ⟨hl, F, h1, h2, h3, h4, fun i a z q => h5 i a z (hr a q)⟩
mutual
theorem G.go_ex : ∀ {g : G} {d : D} {ρ : Env} {N : Env → Prop}, G.go g d ρ N → ∃ ρ', N ρ'
  | .nm i, d, ρ, N, h => ⟨_, by simpa [G.go] using h⟩
  | .tp gs, .tup ds, ρ, N, h => (Gs.go_ex (gs := gs) (ds := ds) (by simpa [G.go] using h)).2
  | .tp gs, .non, ρ, N, h => by simp [G.go] at h
  | .tp gs, .bl _, ρ, N, h => by simp [G.go] at h
  | .tp gs, .int _, ρ, N, h => by simp [G.go] at h
  | .tp gs, .str _, ρ, N, h => by simp [G.go] at h
  | .tp gs, .pen, ρ, N, h => by simp [G.go] at h
  | .tp gs, .lst _ _, ρ, N, h => by simp [G.go] at h
theorem Gs.go_ex : ∀ {gs : Gs} {ds : List D} {ρ : Env} {N : Env → Prop}, Gs.go gs ds ρ N → ds.length = gs.len ∧ ∃ ρ', N ρ'
  | .nil, [], ρ, N, h => ⟨rfl, _, by simpa [Gs.go] using h⟩
  | .nil, _ :: _, ρ, N, h => by simp [Gs.go] at h
  | .cons g gs, [], ρ, N, h => by simp [Gs.go] at h
  | .cons g gs, d :: ds, ρ, N, h => by
    simp only [Gs.go] at h
    obtain ⟨ρ', h'⟩ := G.go_ex h
    obtain ⟨e, q⟩ := Gs.go_ex h'
    exact ⟨by simp [Gs.len, e], q⟩
end
mutual
theorem G.ok (sv : List Nat) : ∀ {g : G} {v : V} {d : D} {L : List Addr} {σ : Sg} {ρ : Env} {R : List Addr} {N : Env → Prop} {Q : Sg → Hp → Prop}, (∀ i ∈ g.slots, i ∈ sv) → SlotsX K P M B H σ ρ (L ++ R) → Rep K P M B H v d L → (∀ a ∈ L, a ∈ M ∧ a ∉ B) → L.Nodup → (∀ a ∈ L, a ∉ R) →
    G.go g d ρ N → (∀ ρ' σ', N ρ' → SlotsX K P M B H σ' ρ' R → wipe σ' sv = wipe σ sv → Q σ' H) → G.tg K g v σ H Q
  | .nm i, v, d, L, σ, ρ, R, N, Q, hs, sl, r, hL, n, dj, h, k => by
    simp only [G.go] at h
    simp only [G.tg]
    exact k _ _ h (sl.set r hL n dj i) (wipe_set σ _ (hs i (by simp [G.slots])))
  | .tp gs, v, d, L, σ, ρ, R, N, Q, hs, sl, r, hL, n, dj, h, k => by
    simp only [G.go] at h
    simp only [G.tg]
    cases d with
    | tup ds =>
      cases r with
      | tup h1 r =>
        exact ⟨_, _, rfl, h1, r.len.trans (Gs.go_ex h).1, Gs.ok sv (gs := gs) (by simpa [G.slots] using hs) sl r hL n dj h k⟩
    | _ => exact h.elim
theorem Gs.ok (sv : List Nat) : ∀ {gs : Gs} {us : List V} {ds : List D} {L : List Addr} {σ : Sg} {ρ : Env} {R : List Addr} {N : Env → Prop} {Q : Sg → Hp → Prop}, (∀ i ∈ gs.slots, i ∈ sv) → SlotsX K P M B H σ ρ (L ++ R) → Reps K P M B H us ds L → (∀ a ∈ L, a ∈ M ∧ a ∉ B) → L.Nodup → (∀ a ∈ L, a ∉ R) →
    Gs.go gs ds ρ N → (∀ ρ' σ', N ρ' → SlotsX K P M B H σ' ρ' R → wipe σ' sv = wipe σ sv → Q σ' H) → Gs.tgs K gs us σ H Q
  | .nil, us, ds, L, σ, ρ, R, N, Q, hs, sl, r, hL, n, dj, h, k => by
    cases r with
    | nil =>
      simp only [Gs.go] at h
      simp only [Gs.tgs]
      exact ⟨rfl, k _ _ h sl rfl⟩
    | cons _ _ => simp only [Gs.go] at h
  | .cons g gs, us, ds, L, σ, ρ, R, N, Q, hs, sl, r, hL, n, dj, h, k => by
    cases r with
    | nil => simp only [Gs.go] at h
    | @cons v d us ds L1 L2 r rs =>
      simp only [Gs.go] at h
      have hs1 : ∀ i ∈ g.slots, i ∈ sv := fun i z => hs i (by simp [Gs.slots, z])
      have hs2 : ∀ i ∈ gs.slots, i ∈ sv := fun i z => hs i (by simp [Gs.slots, z])
      have nd := List.nodup_append.mp n
      simp only [Gs.tgs]
      refine ⟨_, _, rfl, G.ok sv (g := g) (R := L2 ++ R) hs1 (by rw [List.append_assoc] at sl; exact sl) r (fun a z => hL a (List.mem_append_left _ z)) nd.1
        (fun a z q => (List.mem_append.mp q).elim (fun q => nd.2.2 a z a q rfl) (dj a (List.mem_append_left _ z))) h fun ρ' σ' h' sl' e => ?_⟩
      exact Gs.ok sv (gs := gs) hs2 sl' rs (fun a z => hL a (List.mem_append_right _ z)) nd.2.1 (fun a z => dj a (List.mem_append_right _ z)) h' (fun ρ2 σ2 h2 s2 e2 => k ρ2 σ2 h2 s2 (e2.trans e))
end
end
end DL
set_option maxHeartbeats 4000000
namespace DL
open PySem PySem.Spec PyProof.Rows L2
variable [Tb]
/-! ### list comprehensions -/
def lcGo (g : G) (tt : DTT) (te : DT) (ρw : Env) : List D → List D → (List D → Prop) → Prop
  | [], acc, Q => Q acc
  | d :: ds, acc, Q => G.go g d ρw fun ρ2 => tt ρ2 fun b => if b = true then te ρ2 fun y => lcGo g tt te ρw ds (acc ++ [y]) Q else lcGo g tt te ρw ds acc Q
def dLc (it : DTI) (vs : List Nat) (g : G) (tt : DTT) (te : DT) : DT := fun ρ Q => it ρ fun ds => ds.length ≤ 1000000 ∧ lcGo g tt te (wipeE ρ vs) ds [] fun ys => Q (.lst .o ys)
section
variable {K : PySem.W.Frag} {P : Pens} {M M' B B' L Lr R : List Addr} {H H' : Hp} {σ : Sg} {ρ : Env} {v : V} {d : D} {ds : List D} {vs : List V}
mutual
/-- a list is changed that neither frozen nor borrowed things lean on -/
theorem Rep.mutB {c : Addr} {xs : List V} {o : HO} (hc : H c = some (.lst xs)) (hm : c ∈ M) (hb : c ∈ B) : ∀ {v : V} {d : D} {L : List Addr}, Rep K P M B H v d L → c ∉ L → Rep K P M B (upd H c o) v d L
  | _, _, _, .non, _ => .non
  | _, _, _, .bl, _ => .bl
  | _, _, _, .int, _ => .int
  | _, _, _, .str, _ => .str
  | _, _, _, .pen h, _ => .pen h
  | _, _, _, .tup h r, n => .tup (SqT.upd h hc) (Reps.mutB hc hm hb r n)
  | _, _, _, .lstF h r p, n => .lstF (SqF.upd h (List.mem_append_right _ hm)) (Reps.mutB hc hm hb r (fun z => nomatch z)) p
  | _, _, _, .lstB h r, n => .lstB (SqF.upd h (List.mem_append_right _ hb)) (Reps.mutB hc hm hb r (fun z => nomatch z))
  | _, _, _, .lstO h n r, q => .lstO (by rw [upd_ne (fun z => q (by simp [z]))]; exact h) n (Reps.mutB hc hm hb r fun z => q (List.mem_cons_of_mem _ z))
theorem Reps.mutB {c : Addr} {xs : List V} {o : HO} (hc : H c = some (.lst xs)) (hm : c ∈ M) (hb : c ∈ B) : ∀ {vs : List V} {ds : List D} {L : List Addr}, Reps K P M B H vs ds L → c ∉ L → Reps K P M B (upd H c o) vs ds L
  | _, _, _, .nil, _ => .nil
  | _, _, _, .cons h r, n => .cons (Rep.mutB hc hm hb h fun z => n (List.mem_append_left _ z)) (Reps.mutB hc hm hb r fun z => n (List.mem_append_right _ z))
end
theorem PensOk.mut (h : PensOk P M H) {c : Addr} {o : HO} (hc : c ∈ M) : PensOk P M (upd H c o) := fun a l hl => by
  obtain ⟨n1, n2, n3, ns, i, b, s, e1, e2, r⟩ := h a l hl
  refine ⟨n1, n2, n3, ns, i, b, s, ?_, ?_, r⟩
  · rw [upd_ne (fun z => n1 (by rw [z]; exact hc))]; exact e1
  · rw [upd_ne (fun z => n2 (by rw [z]; exact hc))]; exact e2
theorem drop_at {α : Type} {l : List α} {i : Nat} {x : α} (h : l[i]? = some x) : l.drop i = x :: l.drop (i + 1) := by
  obtain ⟨h1, h2⟩ := List.getElem?_eq_some_iff.mp h
  rw [List.drop_eq_getElem_cons h1, h2]
structure LcInv (K : PySem.W.Frag) (P : Pens) (M B : List Addr) (H1 : Hp) (A : Addr) (H : Hp) (acc : List D) (us : List V) (L : List Addr) : Prop where
  at_ : H A = some (.lst us)
  reps : Reps K P ((A :: L) ++ M) ((A :: L) ++ B) H us acc L
  nd : (A :: L).Nodup
  new : ∀ a ∈ A :: L, H1 a = none
  gr : Gr P.as H1 H
  pens : PensOk P ((A :: L) ++ M) H
theorem LcInv.stt {H1 : Hp} {A : Addr} {acc : List D} {us : List V} (s : Stt P M B H1) (h : LcInv K P M B H1 A H acc us L) : Stt P ((A :: L) ++ M) ((A :: L) ++ B) H :=
  s.after h.gr h.pens fun a z => by
    rcases List.mem_cons.mp z with e | z
    · subst e; exact ⟨_, h.at_⟩
    · exact (Reps.own h.reps a z).1
theorem LcInv.keep {H1 : Hp} {A : Addr} {acc : List D} {us : List V} (s : Stt P M B H1) (h : LcInv K P M B H1 A H acc us L) (g : Gr P.as H H') (p : PensOk P ((A :: L) ++ M) H') : LcInv K P M B H1 A H' acc us L :=
  ⟨g _ _ h.at_ ((h.stt s).np A (List.mem_append_left _ (List.mem_cons_self ..))), Reps.gr g (h.stt s).lists (fun _ z => .inl z) (fun _ z => .inl z) h.reps, h.nd, h.new, h.gr.trans g, p⟩
theorem lift_lc {it : DTI} {sv : List Nat} {g : G} {tt : DTT} {te : DT} {Q : VK} {wi : TI} {tT : TT} {tE : TE} (h : lift K (dLc it sv g tt te) σ H Q)
    (hw : ∀ R, liftIC K it σ H R → wi σ H R) (hT : ∀ σ H Q, liftT K tt σ H Q → tT σ H Q) (hE : ∀ σ H Q, lift K te σ H Q → tE σ H Q) (hs : ∀ i ∈ g.slots, i ∈ sv) : tLc wi (G.tg K g) tT tE sv σ H Q := by
  obtain ⟨P, M, B, ρ, Q0, s, sl, t, k⟩ := h
  refine hw _ ⟨P, M, B, ρ, _, s, sl, t, fun ds J H1 q g1 p1 src => ?_⟩
  obtain ⟨hlen, q⟩ := q
  intro A hA
  have s1 := s.keep g1 p1
  have sl1 := sl.keep s g1
  refine ⟨fun i m H => i ≤ ds.length ∧ m = ds.length - i ∧ ∃ acc us L, LcInv K P M B H1 A H acc us L ∧ acc.length ≤ i ∧ lcGo g tt te (wipeE ρ sv) (ds.drop i) acc fun ys => Q0 (.lst .o ys),
    ⟨ds.length, Nat.zero_le _, by omega, [], [], [], ⟨upd_same, .nil, by simp, fun a z => ?_, Gr.laid hA, (p1.grow fun a z => ?_).laid hA⟩, Nat.le_refl _, q⟩, ?_⟩
  · have e : a = A := by simpa using z
    rw [e]; exact hA
  · rcases List.mem_append.mp z with z | z
    · have e : a = A := by simpa using z
      exact .inr (e ▸ hA)
    · exact .inl z
  rintro i m H2 ⟨hi, rfl, acc, us, L, inv, hacc, q⟩
  have s2 := inv.stt s1
  have sl2 := sl1.after (Lr := A :: L) s1 inv.gr inv.new
  have wk := (src.gr s1.lists inv.gr (new_or inv.new) (new_or inv.new)).now s2.lists
  by_cases hlt : i < ds.length
  · refine .inr ⟨wk.go i hlt, fun H' => ∃ acc us L, LcInv K P M B H1 A H' acc us L ∧ acc.length ≤ i + 1 ∧ lcGo g tt te (wipeE ρ sv) (ds.drop (i + 1)) acc fun ys => Q0 (.lst .o ys), fun H' h' => ⟨_, by omega, hlt, rfl, h'⟩, fun x H3 y => ?_⟩
    obtain ⟨hg, d, ed, rd⟩ := wk.yld i x H3 hlt y
    have g3 : Gr P.as H2 H3 := by
      rcases hg with e | ⟨T, ys, e1, e2⟩
      · rw [e]; exact Gr.refl
      · rw [e2]; exact Gr.laid e1
    have p3 : PensOk P ((A :: L) ++ M) H3 := by
      rcases hg with e | ⟨T, ys, e1, e2⟩
      · rw [e]; exact inv.pens
      · rw [e2]; exact inv.pens.laid e1
    have inv3 := inv.keep s1 g3 p3
    have s3 := inv3.stt s1
    rw [drop_at ed] at q
    simp only [lcGo] at q
    refine G.ok sv (g := g) (R := []) (L := []) hs (((sl2.keep s2 g3).x.wipe sv).res fun a z => z) rd (fun _ z => nomatch z) List.nodup_nil (fun _ z => nomatch z) q fun ρ' σ' q' sl' e => ⟨e.trans (wipe_idem _ _), ?_⟩
    refine hT _ _ _ ⟨P, _, _, ρ', _, s3, sl'.s, q', fun b H4 q4 g4 p4 => ?_⟩
    have inv4 := inv3.keep s1 g4 p4
    have s4 := inv4.stt s1
    have sl4 := sl'.s.keep s3 g4
    cases b with
    | false => exact ⟨acc, us, L, inv4, by omega, q4⟩
    | true =>
      refine hE _ _ _ ⟨P, _, _, ρ', _, s4, sl4, q4, fun yv H5 r5 => ?_⟩
      obtain ⟨c, Lr, q5, g5, p5, r5, n5, f5⟩ := r5
      have f5 : ∀ a ∈ Lr, H4 a = none := fun a z => (f5 a z).elim id fun q => nomatch q
      have inv5 := inv4.keep s1 g5 (p5.grow fun a z => .inl (in_r a z))
      have rus := Reps.gr g5 s4.lists (new_or f5) (new_or f5) inv4.reps
      refine ⟨us, inv5.at_, ?_, acc ++ [c], us ++ [yv], L ++ Lr, ?_, by rw [List.length_append]; simp; omega, q5⟩
      · have hl := inv5.reps.len
        have : (1000000 : Nat) < sizeLine := by decide
        omega
      · have hAm : ∀ {N : List Addr}, A ∈ Lr ++ ((A :: L) ++ N) := List.mem_append_right _ (List.mem_append_left _ (List.mem_cons_self ..))
        have hA4 : H4 A ≠ none := by rw [inv4.at_]; intro z; cases z
        have hAr : A ∉ Lr := fun z => hA4 (f5 A z)
        have hAL : A ∉ L := (List.nodup_cons.mp inv.nd).1
        have hmem : ∀ {N : List Addr}, ∀ a ∈ (A :: (L ++ Lr)) ++ N, a ∈ Lr ++ ((A :: L) ++ N) := fun a z => by
          simp only [List.cons_append, List.mem_cons, List.mem_append] at z ⊢
          rcases z with z | (z | z) | z
          · exact .inr (.inl z)
          · exact .inr (.inr (.inl z))
          · exact .inl z
          · exact .inr (.inr (.inr z))
        refine ⟨upd_same, ?_, ?_, fun a z => ?_, inv5.gr.put hA inv5.at_ (fun _ _ z => nomatch z), ?_⟩
        · have h1 := Reps.mutB (o := .lst (us ++ [yv])) inv5.at_ hAm hAm rus hAL
          have h2 := Rep.mutB (o := .lst (us ++ [yv])) inv5.at_ hAm hAm r5 hAr
          have h3 := Reps.app h1 (Reps.cons h2 .nil)
          rw [List.append_nil] at h3
          exact Reps.sub hmem hmem h3
        · rw [show A :: (L ++ Lr) = (A :: L) ++ Lr from rfl]
          exact nodup_app inv.nd n5 fun a z q => by
            rcases List.mem_cons.mp z with e | z
            · exact hAr (e ▸ q)
            · exact inv4.reps.trk a z (f5 a q)
        · rw [show A :: (L ++ Lr) = (A :: L) ++ Lr from rfl] at z
          rcases List.mem_append.mp z with z | z
          · exact inv.new a z
          · exact inv4.gr.nil inv4.pens (f5 a z)
        · exact (p5.mut (c := A) hAm).grow fun a z => .inl (hmem a z)
  · have e : i = ds.length := by omega
    subst e
    rw [List.drop_length] at q
    simp only [lcGo] at q
    refine .inl ⟨wk.stop, k _ _ ⟨.lst .o acc, A :: L, q, g1.trans inv.gr, inv.pens, .lstO inv.at_ (s2.np A (List.mem_append_left _ (List.mem_cons_self ..))) inv.reps, inv.nd, fun a z => .inl (g1.nil p1 (inv.new a z))⟩⟩
end
end DL
set_option maxHeartbeats 4000000
namespace DL
open PySem PySem.Spec PyProof.Rows L2
variable [Tb]
/-! ### calls of defs -/
abbrev DSpec := List D → (D → Prop) → Prop
mutual
/-- all frozen, as far as one looks -/
def D.fl : D → Bool
  | .tup xs => D.fls xs
  | .lst k _ => (match k with | .f => true | _ => false)
  | _ => true
def D.fls : List D → Bool
  | [] => true
  | x :: xs => D.fl x && D.fls xs
end
def liftF (K : PySem.W.Frag) (S : DSpec) : Sp := fun vs H Q _ => ∃ P M ds Q0, Stt P M M H ∧ Reps K P M M H vs ds [] ∧ D.pfs ds = true ∧ S ds Q0 ∧ ∀ v H', Res K P M M [] H Q0 v H' → Q v H'
def dFn (S : DSpec) (ta : DTA) : DT := fun ρ Q => ta ρ fun ds => S (D.fzs ds) fun c => Q (if D.fls ds = true then c else c.wk)
section
variable {K : PySem.W.Frag} {P : Pens} {M M' B B' L Lr R : List Addr} {H H' : Hp} {σ : Sg} {ρ : Env} {v : V} {d : D} {ds : List D} {vs : List V}
mutual
theorem Rep.flpf : ∀ {v : V} {d : D} {L : List Addr}, Rep K P M B H v d L → d.fl = true → d.pf = true
  | _, _, _, .non, _ => rfl
  | _, _, _, .bl, _ => rfl
  | _, _, _, .int, _ => rfl
  | _, _, _, .str, _ => rfl
  | _, _, _, .pen _, _ => rfl
  | _, _, _, .tup h r, p => by
    have := Reps.flpf r (by simpa [D.fl] using p)
    simpa [D.pf] using this
  | _, _, _, .lstF h r p, _ => by simpa [D.pf] using p
  | _, _, _, .lstB _ _, p => by simp [D.fl] at p
  | _, _, _, .lstO _ _ _, p => by simp [D.fl] at p
theorem Reps.flpf : ∀ {vs : List V} {ds : List D} {L : List Addr}, Reps K P M B H vs ds L → D.fls ds = true → D.pfs ds = true
  | _, _, _, .nil, _ => rfl
  | _, _, _, .cons h r, p => by
    simp only [D.fls, Bool.and_eq_true] at p
    simp only [D.pfs, Bool.and_eq_true]
    exact ⟨Rep.flpf h p.1, Reps.flpf r p.2⟩
end
theorem PensOk.join (h : PensOk P M H) (h' : PensOk P (L ++ B) H') : PensOk P (L ++ M) H' := fun a l hl => by
  obtain ⟨n1, n2, _⟩ := h a l hl
  obtain ⟨m1, m2, n3, r⟩ := h' a l hl
  exact ⟨fun z => (List.mem_append.mp z).elim (fun q => m1 (List.mem_append_left _ q)) n1, fun z => (List.mem_append.mp z).elim (fun q => m2 (List.mem_append_left _ q)) n2, n3, r⟩
theorem lift_fn {S : DSpec} {ta : DTA} {Q : VK} {E : XK} (h : lift K (dFn S ta) σ H Q) : liftA K ta σ H fun vs H1 => liftF K S vs H1 Q E := by
  obtain ⟨P, M, B, ρ, Q0, s, sl, t, k⟩ := h
  refine ⟨P, M, B, ρ, _, s, sl, t, fun vs H1 r1 => ?_⟩
  obtain ⟨ds, L, q, g1, p1, r1, n1, f1⟩ := r1
  have A := Args.of s g1 p1 r1 n1 f1
  have b := A.base
  by_cases hf : D.fls ds = true
  · have pf := Reps.flpf r1 hf
    obtain ⟨el, r2⟩ := Reps.pf r1 pf
    subst el
    rw [D.fzs_pf ds pf] at q
    refine ⟨P, M, ds, _, ⟨b.pens, fun _ z => z, b.ls, b.tabs⟩, r2, pf, q, fun v H' r => ?_⟩
    obtain ⟨c, Lr, q, g, p, r, n, f⟩ := r
    rw [if_pos hf] at q
    exact k v H' (Res.back (M' := M) ⟨c, Lr, q, g, p, Rep.sub (fun _ z => z) (sub_app b.sub) r, n, f⟩ g1 b.pens fun _ z => nomatch z)
  · obtain ⟨r2, pf⟩ := Reps.fz (N := B) (fun a z => in_r a (b.sub a z)) in_r r1 (fun a z m => A.out a z (b.sub a m))
    refine ⟨P, B, D.fzs ds, _, ⟨b.pens.grow fun a z => .inl (b.sub a z), fun _ z => z, fun a z => b.ls a (b.sub a z), b.tabs⟩, r2, pf, q, fun v H' r => ?_⟩
    obtain ⟨c, Lr, q, g, p, r, n, f⟩ := r
    rw [if_neg hf] at q
    exact k v H' (Res.back (M' := M) ⟨c.wk, Lr, q, g, b.pens.join p, Rep.wk (fun _ z => z) (fun _ z => z) r, n, f⟩ g1 b.pens fun _ z => nomatch z)
end

/-! ### statements -/
structure DE where
  nx : Env → Prop
  rt : D → Prop
  bk : Env → Prop := fun _ => False
  ct : Env → Prop := fun _ => False
abbrev DS := DE → Env → Prop
def EnvNb (ρ : Env) : Prop := ∀ (i : Nat) (d : D), ρ[i]? = some (some d) → d.nb = true
structure Fits (K : PySem.W.Frag) (P : Pens) (M B : List Addr) (H : Hp) (N : DE) (D : Ends) : Prop where
  nx : ∀ P' M' H' σ' ρ', N.nx ρ' → StAft P M B H P' M' H' → Stt P' M' B H' → Slots K P' M' B H' σ' ρ' → EnvNb ρ' → D.nx σ' H'
  bk : ∀ P' M' H' σ' ρ', N.bk ρ' → StAft P M B H P' M' H' → Stt P' M' B H' → Slots K P' M' B H' σ' ρ' → EnvNb ρ' → D.bk σ' H'
  ct : ∀ P' M' H' σ' ρ', N.ct ρ' → StAft P M B H P' M' H' → Stt P' M' B H' → Slots K P' M' B H' σ' ρ' → EnvNb ρ' → D.ct σ' H'
  rt : ∀ P' M' H' v c Lr, N.rt c → StAft P M B H P' M' H' → PensOk P' (Lr ++ B) H' → Rep K P' (Lr ++ B) (Lr ++ B) H' v c Lr → Lr.Nodup → (∀ a ∈ Lr, H a = none ∨ (a ∈ M ∧ a ∉ B)) → D.rt v H'
def liftS (K : PySem.W.Frag) (t : DS) : TS := fun D σ H => ∃ P M B ρ N, Stt P M B H ∧ Slots K P M B H σ ρ ∧ EnvNb ρ ∧ t N ρ ∧ Fits K P M B H N D

def dNext : DS := fun N ρ => N.nx ρ
def dSeq (t u : DS) : DS := fun N ρ => t { N with nx := u N } ρ
def dAsg (g : G) (te : DT) : DS := fun N ρ => te ρ fun d => d.nb = true ∧ G.go g d ρ N.nx
def dDrop (te : DT) : DS := fun N ρ => te ρ fun _ => N.nx ρ
def dRet (te : DT) : DS := fun N ρ => te ρ fun d => N.rt d.rt
def dRetV (i : Nat) : DS := fun N ρ => match Env.at ρ i with
  | some d => N.rt d
  | none => False
def dRetN : DS := fun N _ => N.rt .non
def dIfS (c : DTT) (t u : DS) : DS := fun N ρ => c ρ fun b => if b = true then t N ρ else u N ρ
def dBreak : DS := fun N ρ => N.bk ρ
def dCont : DS := fun N ρ => N.ct ρ
def dNever : DS := fun _ _ => False
/-- a for, turn by turn -/
def forGo (g : G) (b : DS) (N : DE) : List D → Env → Prop
  | [], ρ => N.nx ρ
  | d :: ds, ρ => G.go g d ρ fun ρ2 => b { N with nx := forGo g b N ds, ct := forGo g b N ds, bk := N.nx } ρ2
def dFor (it : DTI) (g : G) (b : DS) : DS := fun N ρ => it ρ fun ds => forGo g b N ds ρ
/-- a while, by an invariant and a measure -/
def dWhile (c : DTT) (b : DS) : DS := fun N ρ => ∃ W : Nat → Env → Prop, (∃ m, W m ρ) ∧ ∀ m ρ, W m ρ → c ρ fun k =>
  if k = true then b { N with nx := fun ρ' => ∃ m', m' < m ∧ W m' ρ', ct := fun ρ' => ∃ m', m' < m ∧ W m' ρ', bk := N.nx } ρ else N.nx ρ
section
variable {K : PySem.W.Frag} {P P' P'' : Pens} {M M' M'' B B' L Lr R : List Addr} {H H' H'' : Hp} {σ : Sg} {ρ : Env} {v : V} {d : D} {ds : List D} {vs : List V} {N : DE} {D : Ends}
theorem Fits.after (f : Fits K P M B H N D) (a : StAft P M B H P' M' H') : Fits K P' M' B H' N D :=
  ⟨fun _ _ _ _ _ n b s sl e => f.nx _ _ _ _ _ n (a.trans b) s sl e, fun _ _ _ _ _ n b s sl e => f.bk _ _ _ _ _ n (a.trans b) s sl e, fun _ _ _ _ _ n b s sl e => f.ct _ _ _ _ _ n (a.trans b) s sl e,
    fun _ _ _ _ _ _ n b p r nd fr => f.rt _ _ _ _ _ _ n (a.trans b) p r nd fun c z => by
      rcases fr c z with q | q
      · exact .inl (Classical.byContradiction fun w => a.tr c w q)
      · rcases a.newm c q.1 with w | w
        · exact .inr ⟨w, q.2⟩
        · exact .inl w⟩
/-- behind an expression: its own lists are one's own now -/
theorem StAft.expr (s : Stt P M B H) (g : Gr P.as H H') (p : PensOk P M' H') (n : ∀ a ∈ M', a ∈ M ∨ H a = none) : StAft P M B H P M' H' :=
  ⟨fun b o h n1 _ => g b o h n1, fun _ z => z, fun _ z => .inl z, n, fun b z q => z (g.nil p q), g.tab⟩
theorem lift_next (h : liftS K dNext D σ H) : tNext D σ H := by
  obtain ⟨P, M, B, ρ, N, s, sl, e, t, f⟩ := h
  exact f.nx P M H σ ρ t StAft.refl s sl e
theorem lift_seq {t u : DS} (h : liftS K (dSeq t u) D σ H) : tSeq (liftS K t) (liftS K u) D σ H := by
  obtain ⟨P, M, B, ρ, N, s, sl, e, t, f⟩ := h
  exact ⟨P, M, B, ρ, _, s, sl, e, t, ⟨fun P' M' H' σ' ρ' n a s' sl' e' => ⟨P', M', B, ρ', N, s', sl', e', n, f.after a⟩, f.bk, f.ct, f.rt⟩⟩
theorem lift_break (h : liftS K dBreak D σ H) : tBreak D σ H := by
  obtain ⟨P, M, B, ρ, N, s, sl, e, t, f⟩ := h
  exact f.bk P M H σ ρ t StAft.refl s sl e
theorem lift_cont (h : liftS K dCont D σ H) : tCont D σ H := by
  obtain ⟨P, M, B, ρ, N, s, sl, e, t, f⟩ := h
  exact f.ct P M H σ ρ t StAft.refl s sl e
theorem lift_never (h : liftS K dNever D σ H) : tNever D σ H := by
  obtain ⟨P, M, B, ρ, N, s, sl, e, t, f⟩ := h
  exact t.elim
theorem lift_ifS {c : DTT} {t u : DS} {tc : TT} (h : liftS K (dIfS c t u) D σ H) (hc : ∀ σ H Q, liftT K c σ H Q → tc σ H Q) : tIfS tc (liftS K t) (liftS K u) D σ H := by
  obtain ⟨P, M, B, ρ, N, s, sl, e, t, f⟩ := h
  refine hc _ _ _ ⟨P, M, B, ρ, _, s, sl, t, fun b H1 q g p => ?_⟩
  have a : StAft P M B H P M H1 := .expr s g p fun _ z => .inl z
  cases b with
  | true => exact ⟨P, M, B, ρ, N, s.keep g p, sl.keep s g, e, q, f.after a⟩
  | false => exact ⟨P, M, B, ρ, N, s.keep g p, sl.keep s g, e, q, f.after a⟩
theorem lift_drop {te : DT} {tE : TE} (h : liftS K (dDrop te) D σ H) (hE : ∀ σ H Q, lift K te σ H Q → tE σ H Q) : tDrop tE D σ H := by
  obtain ⟨P, M, B, ρ, N, s, sl, e, t, f⟩ := h
  refine hE _ _ _ ⟨P, M, B, ρ, _, s, sl, t, fun v H1 r => ?_⟩
  obtain ⟨c, q, g, p, _⟩ := r.drop
  exact f.nx P M H1 σ ρ q (.expr s g p fun _ z => .inl z) (s.keep g p) (sl.keep s g) e
end
end DL
set_option maxHeartbeats 4000000
namespace DL
open PySem PySem.Spec PyProof.Rows L2
variable [Tb]
mutual
theorem D.pf_nb : ∀ d : D, d.pf = true → d.nb = true
  | .non, _ => rfl
  | .bl _, _ => rfl
  | .int _, _ => rfl
  | .str _, _ => rfl
  | .pen, _ => rfl
  | .tup xs, p => by simpa [D.nb] using D.pfs_nbs xs (by simpa [D.pf] using p)
  | .lst .f xs, _ => rfl
  | .lst .b _, p => by simp [D.pf] at p
  | .lst .o _, p => by simp [D.pf] at p
theorem D.pfs_nbs : ∀ ds : List D, D.pfs ds = true → D.nbs ds = true
  | [], _ => rfl
  | d :: ds, p => by
    simp only [D.pfs, Bool.and_eq_true] at p
    simp only [D.nbs, Bool.and_eq_true]
    exact ⟨D.pf_nb d p.1, D.pfs_nbs ds p.2⟩
end
theorem pfs_at : ∀ {ds : List D} {i : Nat} {d : D}, D.pfs ds = true → ds[i]? = some d → d.pf = true
  | [], _, _, _, e => by simp at e
  | c :: cs, 0, d, p, e => by
    simp only [D.pfs, Bool.and_eq_true] at p
    simp at e
    rw [← e]; exact p.1
  | c :: cs, i + 1, d, p, e => by
    simp only [D.pfs, Bool.and_eq_true] at p
    exact pfs_at p.2 (by simpa using e)
section
variable {K : PySem.W.Frag} {P P' P'' : Pens} {M M' M'' B B' L Lr R : List Addr} {H H' H'' : Hp} {σ : Sg} {ρ : Env} {v : V} {d : D} {ds : List D} {vs : List V} {N : DE} {E : Ends}
mutual
theorem G.go_nb : ∀ {g : G} {d : DL.D} {ρ : Env} {N : Env → Prop}, d.nb = true → EnvNb ρ → G.go g d ρ N → G.go g d ρ fun ρ' => N ρ' ∧ EnvNb ρ'
  | .nm i, d, ρ, N, hd, he, h => by
    simp only [G.go] at h ⊢
    refine ⟨h, fun j e q => ?_⟩
    rw [List.getElem?_set] at q
    by_cases hj : i = j
    · subst hj
      rw [if_pos rfl] at q
      split at q
      · cases q; exact hd
      · cases q
    · rw [if_neg hj] at q; exact he j e q
  | .tp gs, .tup ds, ρ, N, hd, he, h => by
    simp only [G.go] at h ⊢
    exact Gs.go_nb (by simpa [D.nb] using hd) he h
  | .tp gs, .non, ρ, N, _, _, h => by simp [G.go] at h
  | .tp gs, .bl _, ρ, N, _, _, h => by simp [G.go] at h
  | .tp gs, .int _, ρ, N, _, _, h => by simp [G.go] at h
  | .tp gs, .str _, ρ, N, _, _, h => by simp [G.go] at h
  | .tp gs, .pen, ρ, N, _, _, h => by simp [G.go] at h
  | .tp gs, .lst _ _, ρ, N, _, _, h => by simp [G.go] at h
theorem Gs.go_nb : ∀ {gs : Gs} {ds : List DL.D} {ρ : Env} {N : Env → Prop}, D.nbs ds = true → EnvNb ρ → Gs.go gs ds ρ N → Gs.go gs ds ρ fun ρ' => N ρ' ∧ EnvNb ρ'
  | .nil, [], ρ, N, _, he, h => by
    simp only [Gs.go] at h ⊢
    exact ⟨h, he⟩
  | .nil, _ :: _, ρ, N, _, _, h => by simp [Gs.go] at h
  | .cons g gs, [], ρ, N, _, _, h => by simp [Gs.go] at h
  | .cons g gs, d :: ds, ρ, N, hd, he, h => by
    simp only [D.nbs, Bool.and_eq_true] at hd
    simp only [Gs.go] at h ⊢
    exact G.go_mono (G.go_nb hd.1 he h) fun ρ' ⟨h', e'⟩ => Gs.go_nb hd.2 e' h'
theorem G.go_mono : ∀ {g : G} {d : DL.D} {ρ : Env} {N N' : Env → Prop}, G.go g d ρ N → (∀ ρ', N ρ' → N' ρ') → G.go g d ρ N'
  | .nm i, d, ρ, N, N', h, k => by
    simp only [G.go] at h ⊢
    exact k _ h
  | .tp gs, .tup ds, ρ, N, N', h, k => by
    simp only [G.go] at h ⊢
    exact Gs.go_mono h k
  | .tp gs, .non, ρ, N, _, h, _ => by simp [G.go] at h
  | .tp gs, .bl _, ρ, N, _, h, _ => by simp [G.go] at h
  | .tp gs, .int _, ρ, N, _, h, _ => by simp [G.go] at h
  | .tp gs, .str _, ρ, N, _, h, _ => by simp [G.go] at h
  | .tp gs, .pen, ρ, N, _, h, _ => by simp [G.go] at h
  | .tp gs, .lst _ _, ρ, N, _, h, _ => by simp [G.go] at h
theorem Gs.go_mono : ∀ {gs : Gs} {ds : List DL.D} {ρ : Env} {N N' : Env → Prop}, Gs.go gs ds ρ N → (∀ ρ', N ρ' → N' ρ') → Gs.go gs ds ρ N'
  | .nil, [], ρ, N, N', h, k => by
    simp only [Gs.go] at h ⊢
    exact k _ h
  | .nil, _ :: _, ρ, N, _, h, _ => by simp [Gs.go] at h
  | .cons g gs, [], ρ, N, _, h, _ => by simp [Gs.go] at h
  | .cons g gs, d :: ds, ρ, N, N', h, k => by
    simp only [Gs.go] at h ⊢
    exact G.go_mono h fun ρ' h' => Gs.go_mono h' k
end
mutual
theorem Rep.nbB : ∀ {v : V} {d : DL.D} {L : List Addr}, Rep K P M B H v d L → d.nb = true → ∀ {B' : List Addr}, Rep K P M B' H v d L
  | _, _, _, .non, _, _ => .non
  | _, _, _, .bl, _, _ => .bl
  | _, _, _, .int, _, _ => .int
  | _, _, _, .str, _, _ => .str
  | _, _, _, .pen h, _, _ => .pen h
  | _, _, _, .tup h r, p, _ => .tup h (Reps.nbB r (by simpa [D.nb] using p))
  | _, _, _, .lstF h r q, p, _ => .lstF h (Reps.pf r q).2 q
  | _, _, _, .lstB _ _, p, _ => by simp [D.nb] at p
  | _, _, _, .lstO h n r, p, _ => .lstO h n (Reps.nbB r (by simpa [D.nb] using p))
theorem Reps.nbB : ∀ {vs : List V} {ds : List DL.D} {L : List Addr}, Reps K P M B H vs ds L → D.nbs ds = true → ∀ {B' : List Addr}, Reps K P M B' H vs ds L
  | _, _, _, .nil, _, _ => .nil
  | _, _, _, .cons h r, p, _ => by
    simp only [D.nbs, Bool.and_eq_true] at p
    exact .cons (Rep.nbB h p.1) (Reps.nbB r p.2)
end
theorem lift_asg {g : G} {te : DT} {tE : TE} (h : liftS K (dAsg g te) E σ H) (hE : ∀ σ H Q, lift K te σ H Q → tE σ H Q) : tAsg tE (G.tg K g) E σ H := by
  obtain ⟨P, M, B, ρ, N, s, sl, e, t, f⟩ := h
  refine hE _ _ _ ⟨P, M, B, ρ, _, s, sl, t, fun v H1 r => ?_⟩
  obtain ⟨c, Lr, q, g1, p1, r1, n1, f1⟩ := r
  have f1 : ∀ a ∈ Lr, H a = none := fun a z => (f1 a z).elim id fun q => nomatch q
  have s1 : Stt P (Lr ++ M) B H1 := by
    have := s.after g1 p1 fun a z => (Rep.own r1 a z).1
    exact ⟨p1, fun a z => in_r a (s.sub a z), this.ls, this.tabs⟩
  have sl1 := sl.after s g1 f1
  have a1 : StAft P M B H P (Lr ++ M) H1 := .expr s g1 p1 (new_or f1)
  have slx : SlotsX K P (Lr ++ M) B H1 σ ρ (Lr ++ []) := by
    obtain ⟨hl, F, h1, h2, h3, h4⟩ := sl1
    refine ⟨hl, F, fun i d e => ?_, fun i a z => ⟨(h2 i a z).1, fun q => (h2 i a z).2 (in_r a q)⟩, h3, h4, fun i a z q => ?_⟩
    · obtain ⟨v, e1, r⟩ := h1 i d e
      exact ⟨v, e1, Rep.sub (fun _ z => z) in_r r⟩
    · rw [nil_app] at q
      exact (h2 i a z).2 (List.mem_append_left _ q)
  refine G.ok g.slots (g := g) (R := []) (fun _ z => z) slx (Rep.sub (fun _ z => z) in_r r1) (fun a z => ⟨List.mem_append_left _ z, fun q => s.trk a (s.sub a q) (f1 a z)⟩) n1 (fun _ _ z => nomatch z) (G.go_nb q.1 e q.2) fun ρ' σ' h' sl' _ => ?_
  exact f.nx _ _ _ _ _ h'.1 a1 s1 sl'.s h'.2
theorem lift_ret {te : DT} {tE : TE} (h : liftS K (dRet te) E σ H) (hE : ∀ σ H Q, lift K te σ H Q → tE σ H Q) : tRet tE E σ H := by
  obtain ⟨P, M, B, ρ, N, s, sl, e, t, f⟩ := h
  refine hE _ _ _ ⟨P, M, B, ρ, _, s, sl, t, fun v H1 r => ?_⟩
  obtain ⟨c, Lr, q, g1, p1, r1, n1, f1⟩ := r
  have f1 : ∀ a ∈ Lr, H a = none := fun a z => (f1 a z).elim id fun q => nomatch q
  exact f.rt P (Lr ++ M) H1 v c.rt Lr q (.expr s g1 p1 (new_or f1)) (p1.grow fun a z => .inl (sub_app s.sub a z)) (Rep.rt (sub_app s.sub) r1) n1 fun a z => .inl (f1 a z)
theorem lift_retV {i : Nat} (h : liftS K (dRetV i) E σ H) : tRet (tVar i) E σ H := by
  obtain ⟨P, M, B, ρ, N, s, sl, e, t, f⟩ := h
  unfold dRetV at t
  split at t
  · rename_i d ed
    have ed := Env.at_get ed
    obtain ⟨v, L, e1, r, n, nd⟩ := sl.get ed
    have hs : ∀ a ∈ L ++ B, a ∈ M := fun a z => (List.mem_append.mp z).elim (fun q => (n a q).1) (s.sub a)
    exact ⟨v, e1, f.rt P M H v d L t .refl (s.pens.grow fun a z => .inl (hs a z)) (Rep.sub hs (fun _ z => z) (Rep.nbB r (e i d ed))) nd fun a z => .inr (n a z)⟩
  · exact t.elim
theorem lift_retN (h : liftS K dRetN E σ H) : tRetN E σ H := by
  obtain ⟨P, M, B, ρ, N, s, sl, e, t, f⟩ := h
  exact f.rt P M H .non .non [] t .refl (s.pens.grow fun a z => .inl (s.sub a z)) .non List.nodup_nil fun _ z => nomatch z
theorem lift_for {it : DTI} {g : G} {b : DS} {wi : TI} (h : liftS K (dFor it g b) E σ H) (hw : ∀ R, liftIS K it σ H R → wi σ H R) : tFor wi (G.tg K g) (liftS K b) E σ H := by
  obtain ⟨P, M, B, ρ, N, s, sl, e, t, f⟩ := h
  refine hw _ ⟨P, M, B, ρ, _, s, sl, t, fun ds J H1 q g1 p1 wk pf => ?_⟩
  have s1 := s.keep g1 p1
  have a1 : StAft P M B H P M H1 := .expr s g1 p1 fun _ z => .inl z
  refine ⟨fun i m σ2 H2 => i ≤ ds.length ∧ m = ds.length - i ∧ ∃ P' M' ρ', StAft P M B H1 P' M' H2 ∧ Stt P' M' B H2 ∧ Slots K P' M' B H2 σ2 ρ' ∧ EnvNb ρ' ∧ forGo g b N (ds.drop i) ρ',
    ⟨ds.length, Nat.zero_le _, by omega, P, M, ρ, .refl, s1, sl.keep s g1, e, q⟩, ?_⟩
  rintro i m σ2 H2 ⟨hi, rfl, P', M', ρ', a2, s2, sl2, e2, q⟩
  have w := wk P' M' H2 a2 s2
  by_cases hlt : i < ds.length
  · refine .inr ⟨w.go i hlt, fun σ' H' => ∃ P' M' ρ', StAft P M B H1 P' M' H' ∧ Stt P' M' B H' ∧ Slots K P' M' B H' σ' ρ' ∧ EnvNb ρ' ∧ forGo g b N (ds.drop (i + 1)) ρ', fun σ' H' h' => ⟨_, by omega, hlt, rfl, h'⟩, fun x H3 y => ?_⟩
    obtain ⟨hg, d, ed, rd⟩ := w.yld i x H3 hlt y
    have g3 : Gr P'.as H2 H3 := by
      rcases hg with e | ⟨T, ys, e1, e2⟩
      · rw [e]; exact Gr.refl
      · rw [e2]; exact Gr.laid e1
    have p3 : PensOk P' M' H3 := by
      rcases hg with e | ⟨T, ys, e1, e2⟩
      · rw [e]; exact s2.pens
      · rw [e2]; exact s2.pens.laid e1
    have s3 := s2.keep g3 p3
    have a3 := a2.trans (.expr s2 g3 p3 fun _ z => .inl z)
    rw [drop_at ed] at q
    simp only [forGo] at q
    have pd : d.nb = true := by
      have hp : d.pf = true := pfs_at pf ed
      exact D.pf_nb d hp
    refine G.ok g.slots (g := g) (R := []) (L := []) (fun _ z => z) ((sl2.keep s2 g3).x.res fun a z => z) rd (fun _ z => nomatch z) List.nodup_nil (fun _ z => nomatch z) (G.go_nb pd e2 q) fun ρ4 σ4 h4 sl4 _ => ?_
    refine ⟨P', M', B, ρ4, _, s3, sl4.s, h4.2, h4.1, ⟨fun P5 M5 H5 σ5 ρ5 q5 a5 s5 sl5 e5 => ⟨P5, M5, ρ5, a3.trans a5, s5, sl5, e5, q5⟩, ?_, fun P5 M5 H5 σ5 ρ5 q5 a5 s5 sl5 e5 => ⟨P5, M5, ρ5, a3.trans a5, s5, sl5, e5, q5⟩, ?_⟩⟩
    · exact ((f.after a1).after a3).nx
    · exact ((f.after a1).after a3).rt
  · have e0 : i = ds.length := by omega
    subst e0
    rw [List.drop_length] at q
    simp only [forGo] at q
    exact .inl ⟨w.stop, f.nx _ _ _ _ _ q (a1.trans a2) s2 sl2 e2⟩
theorem lift_while {c : DTT} {b : DS} {tc : TT} (h : liftS K (dWhile c b) E σ H) (hc : ∀ σ H Q, liftT K c σ H Q → tc σ H Q) : tWhile tc (liftS K b) E σ H := by
  obtain ⟨P, M, B, ρ, N, s, sl, e, ⟨W, ⟨m0, w0⟩, t⟩, f⟩ := h
  refine ⟨fun m σ2 H2 => ∃ P' M' ρ', StAft P M B H P' M' H2 ∧ Stt P' M' B H2 ∧ Slots K P' M' B H2 σ2 ρ' ∧ EnvNb ρ' ∧ W m ρ', ⟨m0, P, M, ρ, .refl, s, sl, e, w0⟩, ?_⟩
  rintro m σ2 H2 ⟨P', M', ρ', a2, s2, sl2, e2, q⟩
  refine hc _ _ _ ⟨P', M', B, ρ', _, s2, sl2, t m ρ' q, fun k H3 q3 g3 p3 => ?_⟩
  have s3 := s2.keep g3 p3
  have a3 := a2.trans (.expr s2 g3 p3 fun _ z => .inl z)
  cases k with
  | true =>
    refine ⟨fun σ' H' => ∃ m', m' < m ∧ ∃ P' M' ρ', StAft P M B H P' M' H' ∧ Stt P' M' B H' ∧ Slots K P' M' B H' σ' ρ' ∧ EnvNb ρ' ∧ W m' ρ', fun σ' H' h' => h', P', M', B, ρ', _, s3, sl2.keep s2 g3, e2, q3, ⟨?_, (f.after a3).nx, ?_, (f.after a3).rt⟩⟩
    · rintro P5 M5 H5 σ5 ρ5 ⟨m', hm, q5⟩ a5 s5 sl5 e5
      exact ⟨m', hm, P5, M5, ρ5, a3.trans a5, s5, sl5, e5, q5⟩
    · rintro P5 M5 H5 σ5 ρ5 ⟨m', hm, q5⟩ a5 s5 sl5 e5
      exact ⟨m', hm, P5, M5, ρ5, a3.trans a5, s5, sl5, e5, q5⟩
  | false => exact f.nx _ _ _ _ _ q3 a3 s3 (sl2.keep s2 g3) e2
end
end DL
set_option maxHeartbeats 4000000
namespace DL
open PySem PySem.Spec PyProof.Rows L2
variable [Tb]
/-! ### own lists changed -/
/-- what a method makes of a list's items and its arguments: the new items, what it hands back -/
abbrev DM := List D → List D → (List D → D → Prop) → Prop
def appM : DM := fun xs ds Q => match ds with
  | [d] => xs.length < 1000000 ∧ Q (xs ++ [d]) .non
  | _ => False
def extM : DM := fun xs ds Q => match ds with
  | [.lst _ ys] => xs.length + ys.length < 1000000 ∧ Q (xs ++ ys) .non
  | _ => False
def popM : DM := fun xs ds Q => match ds with
  | [] => (match xs[xs.length - 1]? with
    | some d => Q xs.dropLast d
    | none => False)
  | [.int i] => 0 ≤ i ∧ i < xs.length ∧ xs.length < 1000000 ∧ (match xs[i.toNat]? with
    | some d => Q (xs.eraseIdx i.toNat) d
    | none => False)
  | _ => False
def insM : DM := fun xs ds Q => match ds with
  | [.int i, d] => xs.length < 1000000 ∧ 0 ≤ i ∧ i < 1000000000 ∧ Q (xs.take i.toNat ++ [d] ++ xs.drop i.toNat) .non
  | _ => False
def revM : DM := fun xs ds Q => match ds with
  | [] => Q xs.reverse .non
  | _ => False
def clrM : DM := fun _ ds Q => match ds with
  | [] => Q [] .non
  | _ => False
def MutR (K : PySem.W.Frag) (r : V → List V → Hp → VK → Prop) (op : DM) : Prop :=
  ∀ (P : Pens) (M B : List Addr) (H : Hp) (l : Addr) (us : List V) (xs : List D) (Lx : List Addr) (vs : List V) (ds : List D) (Ld : List Addr) (N0 : List D → D → Prop) (Q : VK),
    H l = some (.lst us) → l ∈ M → l ∉ Lx ++ Ld → Reps K P M B H us xs Lx → Reps K P M B H vs ds Ld → (Lx ++ Ld).Nodup → D.nbs xs = true → D.nbs ds = true → op xs ds N0 →
    (∀ us' xs' L' w c Lc, N0 xs' c → Reps K P M B H us' xs' L' → Rep K P M B H w c Lc → (∀ a ∈ Lc ++ L', a ∈ Lx ++ Ld) → (Lc ++ L').Nodup → D.nbs xs' = true → c.nb = true → Q w (upd H l (.lst us'))) → r (.ref l) vs H Q
theorem nbs_app : ∀ {xs ys : List D}, D.nbs xs = true → D.nbs ys = true → D.nbs (xs ++ ys) = true
  | [], _, _, h => h
  | x :: xs, ys, h, h' => by
    simp only [D.nbs, Bool.and_eq_true] at h
    simp only [List.cons_append, D.nbs, Bool.and_eq_true]
    exact ⟨h.1, nbs_app h.2 h'⟩
theorem nbs_sub : ∀ {xs ys : List D}, ys.Sublist xs → D.nbs xs = true → D.nbs ys = true
  | _, _, .slnil, h => h
  | _, _, .cons _ s, h => by
    simp only [D.nbs, Bool.and_eq_true] at h
    exact nbs_sub s h.2
  | _, _, .cons_cons _ s, h => by
    simp only [D.nbs, Bool.and_eq_true] at h ⊢
    exact ⟨h.1, nbs_sub s h.2⟩
section
variable {K : PySem.W.Frag} {P : Pens} {M B L : List Addr} {H : Hp} {vs us : List V} {ds xs : List D}
theorem mut_append : MutR K rAppend appM := by
  intro P M B H l us xs Lx vs ds Ld N0 Q hl _ _ rx rd nd bx bd op k
  unfold appM at op
  split at op
  · obtain ⟨y, rfl, r⟩ := v1 rd
    have hlen := rx.len
    have : (1000000 : Nat) < sizeLine := by decide
    refine ⟨l, us, y, rfl, rfl, hl, by omega, k _ _ (Lx ++ Ld) _ _ [] op.2 ?_ .non (fun a z => z) nd (nbs_app bx bd) rfl⟩
    have := Reps.app rx (Reps.cons r .nil)
    rw [List.append_nil] at this
    exact this
  · exact op.elim
theorem reps_rev {L : List Addr} (r : Reps K P M B H vs ds L) : ∃ L', Reps K P M B H vs.reverse ds.reverse L' ∧ L'.Perm L := by
  have : ∀ {vs : List V} {ds : List D} {L : List Addr}, Reps K P M B H vs ds L → ∃ L', Reps K P M B H vs.reverse ds.reverse L' ∧ L'.Perm L := by
    intro vs
    induction vs with
    | nil => intro ds L r; cases r; exact ⟨[], .nil, .nil⟩
    | cons v vs ih =>
      intro ds L r
      cases r with
      | cons h r =>
        obtain ⟨L', r', p⟩ := ih r
        rw [List.reverse_cons, List.reverse_cons]
        have h1 := Reps.app r' (Reps.cons h .nil)
        rw [List.append_nil] at h1
        exact ⟨_, h1, List.perm_append_comm.trans (List.Perm.append_left _ p)⟩
  exact this r
theorem nbs_rev {xs : List D} (h : D.nbs xs = true) : D.nbs xs.reverse = true := by
  have mem : ∀ {ys : List D}, D.nbs ys = true ↔ ∀ y ∈ ys, y.nb = true := by
    intro ys
    induction ys with
    | nil => simp [D.nbs]
    | cons y ys ih => simp [D.nbs, ih]
  rw [mem] at h ⊢
  intro y hy
  exact h y (List.mem_reverse.mp hy)
theorem mut_reverse : MutR K rReverse revM := by
  intro P M B H l us xs Lx vs ds Ld N0 Q hl _ _ rx rd nd bx bd op k
  unfold revM at op
  split at op
  · cases rd
    obtain ⟨L', r', p⟩ := reps_rev rx
    rw [List.append_nil] at nd
    exact ⟨l, us, rfl, rfl, hl, k _ _ L' _ _ [] op r' .non (fun a z => by rw [List.append_nil]; exact p.mem_iff.mp z) (p.nodup_iff.mpr nd) (nbs_rev bx) rfl⟩
  · exact op.elim
theorem mut_clear : MutR K rClear clrM := by
  intro P M B H l us xs Lx vs ds Ld N0 Q hl _ _ rx rd nd bx bd op k
  unfold clrM at op
  split at op
  · cases rd
    exact ⟨l, us, rfl, rfl, hl, k _ _ [] _ _ [] op .nil .non (fun a z => nomatch z) List.nodup_nil rfl rfl⟩
  · exact op.elim
/-- one item taken out -/
theorem reps_take : ∀ {us : List V} {xs : List D} {L : List Addr} {j : Nat} {d : D}, Reps K P M B H us xs L → L.Nodup → xs[j]? = some d →
    ∃ v L1 L2, us[j]? = some v ∧ Rep K P M B H v d L1 ∧ Reps K P M B H (us.eraseIdx j) (xs.eraseIdx j) L2 ∧ (∀ a ∈ L1 ++ L2, a ∈ L) ∧ (L1 ++ L2).Nodup
  | _, _, _, _, _, .nil, _, e => by simp at e
  | _, _, _, 0, _, .cons h r, n, e => by
    simp at e
    subst e
    exact ⟨_, _, _, rfl, h, by simpa using r, fun a z => z, n⟩
  | _, _, _, j + 1, _, @Reps.cons _ _ _ _ _ v0 d0 vs0 ds0 La Lb h r, n, e => by
    have nd := List.nodup_append.mp n
    obtain ⟨v, L1, L3, e1, q, r', s, m⟩ := reps_take r nd.2.1 (by simpa using e)
    have md := List.nodup_append.mp m
    refine ⟨v, L1, La ++ L3, by simpa using e1, q, by simpa using Reps.cons h r', fun a z => ?_, ?_⟩
    · rcases List.mem_append.mp z with z | z
      · exact List.mem_append_right _ (s a (List.mem_append_left _ z))
      · rcases List.mem_append.mp z with z | z
        · exact List.mem_append_left _ z
        · exact List.mem_append_right _ (s a (List.mem_append_right _ z))
    · refine nodup_app md.1 (nodup_app nd.1 md.2.1 fun a z q => nd.2.2 a z a (s a (List.mem_append_right _ q)) rfl) fun a z q => ?_
      rcases List.mem_append.mp q with q | q
      · exact nd.2.2 a q a (s a (List.mem_append_left _ z)) rfl
      · exact md.2.2 a z a q rfl
theorem nb_at {j : Nat} {d : D} : ∀ {xs : List D} {j : Nat}, D.nbs xs = true → xs[j]? = some d → d.nb = true
  | [], _, _, e => by simp at e
  | c :: cs, 0, p, e => by
    simp only [D.nbs, Bool.and_eq_true] at p
    simp at e
    rw [← e]; exact p.1
  | c :: cs, i + 1, p, e => by
    simp only [D.nbs, Bool.and_eq_true] at p
    exact nb_at (j := 0) (xs := cs) p.2 (by simpa using e)
theorem mut_pop0 : MutR K rPop (fun xs ds Q => ds = [] ∧ popM xs ds Q) := by
  intro P M B H l us xs Lx vs ds Ld N0 Q hl _ _ rx rd nd bx bd op k
  obtain ⟨e, op⟩ := op
  subst e
  cases rd
  simp only [popM] at op
  split at op
  · rename_i d e
    rw [List.append_nil] at nd
    obtain ⟨v, L1, L3, e1, q, r', s, m⟩ := reps_take rx nd e
    have hlen := rx.len
    have e2 : us.eraseIdx (xs.length - 1) = us.dropLast := by rw [← hlen]; exact List.eraseIdx_length_sub_one
    have e3 : xs.eraseIdx (xs.length - 1) = xs.dropLast := List.eraseIdx_length_sub_one
    rw [e2, e3] at r'
    refine ⟨l, us, v, rfl, rfl, hl, by rw [hlen]; exact e1, k _ _ L3 _ _ L1 op r' q (fun a z => by rw [List.append_nil]; exact s a z) m (nbs_sub (List.dropLast_sublist _) bx) (nb_at (j := 0) bx e)⟩
  · exact op.elim
theorem mut_pop1 : MutR K rPopAt (fun xs ds Q => ds ≠ [] ∧ popM xs ds Q) := by
  intro P M B H l us xs Lx vs ds Ld N0 Q hl _ _ rx rd nd bx bd op k
  obtain ⟨e, op⟩ := op
  unfold popM at op
  split at op
  · exact absurd rfl e
  · rename_i i
    obtain ⟨o1, o2, o3, op⟩ := op
    split at op
    · rename_i d ed
      obtain ⟨w, rfl, r⟩ := v1 rd
      obtain ⟨rfl, rfl⟩ := r.int_inv
      rw [List.append_nil] at nd
      obtain ⟨v, L1, L3, e1, q, r', s, m⟩ := reps_take rx nd ed
      have hlen := rx.len
      refine ⟨l, us, i, i.toNat, v, rfl, rfl, hl, by omega, by omega, ?_, e1, k _ _ L3 _ _ L1 op r' q (fun a z => by rw [List.append_nil]; exact s a z) m (nbs_sub (List.eraseIdx_sublist _ _) bx) (nb_at (j := 0) bx ed)⟩
      exact (ixN_seq (by unfold ixN; rw [if_pos o1, if_pos (by omega)])).1
    · exact op.elim
  · exact op.elim
/-- y is y -/
def rIns : V → List V → Hp → VK → Prop := fun x vs H Q => ∃ (l : Addr) (xs : List V) (i : Int) (y : V), x = .ref l ∧ vs = [.int i, y] ∧ H l = some (.lst xs) ∧ xs.length < sizeLine ∧ 0 ≤ i ∧ i < 2 ^ 63 ∧ Q .non (upd H l (.lst (xs.take i.toNat ++ [y] ++ xs.drop i.toNat)))
theorem reps_split : ∀ {us : List V} {xs : List D} {L : List Addr} (n : Nat), Reps K P M B H us xs L → ∃ L1 L2, Reps K P M B H (us.take n) (xs.take n) L1 ∧ Reps K P M B H (us.drop n) (xs.drop n) L2 ∧ L = L1 ++ L2
  | us, xs, L, 0, r => ⟨[], L, by simpa using Reps.nil, by simpa using r, rfl⟩
  | _, _, _, n + 1, .nil => ⟨[], [], by simpa using Reps.nil, by simpa using Reps.nil, rfl⟩
  | _, _, _, n + 1, .cons h r => by
    obtain ⟨L1, L3, r1, r2, e⟩ := reps_split n r
    exact ⟨_, L3, by simpa using Reps.cons h r1, by simpa using r2, by rw [e, List.append_assoc]⟩
theorem mut_insert : MutR K rIns insM := by
  intro P M B H l us xs Lx vs ds Ld N0 Q hl _ _ rx rd nd bx bd op k
  unfold insM at op
  split at op
  · rename_i i d
    obtain ⟨v, u, L1, L3, rfl, rfl, r1, r2⟩ := v2 rd
    obtain ⟨rfl, rfl⟩ := r1.int_inv
    obtain ⟨o1, o2, o3, op⟩ := op
    have hlen := rx.len
    have : (1000000 : Nat) < sizeLine := by decide
    obtain ⟨La, Lb, ra, rb, rfl⟩ := reps_split i.toNat rx
    have hm : ∀ a, a ∈ (La ++ (L3 ++ [])) ++ Lb ↔ a ∈ (La ++ Lb) ++ ([] ++ L3) := fun a => by
      simp only [List.mem_append, List.append_nil, List.nil_append]
      constructor
      · rintro ((h | h) | h)
        · exact .inl (.inl h)
        · exact .inr h
        · exact .inl (.inr h)
      · rintro ((h | h) | h)
        · exact .inl (.inl h)
        · exact .inr h
        · exact .inl (.inr h)
    refine ⟨l, us, i, u, rfl, rfl, hl, by omega, o2, by omega, k _ _ ((La ++ (L3 ++ [])) ++ Lb) _ _ [] op (Reps.app (Reps.app ra (.cons r2 .nil)) rb) .non (fun a z => (hm a).mp z) ?_ ?_ rfl⟩
    · rw [List.nil_append] at nd ⊢
      rw [List.append_nil]
      have n1 := List.nodup_append.mp nd
      have n2 := List.nodup_append.mp n1.1
      refine nodup_app (nodup_app n2.1 n1.2.1 fun a z q => n1.2.2 a (List.mem_append_left _ z) a q rfl) n2.2.1 fun a z q => ?_
      rcases List.mem_append.mp z with z | z
      · exact n2.2.2 a z a q rfl
      · exact n1.2.2 a (List.mem_append_right _ q) a z rfl
    · simp only [D.nbs, Bool.and_eq_true] at bd
      exact nbs_app (nbs_app (nbs_sub (List.take_sublist _ _) bx) (by simp [D.nbs, bd.2.1])) (nbs_sub (List.drop_sublist _ _) bx)
  · exact op.elim
end
end DL
set_option maxHeartbeats 4000000
namespace DL
open PySem PySem.Spec PyProof.Rows L2
variable [Tb]
/-- a name's own list is changed; what the method hands back goes on -/
def dMut (i : Nat) (op : DM) (ta : DTA) (k : D → Env → (Env → Prop) → Prop) : DS := fun N ρ => match Env.at ρ i with
  | some (.lst .o xs) => ta ρ fun ds => D.nbs ds = true ∧ op xs ds fun xs' c => k c (ρ.set i (some (.lst .o xs'))) N.nx
  | _ => False
def kDrop : D → Env → (Env → Prop) → Prop := fun _ ρ N => N ρ
section
variable {K : PySem.W.Frag} {P P' P'' : Pens} {M M' M'' B B' L Lr R : List Addr} {H H' H'' : Hp} {σ : Sg} {ρ : Env} {v : V} {d : D} {ds : List D} {vs : List V} {N : DE} {E : Ends}
/-- the core: the list at the name, the arguments, the change -/
theorem mut_core {i : Nat} {op : DM} {ta : DTA} {k : D → Env → (Env → Prop) → Prop} {r : V → List V → Hp → VK → Prop} {tA : TA} (hr : MutR K r op) (h : liftS K (dMut i op ta k) E σ H) (hA : ∀ σ H Q, liftA K ta σ H Q → tA σ H Q)
    {Qf : V → Hp → Prop}
    (kk : ∀ (P : Pens) (M B : List Addr) (ρ : Env) (N : DE) (H0 : Hp) (c : D) (ρ' : Env) (Mx : List Addr) (Hx : Hp) (σ' : Sg) (w : V) (Lc : List Addr), Stt P M B H → Fits K P M B H N E → k c ρ' N.nx → StAft P M B H P Mx Hx → Stt P Mx B Hx → SlotsX K P Mx B Hx σ ρ' (Lc ++ []) → EnvNb ρ' → Rep K P Mx B Hx w c Lc → (∀ a ∈ Lc, a ∈ Mx ∧ a ∉ B) → Lc.Nodup → c.nb = true → Qf w Hx) :
    tBM K "list" r (tVar i) tA σ H Qf := by
  obtain ⟨P, M, B, ρ, N, s, sl, e, t, f⟩ := h
  unfold dMut at t
  split at t
  · rename_i xs ed
    have ed := Env.at_get ed
    obtain ⟨hlen, F, h1, h2, h3, h4⟩ := sl
    obtain ⟨v, e1, rv⟩ := h1 i _ ed
    have bx : D.nbs xs = true := by simpa [D.nb] using e i _ ed
    generalize hF : F i = Fi at rv
    cases rv with
    | @lstO l us _ Lx hl hn rx =>
      refine ⟨_, e1, .inl ⟨rfl, us, SqL.of hl⟩, hA _ _ _ ⟨P, M, B, ρ, _, s, ⟨hlen, F, h1, h2, h3, h4⟩, t, fun vs H2 ra => ?_⟩⟩
      obtain ⟨ds, Ld, ⟨bd, q⟩, g, p, rd, nd, fd⟩ := ra
      have hFi : ∀ a ∈ l :: Lx, a ∈ M ∧ a ∉ B := fun a z => h2 i a (by rw [hF]; exact z)
      have nFi : (l :: Lx).Nodup := by rw [← hF]; exact h3 i
      have hl2 : H2 l = some (.lst us) := g _ _ hl hn
      have rx2 : Reps K P (Ld ++ M) B H2 us xs Lx := Reps.gr g s.lists (new_or fd) (fun _ z => .inl z) rx
      have rd2 : Reps K P (Ld ++ M) B H2 vs ds Ld := Reps.sub (fun _ z => z) in_r rd
      have tk : ∀ a ∈ l :: Lx, a ∉ Ld := fun a z q => s.trk a (hFi a z).1 (fd a q)
      refine hr P (Ld ++ M) B H2 l us xs Lx vs ds Ld _ _ hl2 (in_r l (hFi l (List.mem_cons_self ..)).1) (fun z => ?_) rx2 rd2 (nodup_app (List.nodup_cons.mp nFi).2 nd fun a z => tk a (List.mem_cons_of_mem _ z)) bx bd q fun us' xs' L' w c Lc n0 r' rc sub n2 bx' bc => ?_
      · rcases List.mem_append.mp z with z | z
        · exact (List.nodup_cons.mp nFi).1 z
        · exact tk l (List.mem_cons_self ..) z
      have hlm : l ∈ Ld ++ M := in_r l (hFi l (List.mem_cons_self ..)).1
      have hlB : l ∉ B := (hFi l (List.mem_cons_self ..)).2
      have subM : ∀ a ∈ Lc ++ L', a ∈ Ld ++ M := fun a z => (List.mem_append.mp (sub a z)).elim (fun q => in_r a (hFi a (List.mem_cons_of_mem _ q)).1) fun q => List.mem_append_left _ q
      have subB : ∀ a ∈ Lc ++ L', a ∉ B := fun a z => (List.mem_append.mp (sub a z)).elim (fun q => (hFi a (List.mem_cons_of_mem _ q)).2) fun q m => s.trk a (s.sub a m) (fd a q)
      have lx : ∀ a ∈ Lc ++ L', a ≠ l := fun a z q => by
        subst q
        rcases List.mem_append.mp (sub a z) with w | w
        · exact (List.nodup_cons.mp nFi).1 w
        · exact tk a (List.mem_cons_self ..) w
      have nn := List.nodup_append.mp n2
      have s2 : Stt P (Ld ++ M) B H2 := by
        have := s.after g p fun a z => (Reps.own rd a z).1
        exact ⟨p, fun a z => in_r a (s.sub a z), this.ls, this.tabs⟩
      have s3 : Stt P (Ld ++ M) B (upd H2 l (.lst us')) := ⟨s2.pens.mut hlm, s2.sub, fun a z => by
        by_cases q : a = l
        · subst q; exact ⟨_, upd_same⟩
        · rw [upd_ne q]; exact s2.ls a z, fun x z => (s2.tabs x z).lst hl2⟩
      have a3 : StAft P M B H P (Ld ++ M) (upd H2 l (.lst us')) := by
        refine ⟨fun b o hb n1 n2 => ?_, fun _ z => z, fun _ z => .inl z, new_or fd, fun b hb => ?_, fun b q mT t => (g.tab b q mT t).lst hl2⟩
        · have ne : b ≠ l := fun q => by
            subst q
            exact n2.elim (fun w => w (hFi b (List.mem_cons_self ..)).1) fun w => hlB w
          rw [upd_ne ne]
          exact g b o hb n1
        · by_cases q : b = l
          · subst q; rw [upd_same]; intro z; cases z
          · rw [upd_ne q]; exact Gr.trk g p hb
      have others : ∀ (j : Nat) (d : D), j ≠ i → ρ[j]? = some (some d) → ∃ v, σ[j]? = some (some v) ∧ Rep K P (Ld ++ M) B (upd H2 l (.lst us')) v d (F j) := fun j d hj ej => by
        obtain ⟨v, e2, r2⟩ := h1 j d ej
        refine ⟨v, e2, Rep.mut hl2 hlm (Rep.gr g s.lists (new_or fd) (fun _ z => .inl z) r2) (e j d ej) fun z => hj (h4 j i l z (by rw [hF]; exact List.mem_cons_self ..))⟩
      have r3 : Reps K P (Ld ++ M) B (upd H2 l (.lst us')) us' xs' L' := Reps.mut hl2 hlm r' bx' fun z => lx l (List.mem_append_right _ z) rfl
      have rc3 : Rep K P (Ld ++ M) B (upd H2 l (.lst us')) w c Lc := Rep.mut hl2 hlm rc bc fun z => lx l (List.mem_append_left _ z) rfl
      have hi : i < ρ.length := (List.getElem?_eq_some_iff.mp ed).1
      have Fo : ∀ j, j ≠ i → ∀ a ∈ F j, a ∉ Lc ++ L' := fun j hj a z q => by
        rcases List.mem_append.mp (sub a q) with w | w
        · exact hj (h4 j i a z (by rw [hF]; exact List.mem_cons_of_mem _ w))
        · exact s.trk a (h2 j a z).1 (fd a w)
      refine kk P M B ρ N H c _ (Ld ++ M) _ σ w Lc s f n0 a3 s3 ⟨by rw [List.length_set]; exact hlen, fun j => if j = i then l :: L' else F j, fun j d ej => ?_, fun j a z => ?_, fun j => ?_, fun j m a z z' => ?_, fun j a z q => ?_⟩ (fun j d ej => ?_) rc3 (fun a z => ⟨subM a (List.mem_append_left _ z), subB a (List.mem_append_left _ z)⟩) nn.1 bc
      · rw [List.getElem?_set] at ej
        by_cases hj : i = j
        · subst hj
          rw [if_pos rfl, if_pos hi] at ej
          cases ej
          refine ⟨.ref l, e1, ?_⟩
          simp only [if_true]
          exact .lstO upd_same hn r3
        · rw [if_neg hj] at ej
          obtain ⟨v, e2, r2⟩ := others j d (fun q => hj q.symm) ej
          have : ¬ j = i := fun q => hj q.symm
          exact ⟨v, e2, by simpa [this] using r2⟩
      · dsimp only at z
        split at z
        · rcases List.mem_cons.mp z with q | q
          · subst q; exact ⟨hlm, hlB⟩
          · exact ⟨subM a (List.mem_append_right _ q), subB a (List.mem_append_right _ q)⟩
        · exact ⟨in_r a (h2 j a z).1, (h2 j a z).2⟩
      · dsimp only
        split
        · exact List.nodup_cons.mpr ⟨fun z => lx l (List.mem_append_right _ z) rfl, nn.2.1⟩
        · exact h3 j
      · dsimp only at z z'
        split at z <;> split at z'
        · rename_i q1 q2; rw [q1, q2]
        · rename_i q1 q2
          rcases List.mem_cons.mp z with w | w
          · subst w; exact absurd (h4 m i a z' (by rw [hF]; exact List.mem_cons_self ..)) q2
          · exact absurd (List.mem_append_right _ w) (Fo m q2 a z')
        · rename_i q1 q2
          rcases List.mem_cons.mp z' with w | w
          · subst w; exact absurd (h4 j i a z (by rw [hF]; exact List.mem_cons_self ..)) q1
          · exact absurd (List.mem_append_right _ w) (Fo j q1 a z)
        · exact h4 j m a z z'
      · rw [nil_app] at q
        dsimp only at z
        split at z
        · rcases List.mem_cons.mp z with w | w
          · exact lx a (List.mem_append_left _ q) w
          · exact nn.2.2 a q a w rfl
        · rename_i hj
          exact Fo j hj a z (List.mem_append_left _ q)
      · rw [List.getElem?_set] at ej
        by_cases hj : i = j
        · subst hj
          rw [if_pos rfl, if_pos hi] at ej
          cases ej
          simpa [D.nb] using bx'
        · rw [if_neg hj] at ej
          exact e j d ej
  · exact t.elim
theorem lift_mutD {i : Nat} {op : DM} {ta : DTA} {r : V → List V → Hp → VK → Prop} {tA : TA} (hr : MutR K r op) (h : liftS K (dMut i op ta kDrop) E σ H) (hA : ∀ σ H Q, liftA K ta σ H Q → tA σ H Q) : tDrop (tBM K "list" r (tVar i) tA) E σ H :=
  mut_core hr h hA fun P M B ρ N H0 c ρ' Mx Hx σ' w Lc s f q a s' sl e _ _ _ _ => f.nx _ _ _ _ _ q a s' sl.s e
theorem lift_mutA {i : Nat} {g : G} {op : DM} {ta : DTA} {r : V → List V → Hp → VK → Prop} {tA : TA} (hr : MutR K r op) (h : liftS K (dMut i op ta (G.go g)) E σ H) (hA : ∀ σ H Q, liftA K ta σ H Q → tA σ H Q) : tAsg (tBM K "list" r (tVar i) tA) (G.tg K g) E σ H :=
  mut_core hr h hA fun P M B ρ N H0 c ρ' Mx Hx σ' w Lc s f q a s' sl e rc hc n bc => by
    refine G.ok g.slots (g := g) (R := []) (fun _ z => z) sl rc hc n (fun _ _ z => nomatch z) (G.go_nb bc e q) fun ρ2 σ2 h2 sl2 _ => ?_
    exact f.nx _ _ _ _ _ h2.1 a s' sl2.s h2.2
end
end DL
set_option maxHeartbeats 4000000
namespace DL
open PySem PySem.Spec PyProof.Rows L2
variable [Tb]
/-! ### in, not in -/
theorem pys_any (f : PyData → Bool) : ∀ ys : List D, (D.pys ys).any f = ys.any fun z => f z.py
  | [] => rfl
  | y :: ys => by
    simp only [D.pys, List.any_cons]
    rw [pys_any f ys]
theorem Sh.up : ∀ {n : Nat} {d : D}, Sh n d → Sh (n + 1) d
  | _, .non, _ => by unfold Sh; trivial
  | _, .bl _, _ => by unfold Sh; trivial
  | _, .int _, _ => by unfold Sh; trivial
  | _, .str _, s => by unfold Sh at s ⊢; exact s
  | _, .pen, s => by unfold Sh at s; exact s.elim
  | 0, .tup _, s => by unfold Sh at s; exact s.elim
  | 0, .lst _ _, s => by unfold Sh at s; exact s.elim
  | n + 1, .tup xs, s => by
    have s' : ∀ x ∈ xs, Sh n x := by simpa [Sh] using s
    have : ∀ x ∈ xs, Sh (n + 1) x := fun x z => Sh.up (s' x z)
    simpa [Sh] using this
  | n + 1, .lst _ xs, s => by
    have s' : ∀ x ∈ xs, Sh n x := by simpa [Sh] using s
    have : ∀ x ∈ xs, Sh (n + 1) x := fun x z => Sh.up (s' x z)
    simpa [Sh] using this
section
variable {X : Cx}
theorem in_core {neg : Bool} {op : CmpOp} (hop : op = if neg then .NotIn else .In) (hu : X.A.units + 65 < cLine) : OpR X (compareOp op) (rD X.K (o2 (inO fun b => if neg then !b else b))) := by
  intro pins s σ H x y v u Q I rx ry h0
  refine to2 h0 fun P M B d e L1 L3 Q0 A r1 r2 q k => ?_
  have hfin : ∀ b, Q0 (.bl b) → EP X pins σ Q (.bool b) s := fun b qb => ⟨.bl b, H, I, rfl, k _ _ (A.plain (fun {_} => .bl) qb)⟩
  unfold inO at q
  split at q
  · rename_i kk ys
    obtain ⟨s1, s2, q⟩ := q
    have sy : Sh 59 (.lst kk ys) := by simpa [Sh] using s2
    have sy' : Sh 60 (.lst kk ys) := by
      have : ∀ {n : Nat} {d : D}, Sh n d → Sh (n + 1) d := fun {n d} h => Sh.up h
      exact this sy
    obtain ⟨as, p1⟩ := Dp.reads I _ x v (r1.dp s1) rx
    obtain ⟨bs, p2⟩ := Dp.reads I (.list (D.pys ys)) y u (r2.dp sy) ry
    rw [show (ys.any fun z => eqD z d) = (D.pys ys).any (fun z => PyData.eqv z d.py) from (pys_any (fun z => PyData.eqv z d.py) ys).symm] at q
    cases neg with
    | false =>
      subst hop
      exact SeqAt.in_list_reads p2 p1 (SeqAt.canLay_of_shaped sy'.shaped) (SeqAt.canLay_of_shaped s1.shaped) (room_in_shaped s1.shaped hu) (hfin _ q)
    | true =>
      subst hop
      exact SeqAt.notIn_list_reads p2 p1 (SeqAt.canLay_of_shaped sy'.shaped) (SeqAt.canLay_of_shaped s1.shaped) (room_in_shaped s1.shaped hu) (hfin _ q)
  · rename_i ys
    obtain ⟨s1, s2, q⟩ := q
    have sy : Sh 59 (.tup ys) := by simpa [Sh] using s2
    have sy' : Sh 60 (.tup ys) := Sh.up sy
    obtain ⟨as, p1⟩ := Dp.reads I _ x v (r1.dp s1) rx
    obtain ⟨bs, p2⟩ := Dp.reads I (.tuple (D.pys ys)) y u (r2.dp sy) ry
    rw [show (ys.any fun z => eqD z d) = (D.pys ys).any (fun z => PyData.eqv z d.py) from (pys_any (fun z => PyData.eqv z d.py) ys).symm] at q
    cases neg with
    | false =>
      subst hop
      exact SeqAt.in_tuple_reads p2 p1 (SeqAt.canLay_of_shaped sy'.shaped) (SeqAt.canLay_of_shaped s1.shaped) (room_in_shaped s1.shaped hu) (hfin _ q)
    | true =>
      subst hop
      exact SeqAt.notIn_tuple_reads p2 p1 (SeqAt.canLay_of_shaped sy'.shaped) (SeqAt.canLay_of_shaped s1.shaped) (room_in_shaped s1.shaped hu) (hfin _ q)
  · rename_i c z
    obtain ⟨hc, q⟩ := q
    obtain ⟨rfl, _⟩ := r1.str_inv
    obtain ⟨rfl, _⟩ := r2.str_inv
    have e : c = ⟨#[c.cps.getD 0 0]⟩ := by
      obtain ⟨a⟩ := c
      obtain ⟨l⟩ := a
      match l, hc with
      | [w], _ => rfl
    rw [e] at rx
    cases neg with
    | false =>
      subst hop
      exact op_in_sign pins s σ H _ _ v u Q I rx ry ⟨_, _, rfl, rfl, k _ _ (A.plain (fun {_} => .bl) q)⟩
    | true =>
      subst hop
      exact op_notIn_sign pins s σ H _ _ v u Q I rx ry ⟨_, _, rfl, rfl, k _ _ (A.plain (fun {_} => .bl) q)⟩
  · exact q.elim
theorem op_inO (hu : X.A.units + 65 < cLine) : OpR X (compareOp .In) (rD X.K (o2 (inO id))) := in_core (neg := false) rfl hu
theorem op_notInO (hu : X.A.units + 65 < cLine) : OpR X (compareOp .NotIn) (rD X.K (o2 (inO not))) := in_core (neg := true) rfl hu
end
end DL
set_option maxHeartbeats 4000000
namespace DL
open PySem PySem.Spec PyProof.Rows L2
variable [Tb]
section
variable {X : Cx}
theorem mPE {e : Expr} {t t' : TE} (h : PE X e t) (k : ∀ σ H Q, t' σ H Q → t σ H Q) : PE X e t' := ⟨fun pins s σ H Q I hw => h.run pins s σ H Q I (k _ _ _ hw)⟩
theorem mPT {e : Expr} {t t' : TT} (h : PT X e t) (k : ∀ σ H Q, t' σ H Q → t σ H Q) : PT X e t' := ⟨fun pins s σ H Q I hw => h.run pins s σ H Q I (k _ _ _ hw)⟩
theorem mPW {e : Expr} {t t' : TT} (h : PW X e t) (k : ∀ σ H Q, t' σ H Q → t σ H Q) : PW X e t' := ⟨fun wh pins s σ H Q I hw => h.run wh pins s σ H Q I (k _ _ _ hw)⟩
theorem mPA {e : List Expr} {t t' : TA} (h : PA X e t) (k : ∀ σ H Q, t' σ H Q → t σ H Q) : PA X e t' := ⟨fun p pins s σ H Q I hw => h.run p pins s σ H Q I (k _ _ _ hw)⟩
theorem mPS {e : Stmt} {t t' : TS} (h : PS X e t) (k : ∀ D σ H, t' D σ H → t D σ H) : PS X e t' := ⟨fun pins s σ H D I hw => h.run pins s σ H D I (k _ _ _ hw)⟩
theorem mPSs {e : List Stmt} {t t' : TS} (h : PSs X e t) (k : ∀ D σ H, t' D σ H → t D σ H) : PSs X e t' := ⟨fun pins s σ H D I hw => h.run pins s σ H D I (k _ _ _ hw)⟩
theorem mPI {tg e : Expr} {t t' : TI} (h : PI X tg e t) (k : ∀ σ H R, t' σ H R → t σ H R) : PI X tg e t' := ⟨fun pins s σ H R I hw => h.run pins s σ H R I (k _ _ _ hw)⟩
end
abbrev PD (X : Cx) (e : Expr) (t : DT) : Prop := PE X e (lift X.K t)
abbrev PDT (X : Cx) (e : Expr) (t : DTT) : Prop := PT X e (liftT X.K t)
abbrev PDW (X : Cx) (e : Expr) (t : DTT) : Prop := PW X e (liftT X.K t)
abbrev PDA (X : Cx) (e : List Expr) (t : DTA) : Prop := PA X e (liftA X.K t)
abbrev PDS (X : Cx) (e : Stmt) (t : DS) : Prop := PS X e (liftS X.K t)
abbrev PDB (X : Cx) (e : List Stmt) (t : DS) : Prop := PSs X e (liftS X.K t)
abbrev PDG (X : Cx) (e : Expr) (g : G) : Prop := PG X e (g.tg X.K)
abbrev PDGs (X : Cx) (e : List Expr) (g : Gs) : Prop := PGs X e (g.tgs X.K)
abbrev PIC (X : Cx) (tg e : Expr) (t : DTI) : Prop := PI X tg e (liftIC X.K t)
abbrev PIS (X : Cx) (tg e : Expr) (t : DTI) : Prop := PI X tg e (liftIS X.K t)
/-- where code runs: no except around, names apart, room for so many calls -/
structure Gd (X : Cx) (k : Nat) : Prop where
  calm : X.calm = true
  nd : X.N.Nodup
  room : Room k X.A
theorem Gd.u {X : Cx} {k : Nat} (g : Gd X k) : X.A.units + 65 < cLine := by
  have := g.room.un
  omega
theorem Gd.u' {X : Cx} {k : Nat} (g : Gd X k) : X.A.units + 64 < cLine := by
  have := g.room.un
  omega
section
variable {X : Cx} {a b c e : Expr} {es rest : List Expr} {pos p px : Pos} {ta tb tc te : DT} {tr : DTA} {o : DO} {j k : Nat} {x : Str}
/-! ### expressions -/
theorem pd_var (i : Nat) (hN : X.N[i]? = some x := by rfl) (hv : Vis X.env.scope x := by first | exact Or.inl rfl | exact Or.inr (Or.inl rfl) | exact Or.inr (Or.inr rfl)) (hd : (x == ("__debug__" : Str)) = false := by decide) (hcd : (x == ("__classdict__" : Str)) = false := by decide) : PD X (.Name x pos) (dVar i) :=
  mPE (pv i hN hv hd hcd) fun _ _ _ => lift_var
theorem pd_int {i : Int} : PD X (.Constant (.int i) j pos) (dC (.int i)) := mPE pe_int fun _ _ _ => lift_c fun _ _ _ _ => .int
theorem pd_bl {i : Bool} : PD X (.Constant (.bool i) j pos) (dC (.bl i)) := mPE pe_bl fun _ _ _ => lift_c fun _ _ _ _ => .bl
theorem pd_non : PD X (.Constant .none j pos) (dC .non) := mPE pe_non fun _ _ _ => lift_c fun _ _ _ _ => .non
theorem pd_str {i : Str} : PD X (.Constant (.str i) j pos) (dC (.str i)) := mPE pe_str fun _ _ _ => lift_c fun _ _ _ _ => .str
theorem pd_gint {i : Int} (hm : X.mg x = some (.int i 0)) (hg : Gl X x := by rfl) (hd : (x == ("__debug__" : Str)) = false := by decide) : PD X (.Name x pos) (dC (.int i)) := mPE (pe_glob (v := .int i) hg hm ⟨_, rfl⟩ hd) fun _ _ _ => lift_c fun _ _ _ _ => .int
theorem pd_bin {op : Operator} (ho : OpR X (binaryOp op) (rD X.K o)) (ha : PD X a ta) (hb : PD X b tb) : PD X (.BinOp a op b pos) (dBin o ta tb) := mPE (pe_op ho ha hb) fun _ _ _ => lift_bin
theorem pd_neg (ha : PD X a ta) : PD X (.UnaryOp .USub a pos) (dUn (o1 negD) ta) := mPE (pe_un un_negD ha) fun _ _ _ => lift_un
theorem pd_cmp {op : CmpOp} (ho : OpR X (compareOp op) (rD X.K o)) (ha : PD X a ta) (hb : PD X b tb) (hm : behindInMarks op b = false := by first | exact nomark _ | rfl) : PD X (.Compare a [op] [b] pos) (dBin o ta tb) := mPE (pe_cmpR ho ha hb hm) fun _ _ _ => lift_bin
theorem pt_cmpd {op : CmpOp} (ho : OpR X (compareOp op) (rD X.K o)) (ha : PD X a ta) (hb : PD X b tb) (hm : behindInMarks op b = false := by first | exact nomark _ | rfl) : PDT X (.Compare a [op] [b] pos) (dB (dBin o ta tb)) :=
  mPT (pt_cmpR ho ha hb hm) fun _ _ _ h => lift_bin (lift_b h)
theorem marks2 {op op' : CmpOp} (h : behindInMarks op' c = false) : lastMarks [op, op'] [b, c] = false := by
  unfold lastMarks
  unfold lastMarks
  exact h
theorem pd_chain {op op' : CmpOp} {o1 o3 : D2} (ho : OpR X (compareOp op) (rD X.K (o2 o1))) (ho' : OpR X (compareOp op') (rD X.K (o2 o3))) (ha : PD X a ta) (hb : PD X b tb) (hc : PD X c tc) (hm : behindInMarks op' c = false := by first | exact nomark _ | rfl) :
    PD X (.Compare a [op, op'] [b, c] pos) (dChain o1 o3 ta tb tc) := mPE (pe_chain ho ho' ha hb hc (marks2 hm)) fun _ _ _ => lift_chain
theorem pt_chaind {op op' : CmpOp} {o1 o3 : D2} (ho : OpR X (compareOp op) (rD X.K (o2 o1))) (ho' : OpR X (compareOp op') (rD X.K (o2 o3))) (ha : PD X a ta) (hb : PD X b tb) (hc : PD X c tc) (hm : behindInMarks op' c = false := by first | exact nomark _ | rfl) :
    PDT X (.Compare a [op, op'] [b, c] pos) (dB (dChain o1 o3 ta tb tc)) := mPT (pt_chain ho ho' ha hb hc (marks2 hm)) fun _ _ _ h => lift_chain (lift_b h)
theorem pd_one {op} (h : PD X a ta) : PD X (.BoolOp op [a] pos) ta := pe_one h
theorem pd_and (ha : PD X a ta) (hb : PD X (.BoolOp .And (b :: rest) pos) tb) : PD X (.BoolOp .And (a :: b :: rest) pos) (dAnd ta tb) := mPE (pe_and ha hb) fun _ _ _ => lift_and
theorem pd_or (ha : PD X a ta) (hb : PD X (.BoolOp .Or (b :: rest) pos) tb) : PD X (.BoolOp .Or (a :: b :: rest) pos) (dOr ta tb) := mPE (pe_or ha hb) fun _ _ _ => lift_or
theorem pd_not (ha : PD X a ta) : PD X (.UnaryOp .Not a pos) (dNot ta) := mPE (pe_not ha) fun _ _ _ => lift_not
theorem pt_vald (ha : PD X a ta) (he : ∀ whole, isTrue a X.env whole = (do let v ← whole; standAt a.pos; holding [v] (truthy v)) := by intro _; rfl) : PDT X a (dTru ta) := mPT (pt_truth ha he) fun _ _ _ h => lift_tru h
variable {ca cb : DTT}
theorem pt_notd (ha : PDT X a ca) : PDT X (.UnaryOp .Not a pos) (dNotT ca) := mPT (pt_not ha) fun _ _ _ h => lift_notT h
theorem pw_and1d (ha : PDT X a ca) : PDW X (.BoolOp .And [a] pos) ca := pw_and1 ha
theorem pw_or1d (ha : PDT X a ca) : PDW X (.BoolOp .Or [a] pos) ca := pw_or1 ha
theorem pw_andd (ha : PDT X a ca) (hb : PDW X (.BoolOp .And (b :: rest) pos) cb) : PDW X (.BoolOp .And (a :: b :: rest) pos) (dAndT ca cb) := mPW (pw_and ha hb) fun _ _ _ h => lift_andT h
theorem pw_ord (ha : PDT X a ca) (hb : PDW X (.BoolOp .Or (b :: rest) pos) cb) : PDW X (.BoolOp .Or (a :: b :: rest) pos) (dOrT ca cb) := mPW (pw_or ha hb) fun _ _ _ h => lift_orT h
theorem pt_pw (h : PDW X a ca) : PDT X a ca := h.pt
theorem pd_if (hc : PDT X c ca) (ha : PD X a ta) (hb : PD X b tb) : PD X (.IfExp c a b pos) (dIf ca ta tb) := mPE (pe_ifExp hc ha hb) fun _ _ _ => lift_if
theorem pda_nil : PDA X [] dNil := mPA pa_nil fun _ _ _ h => liftA_nil h
theorem pda_cons (ha : PD X e te) (hr : PDA X es tr) (hs : starEach (e :: es) X.env = (false, eval e X.env) :: starEach es X.env := by rfl) : PDA X (e :: es) (dCons te tr) := mPA (pa_cons ha hr hs) fun _ _ _ h => liftA_cons h
theorem pd_tup {x1} (h : PDA X es tr) : PD X (.Tuple es x1 pos) (dTup tr) := mPE (pe_tup h) fun _ _ _ => lift_tup
theorem pd_lst (h : PDA X es tr) : PD X (.List es pos) (dLst tr) := mPE (pe_lst h) fun _ _ _ => lift_lst
theorem pd_ix (ha : PD X a ta) (hb : PD X b tb) (hs : PlainIx b := by intro _ _; rfl) : PD X (.Subscript a b pos) (dBin (o2 ixD) ta tb) := mPE (pe_ix ix_dD ha hb hs) fun _ _ _ => lift_bin
theorem pd_callB {id : String} (hc : CallR X (.builtin id) (rC X.K o)) (hm : X.mg x = none) (ha : PDA X (e :: es) tr) (hv : bootBuiltins x = some (.builtin id) := by rfl) (hg : Gl X x := by rfl) (hn : x ≠ "__name__" := by decide) (hdb : (x == ("__debug__" : Str)) = false := by decide)
    (he : starEach (e :: es) X.env = (false, eval e X.env) :: starEach es X.env := by rfl) (hpl : (backTo pos (starEach es X.env)).any (·.1) = false := by rfl) : PD X (.Call (.Name x p) (e :: es) [] pos) (dCall o tr) := mPE (pe_callB hc hg hm hv ha hn hdb he hpl) fun _ _ _ => lift_call
theorem pd_callT {T : String} (hc : CallR X (.type T) (rC X.K o)) (hm : X.mg x = none) (ha : PDA X (e :: es) tr) (hv : bootBuiltins x = some (.type T) := by rfl) (hg : Gl X x := by rfl) (hn : x ≠ "__name__" := by decide) (hdb : (x == ("__debug__" : Str)) = false := by decide)
    (he : starEach (e :: es) X.env = (false, eval e X.env) :: starEach es X.env := by rfl) (hpl : (backTo pos (starEach es X.env)).any (·.1) = false := by rfl) : PD X (.Call (.Name x p) (e :: es) [] pos) (dCall o tr) := mPE (pe_callTy hc hg hm hv ha hn hdb he hpl) fun _ _ _ => lift_call
end
/-! ### calls of defs -/
/-- a def by name keeps a promise -/
def Fd (P : Program) (w : World) (K : PySem.W.Frag) (mg : Str → Option Value) (base : Heap) (k : Nat) (x : Str) (S : DSpec) : Prop :=
  ∃ f fd ps, FnOk P w K mg base CX0 k f fd ps (liftF K S) ∧ mg x = some (.ref f) ∧ PySem.W.keepIn K (.ref f) = true ∧ Binds K fd ps []
section
variable {P : Program} {w : World} {K : PySem.W.Frag} {mg : Str → Option Value} {base : Heap} {S S' : DSpec} {x : Str} {k k' : Nat}
theorem Fd.imp (F : Fd P w K mg base k x S) (hk : k ≤ k') (h : ∀ ds Q, S' ds Q → S ds Q) : Fd P w K mg base k' x S' := by
  obtain ⟨f, fd, ps, F, a, b, c⟩ := F
  exact ⟨f, fd, ps, (F.mono hk).imp fun vs H Q E ⟨P, M, ds, Q0, h1, h2, h3, h4, h5⟩ => ⟨P, M, ds, Q0, h1, h2, h3, h _ _ h4, h5⟩, a, b, c⟩
end
section
variable {X : Cx} {e : Expr} {es : List Expr} {pos p : Pos} {tr : DTA} {k : Nat} {x : Str} {S : DSpec}
theorem pd_fn (F : Fd X.prog X.w X.K X.mg X.base k x S) (hr : Room k X.A) (ha : PDA X (e :: es) tr) (hg : Gl X x := by rfl) (hdb : (x == ("__debug__" : Str)) = false := by decide)
    (he : starEach (e :: es) X.env = (false, eval e X.env) :: starEach es X.env := by rfl) (hpl : (backTo pos (starEach es X.env)).any (·.1) = false := by rfl) : PD X (.Call (.Name x p) (e :: es) [] pos) (dFn S tr) := by
  obtain ⟨f, fd, ps, F, a, b, c⟩ := F
  refine mPE (pe_call F hr hg a b c .nil (E := E0) (CX := CX0) pass0 ha hdb he hpl) fun σ H Q h => ?_
  have := lift_fn (E := E0) h
  unfold tCall
  simpa using this
end
/-! ### targets -/
section
variable {X : Cx} {e : Expr} {es : List Expr} {pos p : Pos} {k : Nat} {x : Str} {g : G} {gs : Gs}
theorem pdg_nm (i : Nat) (hN : X.N.Nodup) (hi : X.N[i]? = some x := by rfl) (hx : Loc X.env.scope x := by first | exact Or.inl rfl | exact Or.inr rfl) (hf : X.fn x = true ∨ X.env.scope.names.lookup x = some .local := by first | exact .inl rfl | exact .inr rfl) : PDG X (.Name x pos) (.nm i) := pg_name hN hi hx hf
theorem pdg_nil : PDGs X [] .nil := pgs_nil
theorem pdg_cons (h1 : PDG X e g) (h2 : PDGs X es gs) (hs : (assignEach (e :: es) X.env).map (·.2) = assign e X.env :: (assignEach es X.env).map (·.2) := by rfl) : PDGs X (e :: es) (.cons g gs) := pgs_cons h1 h2 hs
theorem pdg_tp (hc : X.calm = true) (h : PDGs X es gs) (hn : (assignEach es X.env).length = gs.len := by rfl) (hst : (assignEach es X.env).findIdx? (·.1) = none := by rfl) : PDG X (.Tuple es k pos) (.tp gs) := pg_tup hc h hn hst
end
/-! ### iteration -/
section
variable {X : Cx} {a b tg : Expr} {es : List Expr} {pos p tpos : Pos} {kk : Nat} {ta tb : DT}
theorem pic_any (ha : PD X a ta) : PIC X tg a (dIter itemsC ta) := mPI (pi_any ha) fun _ _ _ h => liftIC_any h
theorem pis_any (ha : PD X a ta) : PIS X tg a (dIter itemsS ta) := mPI (pi_any ha) fun _ _ _ h => liftIS_any h
theorem one_arg (ha : PD X a ta) (hs : starEach [a] X.env = (false, eval a X.env) :: starEach [] X.env := by rfl) : PA X [a] (tCons (lift X.K ta) tNil) := pa_cons ha pa_nil hs
theorem pic_enum (hm : X.mg "enumerate" = none) (ha : PD X a ta) (hg : Gl X "enumerate" := by rfl) (hs : starEach [a] X.env = [(false, eval a X.env)] := by rfl) : PIC X (.Tuple es kk tpos) (.Call (.Name "enumerate" p) [a] [] pos) (dEnum itemsC ta) :=
  mPI (pi_enum hg hm (pa_cons ha pa_nil hs) hs) fun _ _ _ h => liftIC_enum h
theorem pis_enum (hm : X.mg "enumerate" = none) (ha : PD X a ta) (hg : Gl X "enumerate" := by rfl) (hs : starEach [a] X.env = [(false, eval a X.env)] := by rfl) : PIS X (.Tuple es kk tpos) (.Call (.Name "enumerate" p) [a] [] pos) (dEnum itemsS ta) :=
  mPI (pi_enum hg hm (pa_cons ha pa_nil hs) hs) fun _ _ _ h => liftIS_enum h
theorem pic_zip (hm : X.mg "zip" = none) (ha : PD X a ta) (hb : PD X b tb) (hg : Gl X "zip" := by rfl) (hs : starEach [a, b] X.env = (false, eval a X.env) :: starEach [b] X.env := by rfl) (hs2 : starEach [b] X.env = (false, eval b X.env) :: starEach [] X.env := by rfl) (hpl : (backTo pos (starEach [b] X.env)).any (·.1) = false := by rfl) :
    PIC X (.Tuple es kk tpos) (.Call (.Name "zip" p) [a, b] [] pos) (dZip itemsC ta tb) := mPI (RZ.pi_zipA hg hm (pa_cons ha (pa_cons hb pa_nil hs2) hs) hs hpl) fun _ _ _ h => liftIC_zip h
theorem pis_zip (hm : X.mg "zip" = none) (ha : PD X a ta) (hb : PD X b tb) (hg : Gl X "zip" := by rfl) (hs : starEach [a, b] X.env = (false, eval a X.env) :: starEach [b] X.env := by rfl) (hs2 : starEach [b] X.env = (false, eval b X.env) :: starEach [] X.env := by rfl) (hpl : (backTo pos (starEach [b] X.env)).any (·.1) = false := by rfl) :
    PIS X (.Tuple es kk tpos) (.Call (.Name "zip" p) [a, b] [] pos) (dZip itemsS ta tb) := mPI (RZ.pi_zipA hg hm (pa_cons ha (pa_cons hb pa_nil hs2) hs) hs hpl) fun _ _ _ h => liftIS_zip h
theorem pic_r1 (hm : X.mg "range" = none) (ha : PD X a ta) (hg : Gl X "range" := by rfl) (hs : starEach [a] X.env = [(false, eval a X.env)] := by rfl) : PIC X tg (.Call (.Name "range" p) [a] [] pos) (dRng1 ta) :=
  mPI (pi_range1 hg hm (pa_cons ha pa_nil hs) hs) fun _ _ _ h => liftI_rng1 (.inl h)
theorem pis_r1 (hm : X.mg "range" = none) (ha : PD X a ta) (hg : Gl X "range" := by rfl) (hs : starEach [a] X.env = [(false, eval a X.env)] := by rfl) : PIS X tg (.Call (.Name "range" p) [a] [] pos) (dRng1 ta) :=
  mPI (pi_range1 hg hm (pa_cons ha pa_nil hs) hs) fun _ _ _ h => liftI_rng1 (.inr h)
theorem pic_r2 (hm : X.mg "range" = none) (ha : PD X a ta) (hb : PD X b tb) (hg : Gl X "range" := by rfl) (hs : starEach [a, b] X.env = [(false, eval a X.env), (false, eval b X.env)] := by rfl) (hs2 : starEach [b] X.env = (false, eval b X.env) :: starEach [] X.env := by rfl) :
    PIC X tg (.Call (.Name "range" p) [a, b] [] pos) (dRng2 ta tb) := mPI (pi_range2 hg hm (pa_cons ha (pa_cons hb pa_nil hs2) (hs.trans (by rw [hs2]; rfl))) hs hs2) fun _ _ _ h => liftI_rng2 (.inl h)
theorem pis_r2 (hm : X.mg "range" = none) (ha : PD X a ta) (hb : PD X b tb) (hg : Gl X "range" := by rfl) (hs : starEach [a, b] X.env = [(false, eval a X.env), (false, eval b X.env)] := by rfl) (hs2 : starEach [b] X.env = (false, eval b X.env) :: starEach [] X.env := by rfl) :
    PIS X tg (.Call (.Name "range" p) [a, b] [] pos) (dRng2 ta tb) := mPI (pi_range2 hg hm (pa_cons ha (pa_cons hb pa_nil hs2) (hs.trans (by rw [hs2]; rfl))) hs hs2) fun _ _ _ h => liftI_rng2 (.inr h)
end
/-! ### list comprehensions -/
abbrev Blk (X : Cx) (scope : Scope) (R : Cx → Prop) : Prop := ∀ (s : Shared) (H : Hp) (C : Addr) (cl : List (Str × Addr)) (fp : List Addr), R (X.blk s H scope (compEnvC scope cl C X.env) fp)
def dYes : DTT := fun _ Q => Q true
theorem lift_yes {K : PySem.W.Frag} {σ : Sg} {H : Hp} {Q : Bool → Hp → Prop} (h : liftT K dYes σ H Q) : tYes σ H Q := by
  obtain ⟨P, M, B, ρ, Q0, s, sl, t, k⟩ := h
  exact k true H t Gr.refl s.pens
section
variable {X : Cx} {elt tg iter : Expr} {ifs : List Expr} {scope : Scope} {own : List (Str × Nat)} {pos py spos : Pos} {it : DTI} {g : G} {tt : DTT} {te : DT} {k : Nat}
abbrev PDTs (X : Cx) (e : List Expr) (t : DTT) : Prop := PTs X e (liftT X.K t)
theorem pts_nild : PDTs X [] dYes := ⟨fun pins s σ H Q I hw => pts_nil.run pins s σ H Q I (lift_yes hw)⟩
theorem pts_oned {c : Expr} {t : DTT} (h : PDT X c t) : PDTs X [c] t := pts_one h
theorem pd_lc (d : Gd X k) (hi : PIC X tg iter it) (ok : blkC X.N X.env.scope scope own = true) (hsl : ∀ i ∈ g.slots, i ∈ own.map (·.2))
    (hg : Blk X scope fun Y => PDG Y tg g) (ht : Blk X scope fun Y => PDTs Y ifs tt) (he : Blk X scope fun Y => PD Y elt te) (hs : ∀ x, foldedSetIterable iter X.env x = pure x := by intro _; rfl) :
    PD X (.ListComp elt [⟨tg, iter, ifs, 0⟩] scope pos) (dLc it (own.map (·.2)) g tt te) :=
  mPE (pe_lc d.calm d.nd hi (blkOk_by ok) hg ht he hs) fun _ _ _ h => lift_lc h (fun _ z => z) (fun _ _ _ z => z) (fun _ _ _ z => z) hsl
end
/-! ### statements -/
section
variable {X : Cx} {a b c e tg iter : Expr} {es rest : List Expr} {st : Stmt} {sts body els : List Stmt} {pos p px py : Pos} {ta tb tc te : DT} {tr : DTA} {t u : DS} {j k : Nat} {x y : Str} {g : G} {ca : DTT} {it : DTI}
theorem b_nil : PDB X [] dNext := mPSs pss_nil fun _ _ _ => lift_next
theorem b_cons (h1 : PDS X st t) (h2 : PDB X sts u) : PDB X (st :: sts) (dSeq t u) := mPSs (pss_cons h1 h2) fun _ _ _ => lift_seq
theorem b_one (h1 : PDS X st t) : PDB X [st] t := pss_one h1
theorem s_pass : PDS X (.Pass pos) dNext := mPS ps_pass fun _ _ _ => lift_next
theorem s_doc {x j pos'} : PDS X (.Expr (.Constant (.str x) j pos) pos') dNext := mPS ps_doc fun _ _ _ => lift_next
theorem s_break : PDS X (.Break pos) dBreak := mPS ps_break fun _ _ _ => lift_break
theorem s_cont : PDS X (.Continue pos) dCont := mPS ps_continue fun _ _ _ => lift_cont
theorem s_never : PDS X st dNever := mPS ps_never fun _ _ _ => lift_never
theorem s_expr (he : PD X e te) (hs : swapsWith e none pos.line X.env = pure false := by rfl) : PDS X (.Expr e pos) (dDrop te) := mPS (ps_expr he hs) fun _ _ _ h => lift_drop h fun _ _ _ z => z
theorem s_ret (he : PD X e te) : PDS X (.Return (some e) pos) (dRet te) := mPS (ps_ret he) fun _ _ _ h => lift_ret h fun _ _ _ z => z
theorem s_retV (i : Nat) (hN : X.N[i]? = some x := by rfl) (hv : Vis X.env.scope x := by first | exact Or.inl rfl | exact Or.inr (Or.inl rfl) | exact Or.inr (Or.inr rfl)) (hd : (x == ("__debug__" : Str)) = false := by decide) (hcd : (x == ("__classdict__" : Str)) = false := by decide) : PDS X (.Return (some (.Name x p)) pos) (dRetV i) :=
  mPS (ps_ret (pv i hN hv hd hcd)) fun _ _ _ h => lift_retV h
theorem s_retN : PDS X (.Return none pos) dRetN := mPS ps_retN fun _ _ _ => lift_retN
theorem s_if (hc : PDT X c ca) (ha : PDB X body t) (hb : PDB X els u) : PDS X (.If c body els pos) (dIfS ca t u) := mPS (ps_if hc ha hb) fun _ _ _ h => lift_ifS h fun _ _ _ z => z
theorem s_asg (he : PD X e te) (hg : PDG X tg g) (hs : swapsWithSole [tg] e pos.line X.env = pure false := by rfl) (hw : swappedStores [tg] e X.env = pure none := by rfl) (h1 : (assignEach [tg] X.env).map (·.2) = [assign tg X.env] := by rfl) : PDS X (.Assign [tg] e pos) (dAsg g te) :=
  mPS (ps_asg he hg hs hw h1) fun _ _ _ h => lift_asg h fun _ _ _ z => z
theorem s_set (i : Nat) (d : Gd X k) (he : PD X e te) (hi : X.N[i]? = some x := by rfl) (hx : Loc X.env.scope x := by first | exact Or.inl rfl | exact Or.inr rfl) (hs : swapsWith e (some (.Name x py)) pos.line X.env = pure false := by rfl) (hf : X.fn x = true ∨ X.env.scope.names.lookup x = some .local := by first | exact .inl rfl | exact .inr rfl) :
    PDS X (.Assign [.Name x py] e pos) (dAsg (.nm i) te) := mPS (ps_set d.nd hi hx he hs hf) fun _ _ _ h => lift_asg h fun _ _ _ z => z
theorem s_setLc (i : Nat) {elt : Expr} {ifs : List Expr} {scope : Scope} {own : List (Str × Nat)} {spos : Pos} {tt : DTT} (d : Gd X k) (hi : PIC X tg iter it) (ok : blkC X.N X.env.scope scope own = true) (hsl : ∀ i ∈ g.slots, i ∈ own.map (·.2))
    (hg : Blk X scope fun Y => PDG Y tg g) (ht : Blk X scope fun Y => PDTs Y ifs tt) (he : Blk X scope fun Y => PD Y elt te) (hk : X.env.scope.kind = .function := by rfl) (hl : (py.line == pos.line) = true := by rfl) (hl2 : (py.line == spos.line) = true := by rfl)
    (hy : X.N[i]? = some y := by rfl) (hyl : X.env.scope.names.lookup y = some .local := by rfl) (ha : (scope.names.any fun (n, k) => n == y && (k == .local || k == .cell)) = false := by rfl) (hs : ∀ x, foldedSetIterable iter X.env x = pure x := by intro _; rfl) :
    PDS X (.Assign [.Name y py] (.ListComp elt [⟨tg, iter, ifs, 0⟩] scope pos) spos) (dAsg (.nm i) (dLc it (own.map (·.2)) g tt te)) :=
  mPS (ps_setLc d.calm d.nd hy hyl (sw_true hk hyl hl ha) hi (blkOk_by ok) hg ht he hs) fun _ _ _ h => lift_asg h fun _ _ _ z => lift_lc z (fun _ z => z) (fun _ _ _ z => z) (fun _ _ _ z => z) hsl
theorem s_for (d : Gd X k) (hp : PassesOwn (model X.prog X.w) X.A X.env X.xe) (hi : PIS X tg iter it) (hg : PDG X tg g) (hb : PDB X body t) (hs : ∀ x, foldedSetIterable iter X.env x = pure x := by intro _; rfl) : PDS X (.For tg iter body [] pos) (dFor it g t) :=
  mPS (ps_for hp d.calm hi hg hb hs) fun _ _ _ h => lift_for h fun _ z => z
theorem s_while (hp : PassesOwn (model X.prog X.w) X.A X.env X.xe) (hc : PDT X c ca) (hb : PDB X body t) : PDS X (.While c body [] pos) (dWhile ca t) :=
  mPS (ps_while hp hc hb) fun _ _ _ h => lift_while h fun _ _ _ z => z
end
end DL
set_option maxHeartbeats 4000000
namespace DL
open PySem PySem.Spec PyProof.Rows L2
variable [Tb]
theorem lift_mono {K : PySem.W.Frag} {t : DT} {σ : Sg} {H : Hp} {Q Q' : VK} (h : lift K t σ H Q) (k : ∀ v H', Q v H' → Q' v H') : lift K t σ H Q' := by
  obtain ⟨P, M, B, ρ, Q0, s, sl, t, q⟩ := h
  exact ⟨P, M, B, ρ, Q0, s, sl, t, fun v H' r => k _ _ (q v H' r)⟩
/-! ### isinstance -/
section
variable {X : Cx} {v : V} {H : Hp} {Q : VK}
theorem isi_one {c : String} (h0 : rC X.K (o1 (isiD [c])) [v] H Q) : rIsi X.K [v, .ty c] H Q := by
  obtain ⟨P, M, B, ds, L, Q0, A, q, k⟩ := h0
  unfold o1 at q
  split at q
  · rename_i d
    obtain ⟨v', e, r1⟩ := v1 A.reps
    injection e with e1 _; subst e1
    unfold isiD at q
    split at q
    · rename_i b eb
      unfold isiB at eb
      refine ⟨v, .ty c, _, _, b, rfl, .ty c, r1.tyx A.stt, ?_, k _ _ (A.plain (fun {_} => .bl) q)⟩
      cases e2 : kitB (tyD d) c with
      | none => rw [e2] at eb; cases eb
      | some z =>
        rw [e2] at eb
        have e3 : z = b := by
          cases z with
          | true => exact Option.some.inj eb
          | false => unfold isiB at eb; exact Option.some.inj eb
        rw [← e3]
        exact kit_ty e2
    · exact q.elim
  · exact q.elim
theorem ty_all : ∀ cs : List String, Paired ClsV (cs.map V.ty) (cs.map Value.type)
  | [] => .nil
  | c :: cs => .cons (.ty c) (ty_all cs)
theorem isi_many {cs : List String} {p : Addr} (h0 : rC X.K (o1 (isiD cs)) [v] H Q) (hp : H p = none) : rIsiT X.K [v, .ref p] (upd H p (.tup (cs.map V.ty))) Q := by
  obtain ⟨P, M, B, ds, L, Q0, A, q, k⟩ := h0
  unfold o1 at q
  split at q
  · rename_i d
    obtain ⟨v', e, r1⟩ := v1 A.reps
    injection e with e1 _; subst e1
    unfold isiD at q
    split at q
    · rename_i b eb
      have g : Gr P.as H (upd H p (.tup (cs.map V.ty))) := Gr.laid hp
      have p' : PensOk P (L ++ M) (upd H p (.tup (cs.map V.ty))) := A.stt.pens.laid hp
      have s' := A.stt.keep g p'
      have r1' := Rep.gr g A.stt.lists (fun _ z => .inl z) (fun _ z => .inl z) r1
      refine ⟨v, p, _, _, _, b, rfl, upd_same, ty_all cs, r1'.tyx s', kit_any eb, k _ _ ⟨.bl b, [], q, g, ?_, .bl, List.nodup_nil, fun _ z => nomatch z⟩⟩
      exact A.base.pens.laid hp
    · exact q.elim
  · exact q.elim
end
section
variable {X : Cx} {a : Expr} {pos p p1 p2 p3 : Pos} {k2 : Nat} {ta : DT} {c c2 : String} {x x2 : Str}
theorem pd_isi1 (hm : X.mg "isinstance" = none) (ha : PD X a ta) (hm1 : X.mg x = none) (hv1 : bootBuiltins x = some (.type c) := by rfl) (hg : Gl X "isinstance" := by rfl) (hg1 : Gl X x := by rfl) (hn1 : x ≠ "__name__" := by decide) (hd1 : (x == ("__debug__" : Str)) = false := by decide)
    (he : starEach [a, .Name x p1] X.env = (false, eval a X.env) :: starEach [.Name x p1] X.env := by rfl) (he2 : starEach [.Name x p1] X.env = (false, eval (.Name x p1) X.env) :: starEach [] X.env := by rfl) (hpl : (backTo pos (starEach [.Name x p1] X.env)).any (·.1) = false := by rfl) :
    PD X (.Call (.Name "isinstance" p) [a, .Name x p1] [] pos) (dUn (o1 (isiD [c])) ta) :=
  mPE (pe_callB call_isi hg hm boot_isinstance (pa_cons ha (pa_cons (pe_bltn (v := .ty c) (u := .type c) hg1 hm1 hv1 rfl hn1 hd1) pa_nil he2) he) (by decide) (by decide) he hpl) fun σ H Q h => by
    have h1 := lift_mono (lift_un h) fun v H' q => isi_one q
    exact h1
theorem pd_isi2 (hm : X.mg "isinstance" = none) (ha : PD X a ta) (hm1 : X.mg x = none) (hm2 : X.mg x2 = none) (hv1 : bootBuiltins x = some (.type c) := by rfl) (hv2 : bootBuiltins x2 = some (.type c2) := by rfl) (hg : Gl X "isinstance" := by rfl) (hg1 : Gl X x := by rfl) (hg2 : Gl X x2 := by rfl)
    (hn1 : x ≠ "__name__" := by decide) (hd1 : (x == ("__debug__" : Str)) = false := by decide) (hn2 : x2 ≠ "__name__" := by decide) (hd2 : (x2 == ("__debug__" : Str)) = false := by decide)
    (he : starEach [a, .Tuple [.Name x p1, .Name x2 p2] k2 p3] X.env = (false, eval a X.env) :: starEach [.Tuple [.Name x p1, .Name x2 p2] k2 p3] X.env := by rfl) (he2 : starEach [.Tuple [.Name x p1, .Name x2 p2] k2 p3] X.env = (false, eval (.Tuple [.Name x p1, .Name x2 p2] k2 p3) X.env) :: starEach [] X.env := by rfl)
    (he3 : starEach [.Name x p1, .Name x2 p2] X.env = (false, eval (.Name x p1) X.env) :: starEach [.Name x2 p2] X.env := by rfl) (he4 : starEach [.Name x2 p2] X.env = (false, eval (.Name x2 p2) X.env) :: starEach [] X.env := by rfl) (hpl : (backTo pos (starEach [.Tuple [.Name x p1, .Name x2 p2] k2 p3] X.env)).any (·.1) = false := by rfl) :
    PD X (.Call (.Name "isinstance" p) [a, .Tuple [.Name x p1, .Name x2 p2] k2 p3] [] pos) (dUn (o1 (isiD [c, c2])) ta) :=
  mPE (pe_callB call_isiT hg hm boot_isinstance (pa_cons ha (pa_cons (pe_tup (pa_cons (pe_bltn (v := .ty c) (u := .type c) hg1 hm1 hv1 rfl hn1 hd1) (pa_cons (pe_bltn (v := .ty c2) (u := .type c2) hg2 hm2 hv2 rfl hn2 hd2) pa_nil he4) he3)) pa_nil he2) he) (by decide) (by decide) he hpl) fun σ H Q h => by
    have h1 : lift X.K ta σ H fun v H1 => ∀ p, H1 p = none → rIsiT X.K [v, .ref p] (upd H1 p (.tup ([c, c2].map V.ty))) Q := lift_mono (lift_un h) fun v H' q p hp => isi_many q hp
    refine lift_mono h1 fun v H1 q => ?_
    exact ⟨show 2 ≤ sizeLine by decide, fun p hp => q p hp⟩
end
/-! ### a, b = c, d -/
def gsOf : List Nat → Gs
  | [] => .nil
  | i :: r => .cons (.nm i) (gsOf r)
def dPar (is : List Nat) (ta : DTA) : DS := fun N ρ => ta ρ fun ds => D.nbs ds = true ∧ Gs.go (gsOf is) ds ρ N.nx
section
variable {K : PySem.W.Frag} {P : Pens} {M B : List Addr} {H : Hp} {σ : Sg} {ρ : Env} {E : Ends}
theorem lift_parG {is : List Nat} {ta : DTA} (h : liftS K (dPar is ta) E σ H) : liftA K ta σ H fun vs H1 => Gs.tgs K (gsOf is) vs σ H1 E.nx := by
  obtain ⟨P, M, B, ρ, N, s, sl, e, t, f⟩ := h
  refine ⟨P, M, B, ρ, _, s, sl, t, fun vs H1 r => ?_⟩
  obtain ⟨ds, Lr, q, g1, p1, r1, n1, f1⟩ := r
  have s1 : Stt P (Lr ++ M) B H1 := by
    have := s.after g1 p1 fun a z => (Reps.own r1 a z).1
    exact ⟨p1, fun a z => in_r a (s.sub a z), this.ls, this.tabs⟩
  have sl1 := sl.after s g1 f1
  have a1 : StAft P M B H P (Lr ++ M) H1 := .expr s g1 p1 (new_or f1)
  have slx : SlotsX K P (Lr ++ M) B H1 σ ρ (Lr ++ []) := by
    obtain ⟨hl, F, h1, h2, h3, h4⟩ := sl1
    refine ⟨hl, F, fun i d e => ?_, fun i a z => ⟨(h2 i a z).1, fun q => (h2 i a z).2 (in_r a q)⟩, h3, h4, fun i a z q => ?_⟩
    · obtain ⟨v, e1, r⟩ := h1 i d e
      exact ⟨v, e1, Rep.sub (fun _ z => z) in_r r⟩
    · rw [nil_app] at q
      exact (h2 i a z).2 (List.mem_append_left _ q)
  refine Gs.ok (gsOf is).slots (gs := gsOf is) (R := []) (fun _ z => z) slx (Reps.sub (fun _ z => z) in_r r1) (fun a z => ⟨List.mem_append_left _ z, fun q => s.trk a (s.sub a q) (f1 a z)⟩) n1 (fun _ _ z => nomatch z) (Gs.go_nb q.1 e q.2) fun ρ' σ' h' sl' _ => ?_
  exact f.nx _ _ _ _ _ h'.1 a1 s1 sl'.s h'.2
theorem liftA_mono {t : DTA} {Q Q' : List V → Hp → Prop} (h : liftA K t σ H Q) (k : ∀ v H', Q v H' → Q' v H') : liftA K t σ H Q' := by
  obtain ⟨P, M, B, ρ, Q0, s, sl, t, q⟩ := h
  exact ⟨P, M, B, ρ, Q0, s, sl, t, fun v H' r => k _ _ (q v H' r)⟩
end
section
variable {X : Cx} {x y z : Str} {a b c : Expr} {px py pz pt pos : Pos} {kt k2 : Nat} {pt2 : Pos} {tr : DTA} {k : Nat}
theorem s_par2 (i j : Nat) (d : Gd X k) (ha : PDA X [a, b] tr) (hij : i ≠ j := by decide) (hi : X.N[i]? = some x := by rfl) (hj : X.N[j]? = some y := by rfl) (hx : X.env.scope.names.lookup x = some .local := by rfl) (hy : X.env.scope.names.lookup y = some .local := by rfl)
    (hw : swappedStores [.Tuple [.Name x px, .Name y py] kt pt] (.Tuple [a, b] k2 pt2) X.env = pure (some [x, y]) := by rfl) (hs : swapsWithSole [.Tuple [.Name x px, .Name y py] kt pt] (.Tuple [a, b] k2 pt2) pos.line X.env = pure false := by rfl) :
    PDS X (.Assign [.Tuple [.Name x px, .Name y py] kt pt] (.Tuple [a, b] k2 pt2) pos) (dPar [i, j] tr) :=
  mPS (ps_par d.calm d.nd hi hj hij hx hy ha hw hs) fun E σ H h => liftA_mono (lift_parG h) fun vs H1 q => by
    obtain ⟨v, vr, e1, w, wr, e2, e3, q⟩ := q
    subst e1 e2 e3
    exact ⟨v, w, rfl, q⟩
theorem s_par3 (i j l : Nat) (d : Gd X k) (ha : PDA X [a, b, c] tr) (hij : i ≠ j := by decide) (hil : i ≠ l := by decide) (hjl : j ≠ l := by decide) (hi : X.N[i]? = some x := by rfl) (hj : X.N[j]? = some y := by rfl) (hl : X.N[l]? = some z := by rfl) (hx : X.env.scope.names.lookup x = some .local := by rfl) (hy : X.env.scope.names.lookup y = some .local := by rfl) (hz : X.env.scope.names.lookup z = some .local := by rfl)
    (hw : swappedStores [.Tuple [.Name x px, .Name y py, .Name z pz] kt pt] (.Tuple [a, b, c] k2 pt2) X.env = pure (some [x, y, z]) := by rfl) (hs : swapsWithSole [.Tuple [.Name x px, .Name y py, .Name z pz] kt pt] (.Tuple [a, b, c] k2 pt2) pos.line X.env = pure false := by rfl) :
    PDS X (.Assign [.Tuple [.Name x px, .Name y py, .Name z pz] kt pt] (.Tuple [a, b, c] k2 pt2) pos) (dPar [i, j, l] tr) :=
  mPS (ps_par3 d.calm d.nd hi hj hl hij hil hjl hx hy hz ha hw hs) fun E σ H h => liftA_mono (lift_parG h) fun vs H1 q => by
    obtain ⟨v, vr, e1, w, wr, e2, u, ur, e3, e4, q⟩ := q
    subst e1 e2 e3 e4
    exact ⟨v, w, u, rfl, q⟩
end
/-! ### a def -/
mutual
/-- no pen in it -/
def D.np : D → Bool
  | .pen => false
  | .tup xs => D.nps xs
  | .lst _ xs => D.nps xs
  | _ => true
def D.nps : List D → Bool
  | [] => true
  | x :: xs => D.np x && D.nps xs
end
section
variable {K : PySem.W.Frag} {P P' : Pens} {M B : List Addr} {H : Hp}
theorem as_sub (h : ∀ p ∈ P, p ∈ P') : ∀ a ∈ P.as, a ∈ P'.as := fun a z => by
  obtain ⟨l, hl⟩ := Pens.mem z
  exact List.mem_map.mpr ⟨(a, l), h _ hl, rfl⟩
mutual
theorem Rep.unpen (h : ∀ p ∈ P, p ∈ P') : ∀ {v : V} {d : D} {L : List Addr}, Rep K P' M B H v d L → d.np = true → Rep K P M B H v d L
  | _, _, _, .non, _ => .non
  | _, _, _, .bl, _ => .bl
  | _, _, _, .int, _ => .int
  | _, _, _, .str, _ => .str
  | _, _, _, .pen _, n => by simp [D.np] at n
  | _, _, _, .tup q r, n => .tup q (Reps.unpen h r (by simpa [D.np] using n))
  | _, _, _, .lstF q r p, n => .lstF (SqF.sub q fun b z => (List.mem_append.mp z).elim (fun w => List.mem_append_left _ (as_sub h b w)) fun w => List.mem_append_right _ w) (Reps.unpen h r (by simpa [D.np] using n)) p
  | _, _, _, .lstB q r, n => .lstB (SqF.sub q fun b z => (List.mem_append.mp z).elim (fun w => List.mem_append_left _ (as_sub h b w)) fun w => List.mem_append_right _ w) (Reps.unpen h r (by simpa [D.np] using n))
  | _, _, _, .lstO q m r, n => .lstO q (fun z => m (as_sub h _ z)) (Reps.unpen h r (by simpa [D.np] using n))
theorem Reps.unpen (h : ∀ p ∈ P, p ∈ P') : ∀ {vs : List V} {ds : List D} {L : List Addr}, Reps K P' M B H vs ds L → D.nps ds = true → Reps K P M B H vs ds L
  | _, _, _, .nil, _ => .nil
  | _, _, _, .cons r rs, n => by
    simp only [D.nps, Bool.and_eq_true] at n
    exact .cons (Rep.unpen h r n.1) (Reps.unpen h rs n.2)
end
end
/-- what a def's body promises: n slots -/
def endD (Q : D → Prop) : DE := { nx := fun _ => Q .non, rt := fun c => c.np = true ∧ Q c }
def startE (n : Nat) (ds : List D) : Env := ds.map some ++ List.replicate (n - ds.length) none
theorem Reps.at0 {K : PySem.W.Frag} {P : Pens} {M B : List Addr} {H : Hp} : ∀ {vs : List V} {ds : List D} {i : Nat} {d : D}, Reps K P M B H vs ds [] → ds[i]? = some d → ∃ v, vs[i]? = some v ∧ Rep K P M B H v d [] := by
  intro vs ds i d r e
  obtain ⟨v, L1, e1, r1, s, _⟩ := Rep.nodup_sub r List.nodup_nil e
  have : L1 = [] := by
    cases L1 with
    | nil => rfl
    | cons a _ => exact nomatch s a (List.mem_cons_self ..)
  subst this
  exact ⟨v, e1, r1⟩
theorem def_body {K : PySem.W.Frag} {S : DSpec} {t : DS} {N : List Str} {n : Nat} (hS : ∀ ds Q, S ds Q → ds.length = n ∧ t (endD Q) (startE N.length ds)) {vs : List V} {H : Hp} {Q : VK} {E : XK} (h : liftF K S vs H Q E) :
    liftS K t { nx := fun _ H' => Q .non H', rt := Q } (L2.start N vs) H := by
  obtain ⟨P, M, ds, Q0, s, r, pf, q, k⟩ := h
  obtain ⟨hl, q⟩ := hS ds Q0 q
  have len := r.len
  refine ⟨P, M, M, startE N.length ds, endD Q0, s, ⟨?_, fun _ => ([] : List Addr), fun i d e => ?_, (by intro i a z; simp at z), (fun _ => List.nodup_nil), (by intro i j a z; simp at z)⟩, fun i d e => ?_, q, ⟨?_, ?_, ?_, ?_⟩⟩
  · simp [startE, L2.start, len]
  · unfold startE at e
    by_cases hi : i < ds.length
    · rw [List.getElem?_append_left (by simpa using hi), List.getElem?_map] at e
      cases ed : ds[i]? with
      | none => rw [ed] at e; cases e
      | some c =>
        rw [ed] at e
        have ec : c = d := by injection e with e; injection e
        subst ec
        obtain ⟨v, e1, r1⟩ := Reps.at0 r ed
        refine ⟨v, ?_, r1⟩
        unfold L2.start
        have hv : i < vs.length := by omega
        rw [List.getElem?_append_left (by simpa using hv), List.getElem?_map, e1]
        rfl
    · rw [List.getElem?_append_right (by simpa using hi), List.getElem?_replicate] at e
      split at e <;> cases e
  · unfold startE at e
    by_cases hi : i < ds.length
    · rw [List.getElem?_append_left (by simpa using hi), List.getElem?_map] at e
      cases ed : ds[i]? with
      | none => rw [ed] at e; cases e
      | some c =>
        rw [ed] at e
        have ec : c = d := by injection e with e; injection e
        subst ec
        exact D.pf_nb _ (pfs_at pf ed)
    · rw [List.getElem?_append_right (by simpa using hi), List.getElem?_replicate] at e
      split at e <;> cases e
  · intro P' M' H' σ' ρ' q0 a s' sl' _
    refine k _ _ ⟨.non, [], q0, ⟨fun b o hb n => a.gr b o hb n (Classical.em (b ∈ M) |>.elim .inr .inl), a.tab⟩, ?_, .non, List.nodup_nil, fun _ z => nomatch z⟩
    intro x l hx
    obtain ⟨h1, h2, h3, h4⟩ := s'.pens x l (a.pens _ hx)
    exact ⟨fun z => h1 (s'.sub x z), fun z => h2 (s'.sub l z), fun z => h3 (as_sub a.pens l z), h4⟩
  · intro _ _ _ _ _ z; exact z.elim
  · intro _ _ _ _ _ z; exact z.elim
  · intro P' M' H' v c Lr q0 a p r1 nd fr
    refine k _ _ ⟨c, Lr, q0.2, ⟨fun b o hb n => a.gr b o hb n (Classical.em (b ∈ M) |>.elim .inr .inl), a.tab⟩, ?_, Rep.unpen a.pens r1 q0.1, nd, fun b z => ?_⟩
    · intro x l hx
      obtain ⟨h1, h2, h3, h4⟩ := p x l (a.pens _ hx)
      exact ⟨h1, h2, fun z => h3 (as_sub a.pens l z), h4⟩
    · rcases fr b z with w | w
      · exact .inl w
      · exact absurd w.1 w.2
section
variable {P : Program} {w : World} {K : PySem.W.Frag} {mg : Str → Option Value} {base : Heap} {x qual : Str} {params : Arguments} {body : List Stmt} {scope : Scope} {f : Addr} {fd : FuncData}
/-- THE RULE for a def -/
theorem Fd.of {N ps : List Str} {k : Nat} {S : DSpec} {t : DS} (F : FunD K x qual params body scope [] [] f fd) (gm : mg x = some (.ref f)) (Sc : FnScope N ps scope)
    (hb : ∀ (kV doc pm : Value) (an : Option Addr) (cdv ct : Value) (us : List Value), us.length = ps.length → bindArgs (PySem.W.fnOf x qual params body scope .none kV doc pm an cdv ct) ⟨us, []⟩ = pure (ps.zip us))
    (walk : ∀ (cdv : Value) (A : Around) (outer : List PySem.Env) (s : Shared) (H : Hp) (E : XK), Room k (A.deeper (envOfC qual scope s.heap.objs.size f cdv)) → PDB (cxOf CX0 P w K mg base N qual scope f cdv A outer s H E).nox body t)
    (hS : ∀ ds Q, S ds Q → ds.length = ps.length ∧ t (endD Q) (startE N.length ds)) : Fd P w K mg base (k + 1) x S := by
  refine ⟨f, fd, ps, F.ok (N := N) Sc (fun vs H Q E h => ?_) (fun cdv A outer s H vs Q E hr h => ⟨liftS K t, PSs.nox (walk cdv A outer s H E hr), def_body hS h⟩), gm, F.kp, F.bindsN hb⟩
  obtain ⟨P', M, ds, Q0, s, r, pf, q, _⟩ := h
  rw [r.len]
  exact (hS _ _ q).1
end
end DL
set_option maxHeartbeats 4000000
namespace DL
open PySem PySem.Spec PyProof.Rows L2
variable [Tb]
abbrev ltO : D2 := ordO fun i j => decide (i < j)
abbrev leO : D2 := ordO fun i j => decide (i ≤ j)
abbrev gtO : D2 := ordO fun i j => decide (j < i)
abbrev geO : D2 := ordO fun i j => decide (j ≤ i)
section
variable {ta tb tc te : DT} {tr : DTA} {ρ : Env} {Q : D → Prop} {QA : List D → Prop} {QB : Bool → Prop} {ca cb : DTT} {o : DO} {f f' : D2} {h : D1} {x y d : D} {xs ys : List D} {i n : Nat} {N : DE} {t u : DS} {S : DSpec} {a b c e : Int} {k : Bool}
theorem at_z {o : Option D} {r : Env} : Env.at (o :: r) 0 = o := by cases o <;> rfl
theorem at_s {o : Option D} {r : Env} : Env.at (o :: r) (i + 1) = Env.at r i := rfl
theorem q_bin : dBin o ta tb ρ Q = ta ρ fun x => tb ρ fun y => o [x, y] Q := rfl
theorem q_un : dUn o ta ρ Q = ta ρ fun x => o [x] Q := rfl
theorem q_call : dCall o tr ρ Q = tr ρ fun xs => o xs Q := rfl
theorem q_o2 : o2 f [x, y] Q = f x y Q := rfl
theorem q_o1 : o1 h [x] Q = h x Q := rfl
theorem q_nil : dNil ρ QA = QA [] := rfl
theorem q_cons : dCons ta tr ρ QA = ta ρ fun x => tr ρ fun xs => QA (x :: xs) := rfl
theorem q_c : dC d ρ Q = Q d := rfl
theorem q_tup : dTup tr ρ Q = tr ρ fun ds => ds.length ≤ 1000 ∧ Q (.tup ds) := rfl
theorem q_lst : dLst tr ρ Q = tr ρ fun ds => ds.length ≤ 1000 ∧ Q (.lst .o ds) := rfl
theorem q_tru : dTru ta ρ QB = ta ρ fun d => truD d QB := rfl
theorem q_b : dB ta ρ QB = ta ρ fun x => match x with
  | .bl k => QB k
  | _ => False := rfl
theorem q_bB : (match D.bl k with
  | .bl k => QB k
  | _ => False) = QB k := rfl
theorem q_if : dIf ca ta tb ρ Q = ca ρ fun k => if k = true then ta ρ Q else tb ρ Q := rfl
theorem q_andT : dAndT ca cb ρ QB = ca ρ fun k => if k = true then cb ρ QB else QB false := rfl
theorem q_orT : dOrT ca cb ρ QB = ca ρ fun k => if k = true then QB true else cb ρ QB := rfl
theorem q_notT : dNotT ca ρ QB = ca ρ fun k => QB (!k) := rfl
def bl? (d : D) (K : Bool → Prop) : Prop := match d with
  | .bl k => K k
  | _ => False
theorem q_blq {K : Bool → Prop} : bl? (.bl k) K = K k := rfl
theorem q_and : dAnd ta tb ρ Q = ta ρ fun x => bl? x fun k => if k = true then tb ρ Q else Q (.bl false) := by
  unfold dAnd
  congr 1
  funext x
  unfold bl?
  split
  · rfl
  · rfl
  · rename_i h1 h2
    split
    · rename_i k
      cases k
      · exact absurd rfl h2
      · exact absurd rfl h1
    · rfl
theorem q_or : dOr ta tb ρ Q = ta ρ fun x => bl? x fun k => if k = true then Q (.bl true) else tb ρ Q := by
  unfold dOr
  congr 1
  funext x
  unfold bl?
  split
  · rfl
  · rfl
  · rename_i h1 h2
    split
    · rename_i k
      cases k
      · exact absurd rfl h2
      · exact absurd rfl h1
    · rfl
theorem q_not : dNot ta ρ Q = ta ρ fun x => bl? x fun k => Q (.bl (!k)) := by
  unfold dNot
  congr 1
theorem q_dB : dB ta ρ QB = ta ρ fun x => bl? x QB := rfl
theorem q_chain : dChain f f' ta tb tc ρ Q = ta ρ fun x => tb ρ fun y => f x y fun z => bl? z fun k => if k = true then tc ρ fun w => f' y w Q else Q (.bl false) := by
  unfold dChain
  congr 1
  funext x
  congr 1
  funext y
  congr 1
  funext z
  unfold bl?
  split
  · rfl
  · rfl
  · rename_i h1 h2
    split
    · rename_i k
      cases k
      · exact absurd rfl h2
      · exact absurd rfl h1
    · rfl
def var? (o : Option D) (Q : D → Prop) : Prop := match o with
  | some d => Q d.vw
  | none => False
theorem q_var : dVar i ρ Q = var? (Env.at ρ i) Q := rfl
theorem q_vs : var? (some d) Q = Q d.vw := rfl
theorem q_fn : dFn S tr ρ Q = tr ρ fun ds => S (D.fzs ds) fun c => Q (if D.fls ds = true then c else c.wk) := rfl
theorem q_add : addD (.int a) (.int b) Q = Q (.int (a + b)) := rfl
theorem q_addL {k1 k2 : Fl} : addD (.lst k1 xs) (.lst k2 ys) Q = (xs.length + ys.length ≤ sizeLine ∧ Q (.lst .o (xs ++ ys))) := rfl
theorem q_sub : subD (.int a) (.int b) Q = Q (.int (a - b)) := rfl
theorem q_mul : mulD (.int a) (.int b) Q = (MulOk a b ∧ Q (.int (a * b))) := rfl
theorem q_fdiv : fdivD (.int a) (.int b) Q = (DivOk b ∧ Q (.int (a / b))) := rfl
theorem q_mod : modD (.int a) (.int b) Q = (0 < b ∧ Q (.int (a % b))) := rfl
theorem q_neg : negD (.int a) Q = Q (.int (-a)) := rfl
theorem q_ord {p : Int → Int → Bool} : ordO p (.int a) (.int b) Q = Q (.bl (p a b)) := rfl
theorem q_eq {g : Bool → Bool} : eqO g x y Q = (Sh 60 x ∧ Sh 60 y ∧ Q (.bl (g (eqD x y)))) := rfl
theorem q_isn {g : Bool → Bool} : isO g x .non Q = Q (.bl (g (isN x))) := by cases x <;> rfl
theorem q_min2 : min2D (.int a) (.int b) Q = Q (.int (if b < a then b else a)) := rfl
theorem q_max2 : max2D (.int a) (.int b) Q = Q (.int (if b > a then b else a)) := rfl
theorem q_intB : intD (.bl k) Q = Q (.int (if k then 1 else 0)) := rfl
theorem q_intI : intD (.int a) Q = Q (.int a) := rfl
theorem q_seq : dSeq t u N ρ = t { N with nx := u N } ρ := rfl
theorem q_asg {g : G} : dAsg g te N ρ = te ρ fun d => d.nb = true ∧ G.go g d ρ N.nx := rfl
theorem q_go : G.go (.nm i) d ρ QE = QE (ρ.set i (some d)) := by simp [G.go]
theorem q_ret : dRet te N ρ = te ρ fun d => N.rt d.rt := rfl
def ret? (o : Option D) (Q : D → Prop) : Prop := match o with
  | some d => Q d
  | none => False
theorem q_retV : dRetV i N ρ = ret? (Env.at ρ i) N.rt := rfl
theorem q_rs : ret? (some d) Q = Q d := rfl
theorem q_retN : dRetN N ρ = N.rt .non := rfl
theorem q_ifS : dIfS ca t u N ρ = ca ρ fun k => if k = true then t N ρ else u N ρ := rfl
theorem q_next : dNext N ρ = N.nx ρ := rfl
theorem q_endR : (endD Q).rt d = (d.np = true ∧ Q d) := rfl
theorem q_endN {ρ : Env} : (endD Q).nx ρ = Q .non := rfl
theorem q_ixT {j : Int} : ixD (.tup xs) (.int j) Q = ret? (atI xs j) Q := rfl
theorem q_ixL {j : Int} {kk : Fl} : ixD (.lst kk xs) (.int j) Q = ret? (atI xs j) Q := rfl
theorem q_inT {g : Bool → Bool} : inO g x (.tup ys) Q = (Sh 60 x ∧ (∀ y ∈ ys, Sh 58 y) ∧ Q (.bl (g (ys.any fun z => eqD z x)))) := by cases x <;> rfl
theorem q_inL {g : Bool → Bool} {kk : Fl} : inO g x (.lst kk ys) Q = (Sh 60 x ∧ (∀ y ∈ ys, Sh 58 y) ∧ Q (.bl (g (ys.any fun z => eqD z x)))) := by cases x <;> rfl
end
theorem bo_len : bootBuiltins "len" = some (.builtin "len") := by decide +kernel
theorem bo_abs : bootBuiltins "abs" = some (.builtin "abs") := by decide +kernel
theorem bo_max : bootBuiltins "max" = some (.builtin "max") := by decide +kernel
theorem bo_min : bootBuiltins "min" = some (.builtin "min") := by decide +kernel
theorem bo_all : bootBuiltins "all" = some (.builtin "all") := by decide +kernel
theorem bo_any : bootBuiltins "any" = some (.builtin "any") := by decide +kernel
theorem bo_sum : bootBuiltins "sum" = some (.builtin "sum") := by decide +kernel
theorem bo_sorted : bootBuiltins "sorted" = some (.builtin "sorted") := by decide +kernel
theorem bo_int : bootBuiltins "int" = some (.type "int") := by decide +kernel
theorem bo_list : bootBuiltins "list" = some (.type "list") := by decide +kernel
theorem bo_tuple : bootBuiltins "tuple" = some (.type "tuple") := by decide +kernel
theorem bo_bool : bootBuiltins "bool" = some (.type "bool") := by decide +kernel
theorem bo_str : bootBuiltins "str" = some (.type "str") := by decide +kernel
theorem bo_set : bootBuiltins "set" = some (.type "set") := by decide +kernel
theorem bo_dict : bootBuiltins "dict" = some (.type "dict") := by decide +kernel
theorem bo_isinstance : bootBuiltins "isinstance" = some (.builtin "isinstance") := by decide +kernel
theorem if_same {p : Prop} [Decidable p] {α : Type} (x : α) : (if p then x else x) = x := by split <;> rfl
end DL
set_option maxHeartbeats 4000000
set_option exponentiation.threshold 50000
namespace DL
open PySem PySem.Spec PyProof.Rows L2
variable [Tb]
/-! ### sizes -/
def Bd (n : Nat) (i : Int) : Prop := i.natAbs < 2 ^ n
theorem bd_le {n m : Nat} {i : Int} (h : Bd n i) (hm : n ≤ m) : Bd m i := Nat.lt_of_lt_of_le h (Nat.pow_le_pow_right (by decide) hm)
theorem bd_sub {n : Nat} {i j : Int} (h : Bd n i) (h' : Bd n j) : Bd (n + 1) (i - j) := by
  unfold Bd at *
  rw [Nat.pow_succ]
  omega
theorem bd_add {n : Nat} {i j : Int} (h : Bd n i) (h' : Bd n j) : Bd (n + 1) (i + j) := by
  unfold Bd at *
  rw [Nat.pow_succ]
  omega
theorem bd_mul {n m : Nat} {i j : Int} (h : Bd n i) (h' : Bd m j) : Bd (n + m) (i * j) := by
  unfold Bd at *
  rw [Int.natAbs_mul, Nat.pow_add]
  exact Nat.mul_lt_mul'' h h'
theorem mok {i j : Int} (n m : Nat) (h : Bd n i) (h' : Bd m j) (hn : n ≤ 40000 := by decide) (hm : m ≤ 40000 := by decide) : MulOk i j := ⟨big_of h hn, big_of h' hm⟩
/-! ### reading lists -/
theorem ati0 {α : Type} {x : α} {r : List α} : atI (x :: r) 0 = some x := by
  unfold atI
  have : ixN (x :: r).length 0 = some 0 := by
    unfold ixN
    rw [if_pos (by omega), if_pos (by simp)]
    rfl
  rw [this]
  rfl
theorem ati_nat {α : Type} {r : List α} {i : Nat} (h : i < r.length) : atI r (i : Int) = r[i]? := by
  unfold atI
  have : ixN r.length (i : Int) = some i := by
    unfold ixN
    rw [if_pos (by omega), if_pos (by omega)]
    simp
  rw [this]
  rfl
theorem ati1 {α : Type} {x y : α} {r : List α} : atI (x :: y :: r) 1 = some y := ati_nat (r := x :: y :: r) (i := 1) (by simp)
theorem ati2 {α : Type} {x y z : α} {r : List α} : atI (x :: y :: z :: r) 2 = some z := ati_nat (r := x :: y :: z :: r) (i := 2) (by simp)
theorem ati3 {α : Type} {x y z u : α} {r : List α} : atI (x :: y :: z :: u :: r) 3 = some u := ati_nat (r := x :: y :: z :: u :: r) (i := 3) (by simp)
/-! ### points -/
abbrev Pt := Int × Int
def ptD (p : Pt) : D := .tup [.int p.1, .int p.2]
section
variable {p q a b : Pt} {Q : D → Prop} {k : Bool} {i j : Int} {d : D} {ds : List D}
theorem vw_pt : (ptD p).vw = ptD p := rfl
theorem fz_pt : (ptD p).fz = ptD p := rfl
theorem wk_pt : (ptD p).wk = ptD p := rfl
theorem rt_pt : (ptD p).rt = ptD p := rfl
theorem nb_pt : (ptD p).nb = true := rfl
theorem np_pt : (ptD p).np = true := rfl
theorem fl_pt : (ptD p).fl = true := rfl
theorem vw_int : (D.int i).vw = .int i := rfl
theorem fz_int : (D.int i).fz = .int i := rfl
theorem wk_int : (D.int i).wk = .int i := rfl
theorem rt_int : (D.int i).rt = .int i := rfl
theorem nb_int : (D.int i).nb = true := rfl
theorem np_int : (D.int i).np = true := rfl
theorem fl_int : (D.int i).fl = true := rfl
theorem vw_bl : (D.bl k).vw = .bl k := rfl
theorem fz_bl : (D.bl k).fz = .bl k := rfl
theorem wk_bl : (D.bl k).wk = .bl k := rfl
theorem rt_bl : (D.bl k).rt = .bl k := rfl
theorem nb_bl : (D.bl k).nb = true := rfl
theorem np_bl : (D.bl k).np = true := rfl
theorem fl_bl : (D.bl k).fl = true := rfl
theorem vw_pen : D.pen.vw = .pen := rfl
theorem fz_pen : D.pen.fz = .pen := rfl
theorem fl_pen : D.pen.fl = true := rfl
theorem fzs_n : D.fzs [] = [] := rfl
theorem fzs_c : D.fzs (d :: ds) = d.fz :: D.fzs ds := rfl
theorem fls_n : D.fls [] = true := rfl
theorem fls_c : D.fls (d :: ds) = (d.fl && D.fls ds) := rfl
theorem nbs_n : D.nbs [] = true := rfl
theorem nbs_c : D.nbs (d :: ds) = (d.nb && D.nbs ds) := rfl
theorem q_ixP0 : ixD (ptD p) (.int 0) Q = Q (.int p.1) := rfl
theorem q_ixP1 : ixD (ptD p) (.int 1) Q = Q (.int p.2) := rfl
theorem truB {K : Bool → Prop} : truD (.bl k) K = K k := rfl
theorem truI {K : Bool → Prop} : truD (.int i) K = K (i != 0) := rfl
theorem ifT {P R : Prop} : (if true = true then P else R) = P := if_pos rfl
theorem ifF {P R : Prop} : (if false = true then P else R) = R := if_neg (by simp)
theorem ifTd {x y : D} : (if true = true then x else y) = x := if_pos rfl
theorem sh_pt {n : Nat} : Sh (n + 1) (ptD p) := by
  show Sh (n + 1) (.tup [.int p.1, .int p.2])
  unfold Sh
  intro x hx
  simp at hx
  rcases hx with e | e <;> subst e <;> (unfold Sh; trivial)
theorem sh_int {n : Nat} : Sh n (.int i) := by cases n <;> (unfold Sh; trivial)
theorem sh_bl {n : Nat} : Sh n (.bl k) := by cases n <;> (unfold Sh; trivial)
def eqP (a b : Pt) : Bool := decide (a.1 = b.1) && decide (a.2 = b.2)
theorem eqP_iff : eqP a b = true ↔ a = b := by
  unfold eqP
  rw [Bool.and_eq_true, decide_eq_true_eq, decide_eq_true_eq, Prod.ext_iff]
theorem eqD_int : eqD (.int i) (.int j) = decide (i = j) := by
  show PyData.eqv (.int i) (.int j) = _
  simp [PyData.eqv]
  rfl
theorem eqD_pt : eqD (ptD a) (ptD b) = eqP a b := by
  show PyData.eqv (.tuple [.int a.1, .int a.2]) (.tuple [.int b.1, .int b.2]) = _
  simp [PyData.eqv, PyData.eqvAll, eqP]
  rfl
theorem q_lc {it : DTI} {vs : List Nat} {g : G} {tt : DTT} {te : DT} {ρ : Env} : dLc it vs g tt te ρ Q = it ρ fun ds => ds.length ≤ 1000000 ∧ lcGo g tt te (wipeE ρ vs) ds [] fun ys => Q (.lst .o ys) := rfl
theorem q_lc0 {g : G} {tt : DTT} {te : DT} {ρ : Env} {acc : List D} {QA : List D → Prop} : lcGo g tt te ρ [] acc QA = QA acc := rfl
theorem q_lc1 {g : G} {tt : DTT} {te : DT} {ρ : Env} {acc : List D} {QA : List D → Prop} : lcGo g tt te ρ (d :: ds) acc QA = G.go g d ρ fun ρ2 => tt ρ2 fun b => if b = true then te ρ2 fun y => lcGo g tt te ρ ds (acc ++ [y]) QA else lcGo g tt te ρ ds acc QA := rfl
theorem q_yes {ρ : Env} {K : Bool → Prop} : dYes ρ K = K true := rfl
def its? (o : Option (List D)) (K : List D → Prop) : Prop := match o with
  | some ds => K ds
  | none => False
theorem q_its {K : List D → Prop} : its? (some ds) K = K ds := rfl
theorem q_iter {f : D → Option (List D)} {t : DT} {ρ : Env} {K : List D → Prop} : dIter f t ρ K = t ρ fun d => its? (f d) K := rfl
theorem wipeE0 {ρ : Env} : wipeE ρ [] = ρ := rfl
theorem wipeE1 {ρ : Env} {i : Nat} {r : List Nat} : wipeE ρ (i :: r) = (wipeE ρ r).set i none := rfl
theorem q_iteA {x : Bool} : (if k = true then Q (.bl x) else Q (.bl false)) = Q (.bl (k && x)) := by cases k <;> rfl
theorem q_iteO {x : Bool} : (if k = true then Q (.bl true) else Q (.bl x)) = Q (.bl (k || x)) := by cases k <;> rfl
/-! ### sorting points -/
def leP (a b : Pt) : Bool := !(decide (b.1 < a.1) || (!decide (a.1 < b.1) && decide (b.2 < a.2)))
theorem leD_pt : leD (ptD a) (ptD b) = leP a b := by
  show (!PyProof.Rows.lexLt PyProof.Rows.itemOrd (PySem.W.keyToks (.tuple [.int b.1, .int b.2])) (PySem.W.keyToks (.tuple [.int a.1, .int a.2]))) = _
  simp [PySem.W.keyToks, PySem.W.keyToksAll, PyProof.Rows.lexLt, PyProof.Rows.itemOrd, PyProof.Rows.itemLt, leP]
theorem alikeD_pt : alikeD (ptD a) (ptD b) = true := by
  show PySem.W.alike (.tuple [.int a.1, .int a.2]) (.tuple [.int b.1, .int b.2]) = true
  simp [PySem.W.alike, PySem.W.alikeAll]
theorem sort_pts (ps : List Pt) : (ps.map ptD).mergeSort leD = (ps.mergeSort leP).map ptD := (List.map_mergeSort (r := leP) (s := leD) (f := ptD) (l := ps) (fun a _ b _ => (@leD_pt _ a b).symm)).symm
theorem nos_pts : ∀ ps : List Pt, D.nos (ps.map ptD) = true
  | [] => rfl
  | p :: ps => by
    show (D.no (ptD p) && D.nos (ps.map ptD)) = true
    rw [nos_pts ps]
    rfl
theorem okSort_pts (ps : List Pt) : okSort (ps.map ptD) := by
  refine ⟨fun x hx y hy => ?_, .inl fun x hx => ?_⟩
  · obtain ⟨a, _, rfl⟩ := List.mem_map.mp hx
    obtain ⟨b, _, rfl⟩ := List.mem_map.mp hy
    exact alikeD_pt
  · obtain ⟨a, _, rfl⟩ := List.mem_map.mp hx
    exact ⟨_, _, rfl⟩
theorem sh_pts {n : Nat} (ps : List Pt) : ∀ x ∈ ps.map ptD, Sh (n + 1) x := fun x hx => by
  obtain ⟨a, _, rfl⟩ := List.mem_map.mp hx
  exact sh_pt
theorem q_sortT (ps : List Pt) : sortD (.tup (ps.map ptD)) Q = Q (.lst .o ((ps.mergeSort leP).map ptD)) := by
  show ((∀ x ∈ ps.map ptD, Sh 50 x) ∧ D.nos (ps.map ptD) = true ∧ okSort (ps.map ptD) ∧ Q (.lst .o ((ps.map ptD).mergeSort leD))) = _
  rw [sort_pts]
  exact propext ⟨fun h => h.2.2.2, fun h => ⟨sh_pts ps, nos_pts ps, okSort_pts ps, h⟩⟩
theorem q_sortL {kk : Fl} (ps : List Pt) : sortD (.lst kk (ps.map ptD)) Q = Q (.lst .o ((ps.mergeSort leP).map ptD)) := by
  show ((∀ x ∈ ps.map ptD, Sh 50 x) ∧ D.nos (ps.map ptD) = true ∧ okSort (ps.map ptD) ∧ Q (.lst .o ((ps.map ptD).mergeSort leD))) = _
  rw [sort_pts]
  exact propext ⟨fun h => h.2.2.2, fun h => ⟨sh_pts ps, nos_pts ps, okSort_pts ps, h⟩⟩
theorem q_sortT2 : sortD (.tup [ptD a, ptD b]) Q = Q (.lst .o (([a, b].mergeSort leP).map ptD)) := q_sortT [a, b]
theorem sort2 {α : Type} {le : α → α → Bool} {x y : α} : [x, y].mergeSort le = if le x y = true then [x, y] else [y, x] := by
  simp [List.mergeSort, List.MergeSort.Internal.splitInTwo, List.merge]
theorem leP_anti (h1 : leP a b = true) (h2 : leP b a = true) : a = b := by
  simp [leP] at h1 h2
  ext <;> omega
theorem leP_tot : leP a b = true ∨ leP b a = true := by
  by_cases h : leP a b = true
  · exact .inl h
  · right
    simp [leP] at h ⊢
    omega
theorem eqD_L {k1 k2 : Fl} : ∀ ps qs : List Pt, eqD (.lst k1 (ps.map ptD)) (.lst k2 (qs.map ptD)) = decide (ps = qs) := by
  intro ps qs
  show PyData.eqvAll (D.pys (ps.map ptD)) (D.pys (qs.map ptD)) = _
  induction ps generalizing qs with
  | nil => cases qs <;> simp [D.pys, PyData.eqvAll]
  | cons p ps ih =>
    cases qs with
    | nil => simp [D.pys, PyData.eqvAll]
    | cons q qs =>
      have h1 : PyData.eqv (ptD p).py (ptD q).py = eqP p q := eqD_pt
      simp only [List.map_cons, D.pys, PyData.eqvAll, h1, ih]
      rw [Bool.eq_iff_iff]
      simp [eqP_iff]
theorem sort2_eq {c e : Pt} : decide ([a, b].mergeSort leP = [c, e].mergeSort leP) = ((eqP a c && eqP b e) || (eqP a e && eqP b c)) := by
  rw [Bool.eq_iff_iff, sort2, sort2]
  simp only [decide_eq_true_eq, Bool.or_eq_true, Bool.and_eq_true, eqP_iff]
  have t1 := @leP_tot _ a b
  have t2 := @leP_tot _ c e
  by_cases h1 : leP a b = true <;> by_cases h2 : leP c e = true
  · simp only [h1, h2, if_true, List.cons.injEq, and_true]
    constructor
    · exact .inl
    · rintro (h | ⟨rfl, rfl⟩)
      · exact h
      · have := leP_anti h1 h2
        exact ⟨this, this.symm⟩
  · simp only [h1, h2, if_true, if_neg (show ¬ (false = true) by simp), List.cons.injEq, and_true]
    constructor
    · exact .inr
    · rintro (⟨rfl, rfl⟩ | h)
      · exact absurd h1 h2
      · exact h
  · simp only [h1, h2, if_true, if_neg (show ¬ (false = true) by simp), List.cons.injEq, and_true]
    constructor
    · exact fun h => .inr ⟨h.2, h.1⟩
    · rintro (⟨rfl, rfl⟩ | h)
      · exact absurd h2 h1
      · exact ⟨h.2, h.1⟩
  · simp only [h1, h2, if_neg (show ¬ (false = true) by simp), List.cons.injEq, and_true]
    constructor
    · exact fun h => .inl ⟨h.2, h.1⟩
    · rintro (h | ⟨rfl, rfl⟩)
      · exact ⟨h.2, h.1⟩
      · rcases t1 with h | h
        · exact absurd h h1
        · exact absurd h h2
theorem sh_ptsL {n : Nat} {kk : Fl} (ps : List Pt) : Sh (n + 2) (.lst kk (ps.map ptD)) := by
  unfold Sh
  exact sh_pts ps
theorem sh_list {n : Nat} {kk : Fl} (h : ∀ x ∈ ds, Sh n x) : Sh (n + 1) (.lst kk ds) := by
  unfold Sh
  exact h
theorem ptD_inj : (ptD a = ptD b) = (a = b) := by
  refine propext ⟨fun h => ?_, fun h => by rw [h]⟩
  unfold ptD at h
  simp at h
  exact Prod.ext h.1 h.2
theorem nos2 : D.nos [ptD a, ptD b] = true := rfl
theorem items2 : itemsC (.tup [ptD a, ptD b]) = some [ptD a, ptD b] := rfl
theorem vws_pts : ∀ ps : List Pt, D.vws (ps.map ptD) = ps.map ptD
  | [] => rfl
  | p :: ps => by
    show (ptD p).vw :: D.vws (ps.map ptD) = _
    rw [vws_pts ps]
    rfl
theorem fzs_pts : ∀ ps : List Pt, D.fzs (ps.map ptD) = ps.map ptD
  | [] => rfl
  | p :: ps => by
    show (ptD p).fz :: D.fzs (ps.map ptD) = _
    rw [fzs_pts ps]
    rfl
theorem rts_pts : ∀ ps : List Pt, D.rts (ps.map ptD) = ps.map ptD
  | [] => rfl
  | p :: ps => by
    show (ptD p).rt :: D.rts (ps.map ptD) = _
    rw [rts_pts ps]
    rfl
theorem nbs_pts : ∀ ps : List Pt, D.nbs (ps.map ptD) = true
  | [] => rfl
  | p :: ps => by
    show ((ptD p).nb && D.nbs (ps.map ptD)) = true
    rw [nbs_pts ps]
    rfl
theorem nps_pts : ∀ ps : List Pt, D.nps (ps.map ptD) = true
  | [] => rfl
  | p :: ps => by
    show ((ptD p).np && D.nps (ps.map ptD)) = true
    rw [nps_pts ps]
    rfl
theorem pfs_pts : ∀ ps : List Pt, D.pfs (ps.map ptD) = true
  | [] => rfl
  | p :: ps => by
    show ((ptD p).pf && D.pfs (ps.map ptD)) = true
    rw [pfs_pts ps]
    rfl
section
variable {ps : List Pt}
theorem vw_pO : (D.lst .o (ps.map ptD)).vw = .lst .b (ps.map ptD) := by
  show D.lst .b (D.vws (ps.map ptD)) = _
  rw [vws_pts]
theorem vw_pF : (D.lst .f (ps.map ptD)).vw = .lst .f (ps.map ptD) := rfl
theorem fz_pO {k : Fl} : (D.lst k (ps.map ptD)).fz = .lst .f (ps.map ptD) := by
  cases k
  · show D.lst .f (D.fzs (ps.map ptD)) = _
    rw [fzs_pts]
  · rfl
  · show D.lst .f (D.fzs (ps.map ptD)) = _
    rw [fzs_pts]
theorem rt_pO : (D.lst .o (ps.map ptD)).rt = .lst .o (ps.map ptD) := by
  show D.lst .o (D.rts (ps.map ptD)) = _
  rw [rts_pts]
theorem nb_pO : (D.lst .o (ps.map ptD)).nb = true := by
  show D.nbs (ps.map ptD) = true
  exact nbs_pts ps
theorem np_pO {k : Fl} : (D.lst k (ps.map ptD)).np = true := nps_pts ps
theorem it_pO : itemsC (.lst .o (ps.map ptD)) = some (ps.map ptD) := by
  show (if D.nos (ps.map ptD) = true then _ else _) = _
  rw [if_pos (nos_pts ps)]
theorem it_pB : itemsC (.lst .b (ps.map ptD)) = some (ps.map ptD) := rfl
theorem it_pF : itemsC (.lst .f (ps.map ptD)) = some (ps.map ptD) := rfl
end
/-! ### comprehensions over what is known -/
theorem filter_all {α : Type} (xs : List α) : xs.filter (fun _ => true) = xs := List.filter_eq_self.mpr fun _ _ => rfl
theorem lc_run {α : Type} {g : G} {tt : DTT} {te : DT} {ρ : Env} {f : α → D} {t : α → Bool} {h : α → D} {QA : List D → Prop} : ∀ (xs : List α) {acc : List D}, (∀ x ∈ xs, ∀ (K1 : D → Prop) (K2 : Prop), (if t x = true then K1 (h x) else K2) → G.go g (f x) ρ fun ρ2 => tt ρ2 fun k => if k = true then te ρ2 K1 else K2) →
    QA (acc ++ (xs.filter t).map h) → lcGo g tt te ρ (xs.map f) acc QA
  | [], acc, _, q => by simpa [lcGo] using q
  | x :: xs, acc, st, q => by
    show lcGo g tt te ρ (f x :: xs.map f) acc QA
    rw [q_lc1]
    refine st x (List.mem_cons_self ..) _ _ ?_
    by_cases e : t x = true
    · rw [if_pos e]
      refine lc_run xs (fun y hy => st y (List.mem_cons_of_mem _ hy)) ?_
      rw [List.filter_cons, if_pos e] at q
      simpa using q
    · rw [if_neg e]
      refine lc_run xs (fun y hy => st y (List.mem_cons_of_mem _ hy)) ?_
      rw [List.filter_cons, if_neg e] at q
      exact q
theorem lc_map {α : Type} {g : G} {te : DT} {ρ : Env} {f : α → D} {h : α → D} {QA : List D → Prop} (xs : List α) {acc : List D} (st : ∀ x ∈ xs, ∀ K1 : D → Prop, K1 (h x) → G.go g (f x) ρ fun ρ2 => te ρ2 K1) (q : QA (acc ++ xs.map h)) : lcGo g dYes te ρ (xs.map f) acc QA := by
  refine lc_run (t := fun _ => true) (h := h) xs (fun x hx K1 K2 k => ?_) (by rw [filter_all]; exact q)
  rw [if_pos rfl] at k
  have := st x hx K1 k
  simpa [dYes] using this
theorem bls_map {α : Type} (g : α → Bool) : ∀ xs : List α, blsD (xs.map fun x => D.bl (g x)) = some (xs.map g)
  | [] => rfl
  | x :: xs => by
    show (blsD (xs.map fun x => D.bl (g x))).map (g x :: ·) = _
    rw [bls_map g xs]
    rfl
theorem q_anyM {α : Type} {g : α → Bool} {xs : List α} {kk : Fl} : anyD (.lst kk (xs.map fun x => .bl (g x))) Q = Q (.bl (xs.any g)) := by
  show (match blsD (xs.map fun x => D.bl (g x)) with | some bs => Q (.bl (bs.any id)) | none => False) = _
  rw [bls_map]
  simp
theorem q_allM {α : Type} {g : α → Bool} {xs : List α} {kk : Fl} : allD (.lst kk (xs.map fun x => .bl (g x))) Q = Q (.bl (xs.all g)) := by
  show (match blsD (xs.map fun x => D.bl (g x)) with | some bs => Q (.bl (bs.all id)) | none => False) = _
  rw [bls_map]
  simp
end
end DL
set_option maxHeartbeats 4000000
set_option exponentiation.threshold 50000
namespace DL
open PySem PySem.Spec PyProof.Rows L2
variable [Tb]
/-! ### a pen is made -/
def spPen (K : PySem.W.Frag) : Sp := fun vs H Q _ => ∃ (a : Addr) (ns : List Int), vs = [.ref a] ∧ SqL K H a (ns.map V.int) ∧ ns.length ≤ 63 ∧
  ∀ (H' : Hp) (p l : Addr) (s : Int), Gr [] H H' → H p = none → H l = none → p ≠ l → 0 ≤ s → s < 2147483648 → H' p = some (.lst [.ref l, .int 0, .int 0, .int s]) → H' l = some (.lst (ns.map V.int)) → Q (.ref p) H'
def FnPen (P : Program) (w : World) (K : PySem.W.Frag) (mg : Str → Option Value) (base : Heap) (k : Nat) (x : Str) : Prop :=
  ∃ f fd ps, FnOk P w K mg base CX0 k f fd ps (spPen K) ∧ mg x = some (.ref f) ∧ PySem.W.keepIn K (.ref f) = true ∧ Binds K fd ps []
def dPen (i j : Nat) : DS := fun N ρ => ∃ (kk : Fl) (ns : List Int), Env.at ρ j = some (.lst kk (ns.map D.int)) ∧ ns.length ≤ 63 ∧ N.nx (ρ.set i (some .pen))
section
variable {K : PySem.W.Frag} {P : Pens} {M B L : List Addr} {H H' : Hp} {σ : Sg} {ρ : Env} {v : V} {d : D} {vs : List V} {ds : List D} {E : Ends}
theorem reps_ints : ∀ {ns : List Int} {vs : List V} {L : List Addr}, Reps K P M B H vs (ns.map D.int) L → vs = ns.map V.int
  | [], _, _, r => by cases r; rfl
  | n :: ns, _, _, r => by
    cases r with
    | cons h r =>
      obtain ⟨rfl, _⟩ := h.int_inv
      rw [reps_ints r]
      rfl
theorem ints_reps : ∀ (ns : List Int), Reps K P M B H (ns.map V.int) (ns.map D.int) []
  | [] => .nil
  | n :: ns => by
    have := Reps.cons (K := K) (P := P) (M := M) (B := B) (H := H) (.int (i := n)) (ints_reps ns)
    simpa using this
theorem SqF.more {N : List Addr} {p : Addr} {a : Addr} {xs : List V} (h : SqF K N H a xs) (hp : H p = none) : SqF K (p :: N) H a xs := by
  rcases h with ⟨h, n⟩ | h
  · refine .inl ⟨h, fun z => ?_⟩
    rcases List.mem_cons.mp z with e | z
    · subst e
      rcases h with h | ⟨o, h⟩
      · rw [h] at hp; cases hp
      · rw [h] at hp; cases hp
    · exact n z
  · exact .inr h
theorem SqT.keep0 {a : Addr} {xs : List V} (g : Gr [] H H') (h : SqT K H a xs) : SqT K H' a xs := by
  rcases h with (h | ⟨o, h⟩) | h
  · exact .inl (.inl (g _ _ h (fun z => nomatch z)))
  · exact .inl (.inr ⟨o, g _ _ h (fun z => nomatch z)⟩)
  · exact .inr h
mutual
theorem Rep.morep {p l : Addr} (g : Gr [] H H') (hp : H p = none) : ∀ {v : V} {d : D} {L : List Addr}, Rep K P M B H v d L → Rep K ((p, l) :: P) M B H' v d L
  | _, _, _, .non => .non
  | _, _, _, .bl => .bl
  | _, _, _, .int => .int
  | _, _, _, .str => .str
  | _, _, _, .pen h => .pen (List.mem_cons_of_mem _ h)
  | _, _, _, .tup q r => .tup (SqT.keep0 g q) (Reps.morep g hp r)
  | _, _, _, .lstF q r f => .lstF (SqF.gr (SqF.more q hp) g (fun _ z => nomatch z) (fun _ z => .inl z)) (Reps.morep g hp r) f
  | _, _, _, .lstB q r => .lstB (SqF.gr (SqF.more q hp) g (fun _ z => nomatch z) (fun _ z => .inl z)) (Reps.morep g hp r)
  | _, _, _, .lstO q m r => .lstO (g _ _ q (fun z => nomatch z)) (fun z => by
      rcases List.mem_cons.mp z with e | z
      · rw [e, hp] at q; cases q
      · exact m z) (Reps.morep g hp r)
theorem Reps.morep {p l : Addr} (g : Gr [] H H') (hp : H p = none) : ∀ {vs : List V} {ds : List D} {L : List Addr}, Reps K P M B H vs ds L → Reps K ((p, l) :: P) M B H' vs ds L
  | _, _, _, .nil => .nil
  | _, _, _, .cons r rs => .cons (Rep.morep g hp r) (Reps.morep g hp rs)
end
theorem Gr.of0 {N : List Addr} (g : Gr [] H H') : Gr N H H' := ⟨fun b o h _ => g b o h (fun z => nomatch z), g.tab⟩
theorem lift_pen {i j : Nat} (h : liftS K (dPen i j) E σ H) : tAsg (tCall (spPen K) [] E0 (tCons (tVar j) tNil)) (gName i) E σ H := by
  obtain ⟨P, M, B, ρ, N, s, sl, e, ⟨kk, ns, e0, hlen, q⟩, f⟩ := h
  obtain ⟨v, L, e1, r, _⟩ := sl.get (Env.at_get e0)
  obtain ⟨a, us, L', rfl, hq, rs, _⟩ := r.lst_inv
  have eu := reps_ints rs
  subst eu
  refine ⟨_, e1, a, ns, rfl, hq, hlen, fun H' p l sd g hp hl pl h0 h1 ep el => ?_⟩
  have g' : Gr P.as H H' := g.of0
  have np : p ∉ P.as := fun z => by
    obtain ⟨ys, q⟩ := s.lists p z
    rw [q] at hp; cases hp
  have nl : l ∉ P.as := fun z => by
    obtain ⟨ys, q⟩ := s.lists l z
    rw [q] at hl; cases hl
  have nM : p ∉ M := fun z => s.trk p z hp
  have nM2 : l ∉ M := fun z => s.trk l z hl
  have ok' : PensOk ((p, l) :: P) M H' := fun a' l' hm => by
    rcases List.mem_cons.mp hm with z | z
    · injection z with z1 z2
      subst z1 z2
      exact ⟨nM, nM2, fun z => (List.mem_cons.mp z).elim (fun w => pl w.symm) nl, ns, 0, 0, sd, ep, el, Int.le_refl _, Int.le_refl _, h0, h1, hlen⟩
    · obtain ⟨n1, n2, n3, ns', i', b', s', q1, q2, r'⟩ := s.pens a' l' z
      refine ⟨n1, n2, fun w => ?_, ns', i', b', s', g a' _ q1 (fun w => nomatch w), g l' _ q2 (fun w => nomatch w), r'⟩
      rcases List.mem_cons.mp w with w | w
      · rw [w, hp] at q2; cases q2
      · exact n3 w
  have a1 : StAft P M B H ((p, l) :: P) M H' := ⟨fun b o hb _ _ => g b o hb (fun z => nomatch z), fun x hx => List.mem_cons_of_mem _ hx, fun b z => by
      rcases List.mem_cons.mp z with w | w
      · exact .inr (.inl (w ▸ hp))
      · exact .inl w, fun _ z => .inl z, fun b hb z => hb (by
      cases hc : H b with
      | none => rfl
      | some o => exact absurd z (g b o hc (fun w => nomatch w)).trk), g.tab⟩
  have s1 : Stt ((p, l) :: P) M B H' := ⟨ok', s.sub, fun b z => by
    obtain ⟨xs, q⟩ := s.ls b z
    exact ⟨xs, g b _ q (fun w => nomatch w)⟩, fun x z => g.tab _ _ z (s.tabs x z)⟩
  have slx : SlotsX K ((p, l) :: P) M B H' σ ρ ([] ++ []) := by
    obtain ⟨hl', F, f1, f2, f3, f4⟩ := sl
    refine ⟨hl', F, fun i d e => ?_, f2, f3, f4, fun _ _ _ z => nomatch z⟩
    obtain ⟨v, e1, r⟩ := f1 i d e
    exact ⟨v, e1, Rep.morep g hp r⟩
  have sl2 := SlotsX.set (L := []) (R := []) (v := .ref p) (d := .pen) slx (.pen (List.mem_cons_self ..)) (fun _ z => nomatch z) List.nodup_nil (fun _ z => nomatch z) i
  refine f.nx _ _ _ _ _ q a1 s1 sl2.s fun k d' z => ?_
  rw [List.getElem?_set] at z
  by_cases hk : i = k
  · subst hk
    rw [if_pos rfl] at z
    split at z
    · injection z with z; injection z with z
      rw [← z]; rfl
    · cases z
  · rw [if_neg hk] at z
    exact e k d' z
end
section
variable {X : Cx} {x y : Str} {px py pp pos spos : Pos} {k : Nat}
theorem s_pen (i j : Nat) (F : FnPen X.prog X.w X.K X.mg X.base k "_law_pen") (hr : Room k X.A) (hN : X.N.Nodup) (hi : X.N[i]? = some x := by rfl) (hx : Loc X.env.scope x := by first | exact Or.inl rfl | exact Or.inr rfl) (hf : X.fn x = true ∨ X.env.scope.names.lookup x = some .local := by first | exact .inl rfl | exact .inr rfl)
    (hj : X.N[j]? = some y := by rfl) (hv : Vis X.env.scope y := by first | exact Or.inl rfl | exact Or.inr (Or.inl rfl) | exact Or.inr (Or.inr rfl)) (hd : (y == ("__debug__" : Str)) = false := by decide) (hcd : (y == ("__classdict__" : Str)) = false := by decide)
    (hg : Gl X "_law_pen" := by rfl) (he : starEach [.Name y py] X.env = (false, eval (.Name y py) X.env) :: starEach [] X.env := by rfl) (hpl : (backTo pos (starEach [] X.env)).any (·.1) = false := by rfl)
    (hs : swapsWith (.Call (.Name "_law_pen" pp) [.Name y py] [] pos) (some (.Name x px)) spos.line X.env = pure false := by rfl) : PDS X (.Assign [.Name x px] (.Call (.Name "_law_pen" pp) [.Name y py] [] pos) spos) (dPen i j) := by
  obtain ⟨f, fd, ps, F, a, b, c⟩ := F
  exact mPS (ps_set hN hi hx (pe_call F hr hg a b c .nil (E := E0) (CX := CX0) pass0 (pa_cons (pv j hj hv hd hcd) pa_nil he) (by decide) he hpl) hs hf) fun _ _ _ h => lift_pen h
end
/-! ### a number is drawn -/
def S__law_pick : DSpec := fun ds Q => ∃ n : Int, ds = [.pen, .int n] ∧ 0 < n ∧ n.natAbs < 2 ^ 2000 ∧ ∀ r : Int, 0 ≤ r → r < n → Q (.int r)
end DL
set_option maxHeartbeats 4000000
set_option exponentiation.threshold 50000
namespace DL
open PySem PySem.Spec PyProof.Rows L2
variable [Tb]
/-! ### the pens' two defs, over the hand layer -/
def rGetL : V → V → Hp → VK → Prop := fun o i H Q => ∃ p xs k v, o = .ref p ∧ i = .int k ∧ 0 ≤ k ∧ k < 2 ^ 63 ∧ H p = some (.lst xs) ∧ xs[k.toNat]? = some v ∧ Q v H
theorem get_listL {X : Cx} : PGet X rGetL := by
  intro pins s σ H o i ov iv Q I ro ri h
  obtain ⟨p, xs, k, v, rfl, rfl, h0, h1, hp, hv, q⟩ := h
  cases ro
  obtain ⟨t, rfl⟩ := ri
  obtain ⟨its, r, pl, hz⟩ := I.list (.inl (.inl hp))
  obtain ⟨u, eu, ru⟩ := r.get hv
  exact getItem_listL pl.isList h0 h1 eu ⟨v, H, I, ru, q⟩
def pAt (K : PySem.W.Frag) (j : Int) : TE := tOp (rIxL K) (tVar 0) (tC (.int j))
abbrev rAddI : R2 := rI0 fun i j => .int (i + j)
abbrev rMulI : R2 := rI CMulW fun i j => .int (i * j)
abbrev rModI : R2 := rI (fun _ j => 0 < j) fun i j => .int (i % j)
abbrev rDivI : R2 := rI CDivW fun i j => .int (i / j)
abbrev rPowI : R2 := rI CPow fun i j => .int (i ^ j.toNat)
abbrev rLtI : R2 := rI0 fun i j => .bl (decide (i < j))
abbrev rGtI : R2 := rI0 fun i j => .bl (decide (j < i))
abbrev rGeI : R2 := rI0 fun i j => .bl (decide (j ≤ i))
def tPick (K : PySem.W.Frag) : TS :=
  tSeq (tIfS (tAnd (tTest (tOp rEq (pAt K 2) (tC (.int 0)))) (tTest (tOp rLtI (pAt K 1) (tCB (fun xs H Q => ∃ x n, xs = [x] ∧ LenV K x H n ∧ Q (.int n) H) (tCons (pAt K 0) tNil)))))
    (tSeq (tAsg (tOp (rIxL K) (pAt K 0) (pAt K 1)) (gName 2))
      (tSeq (tAugS (tVar 0) (tC (.int 1)) (tC (.int 1)) rGetL (ipI fun i j => i + j) rSetL)
        (tIfS (tTest (tOp rGeI (tVar 2) (tOp rPowI (tC (.int 10)) (tC (.int 18)))))
          (tAsg (tVar 2) (gSub (tVar 0) (tC (.int 2)) rSetL))
          (tSeq (tAsg (tOp rAddI (tOp rMulI (tOp rModI (tVar 2) (tC (.int 2147483477))) (tC (.int 40487))) (tOp rMulI (tC (.int 3)) (pAt K 1))) (gName 3))
            (tAsg (tOp rModI (tOp rAddI (tOp rMulI (pAt K 3) (tC (.int 52501))) (tVar 3)) (tC (.int 2147483647))) (gSub (tVar 0) (tC (.int 3)) rSetL))))))
    tNext)
  (tSeq (tIfS (tTest (tOp rGtI (pAt K 2) (tC (.int 0))))
    (tSeq (tAsg (tOp rModI (pAt K 2) (tVar 1)) (gName 4))
      (tSeq (tAsg (tOp rDivI (pAt K 2) (tVar 1)) (gSub (tVar 0) (tC (.int 2)) rSetL)) (tRet (tVar 4)))) tNext)
  (tSeq (tAsg (pAt K 3) (gName 5))
  (tSeq (tAsg (tOp rModI (tOp rMulI (tVar 5) (tVar 5)) (tC (.int 2147483587))) (gName 6))
  (tSeq (tAsg (tOp rModI (tOp rAddI (tOp rAddI (tOp rMulI (tVar 6) (tC (.int 23))) (tOp rMulI (tVar 5) (tC (.int 16807)))) (tC (.int 9176))) (tC (.int 2147483647))) (gName 5))
  (tSeq (tAsg (tOp rModI (tOp rAddI (tOp rAddI (tOp rMulI (tVar 5) (tC (.int 69069))) (tOp rModI (pAt K 3) (tC (.int 4099)))) (tC (.int 1))) (tC (.int 2147483647))) (gSub (tVar 0) (tC (.int 3)) rSetL))
    (tRet (tOp rModI (tOp rAddI (tOp rDivI (tVar 5) (tC (.int 83))) (tOp rMulI (tOp rModI (tVar 5) (tC (.int 5003))) (tC (.int 41)))) (tVar 1))))))))
section
variable {K : PySem.W.Frag} {H : Hp} {σ : Sg} {Q : VK} {a l : Addr}
theorem pat_ok {xs : List V} {j : Int} {v : V} (h0 : σ[0]? = some (some (.ref a))) (hp : H a = some (.lst xs)) (hv : atI xs j = some v) (q : Q v H) : pAt K j σ H Q :=
  ⟨.ref a, h0, a, xs, j, v, rfl, rfl, .inl (.inl hp), hv, q⟩
theorem oi_ok {C : Int → Int → Prop} {f : Int → Int → V} {ta tb : TE} {i j : Int} (ha : ∀ Q : VK, Q (.int i) H → ta σ H Q) (hb : ∀ Q : VK, Q (.int j) H → tb σ H Q) (c : C i j) (q : Q (f i j) H) : tOp (rI C f) ta tb σ H Q :=
  ha _ (hb _ ⟨i, j, rfl, rfl, c, q⟩)
theorem o0_ok {f : Int → Int → V} {ta tb : TE} {i j : Int} (ha : ∀ Q : VK, Q (.int i) H → ta σ H Q) (hb : ∀ Q : VK, Q (.int j) H → tb σ H Q) (q : Q (f i j) H) : tOp (rI0 f) ta tb σ H Q :=
  ha _ (hb _ ⟨i, j, rfl, rfl, q⟩)
theorem tc_ok {v : V} (q : Q v H) : tC v σ H Q := q
theorem tv_ok {i : Nat} {v : V} (h : σ[i]? = some (some v)) (q : Q v H) : tVar i σ H Q := ⟨v, h, q⟩
end
/-- the pen at a as it may stand behind a while -/
def PenW (H : Hp) (a l : Addr) (ns : List Int) (H' : Hp) : Prop := ∃ i b s : Int, 0 ≤ i ∧ 0 ≤ b ∧ 0 ≤ s ∧ s < 2147483648 ∧ H' a = some (.lst [.ref l, .int i, .int b, .int s]) ∧ ∀ x, x ≠ a → H' x = H x
def sgP (a : Addr) (n : Int) (r : List (Option V)) : L2.St := some (.ref a) :: some (.int n) :: r
section
variable {K : PySem.W.Frag} {H H' : Hp} {a l : Addr} {ns : List Int} {n : Int} {r : List (Option V)}
theorem PenW.set (w : PenW H a l ns H') {i b s : Int} (h1 : 0 ≤ i) (h2 : 0 ≤ b) (h3 : 0 ≤ s) (h4 : s < 2147483648) : PenW H a l ns (upd H' a (.lst [.ref l, .int i, .int b, .int s])) := by
  obtain ⟨_, _, _, _, _, _, _, _, e⟩ := w
  exact ⟨i, b, s, h1, h2, h3, h4, upd_same, fun x hx => by rw [upd_ne hx]; exact e x hx⟩
theorem bd64 {i : Int} (h1 : 0 ≤ i) (h2 : i < 18446744073709551616) : Bd 64 i := by
  unfold Bd
  omega
theorem mw {i j : Int} (h1 : 0 ≤ i) (h2 : i < 18446744073709551616) (h3 : 0 ≤ j) (h4 : j < 18446744073709551616) : CMulW i j := (mok 64 64 (bd64 h1 h2) (bd64 h3 h4)).w
theorem modR {i j : Int} (h : 0 < j) : 0 ≤ i % j ∧ i % j < j := ⟨Int.emod_nonneg i (by omega), Int.emod_lt_of_pos i h⟩
/-- pen[j] = e, a number -/
theorem set_pen {D : L2.St → Hp → Prop} {j : Int} {m : Nat} {v : V} {xs : List V} (hp : H' a = some (.lst xs)) (hj : ixN xs.length j = some m) (q : D (sgP a n r) (upd H' a (.lst (xs.set m v)))) : gSub (tVar 0) (tC (.int j)) rSetL v (sgP a n r) H' D :=
  ⟨.ref a, rfl, a, xs, j, m, rfl, rfl, hp, hj, q⟩
theorem ix4 {α : Type} {x0 x1 x2 x3 : α} : ixN [x0, x1, x2, x3].length 1 = some 1 ∧ ixN [x0, x1, x2, x3].length 2 = some 2 ∧ ixN [x0, x1, x2, x3].length 3 = some 3 := ⟨rfl, rfl, rfl⟩
theorem pick_end {Q : VK} (hn : 0 < n) (hn2 : n.natAbs < 2 ^ 2000) (hl : r.length = 5) (w : PenW H a l ns H') (fin : ∀ H' (t : Int), PenW H a l ns H' → 0 ≤ t → t < n → Q (.int t) H') :
    tSeq (tIfS (tTest (tOp rGtI (pAt K 2) (tC (.int 0))))
    (tSeq (tAsg (tOp rModI (pAt K 2) (tVar 1)) (gName 4))
      (tSeq (tAsg (tOp rDivI (pAt K 2) (tVar 1)) (gSub (tVar 0) (tC (.int 2)) rSetL)) (tRet (tVar 4)))) tNext)
  (tSeq (tAsg (pAt K 3) (gName 5))
  (tSeq (tAsg (tOp rModI (tOp rMulI (tVar 5) (tVar 5)) (tC (.int 2147483587))) (gName 6))
  (tSeq (tAsg (tOp rModI (tOp rAddI (tOp rAddI (tOp rMulI (tVar 6) (tC (.int 23))) (tOp rMulI (tVar 5) (tC (.int 16807)))) (tC (.int 9176))) (tC (.int 2147483647))) (gName 5))
  (tSeq (tAsg (tOp rModI (tOp rAddI (tOp rAddI (tOp rMulI (tVar 5) (tC (.int 69069))) (tOp rModI (pAt K 3) (tC (.int 4099)))) (tC (.int 1))) (tC (.int 2147483647))) (gSub (tVar 0) (tC (.int 3)) rSetL))
    (tRet (tOp rModI (tOp rAddI (tOp rDivI (tVar 5) (tC (.int 83))) (tOp rMulI (tOp rModI (tVar 5) (tC (.int 5003))) (tC (.int 41)))) (tVar 1)))))))
      { nx := fun _ H' => Q .non H', rt := Q } (sgP a n r) H' := by
  match r, hl with
  | [x2, x3, x4, x5, x6], _ =>
    have w0 := w
    obtain ⟨i, b, s, hi, hb, hs, hs2, hp, he⟩ := w
    refine pat_ok rfl hp ati2 (tc_ok ⟨b, 0, rfl, rfl, _, rfl, ?_⟩)
    refine ite2 (fun h => ?_) (fun h => ?_)
    · have m := modR (i := b) hn
      refine oi_ok (i := b) (j := n) (fun Q q => pat_ok rfl hp ati2 q) (fun Q q => tv_ok rfl q) hn ?_
      refine oi_ok (i := b) (j := n) (fun Q q => pat_ok rfl hp ati2 q) (fun Q q => tv_ok rfl q) (DivOk.w ⟨hn, hn2⟩) ?_
      refine set_pen (r := [x2, x3, some (.int (b % n)), x5, x6]) hp ix4.2.1 ?_
      exact ⟨_, rfl, fin _ _ (w0.set hi (Int.ediv_nonneg hb (by omega)) hs hs2) m.1 m.2⟩
    · refine pat_ok rfl hp ati3 ?_
      have m1 := modR (i := s * s) (j := 2147483587) (by decide)
      refine oi_ok (i := s * s) (j := 2147483587) (fun Q q => oi_ok (i := s) (j := s) (fun Q q => tv_ok rfl q) (fun Q q => tv_ok rfl q) (mw hs (by omega) hs (by omega)) q) (fun Q q => tc_ok q) (by decide) ?_
      generalize s * s % 2147483587 = u at m1 ⊢
      refine oi_ok (i := u * 23 + s * 16807 + 9176) (j := 2147483647) (fun Q q => o0_ok (i := u * 23 + s * 16807) (j := 9176) (fun Q q => o0_ok (i := u * 23) (j := s * 16807) (fun Q q => oi_ok (i := u) (j := 23) (fun Q q => tv_ok rfl q) (fun Q q => tc_ok q) (mw m1.1 (by omega) (by decide) (by decide)) q)
        (fun Q q => oi_ok (i := s) (j := 16807) (fun Q q => tv_ok rfl q) (fun Q q => tc_ok q) (mw hs (by omega) (by decide) (by decide)) q) q) (fun Q q => tc_ok q) q) (fun Q q => tc_ok q) (by decide) ?_
      have m2 := modR (i := u * 23 + s * 16807 + 9176) (j := 2147483647) (by decide)
      generalize (u * 23 + s * 16807 + 9176) % 2147483647 = t at m2 ⊢
      have m3 := modR (i := s) (j := 4099) (by decide)
      refine oi_ok (i := t * 69069 + s % 4099 + 1) (j := 2147483647) (fun Q q => o0_ok (i := t * 69069 + s % 4099) (j := 1) (fun Q q => o0_ok (i := t * 69069) (j := s % 4099) (fun Q q => oi_ok (i := t) (j := 69069) (fun Q q => tv_ok rfl q) (fun Q q => tc_ok q) (mw m2.1 (by omega) (by decide) (by decide)) q)
        (fun Q q => oi_ok (i := s) (j := 4099) (fun Q q => pat_ok rfl hp ati3 q) (fun Q q => tc_ok q) (by decide) q) q) (fun Q q => tc_ok q) q) (fun Q q => tc_ok q) (by decide) ?_
      have m4 := modR (i := t * 69069 + s % 4099 + 1) (j := 2147483647) (by decide)
      refine set_pen (r := [x2, x3, x4, some (.int t), some (.int u)]) hp ix4.2.2 ?_
      have m5 := modR (i := t) (j := 5003) (by decide)
      have m6 := modR (i := t / 83 + t % 5003 * 41) hn
      refine oi_ok (i := t / 83 + t % 5003 * 41) (j := n) (fun Q q => o0_ok (i := t / 83) (j := t % 5003 * 41) (fun Q q => oi_ok (i := t) (j := 83) (fun Q q => tv_ok rfl q) (fun Q q => tc_ok q) (DivOk.w ⟨by decide, by decide⟩) q)
        (fun Q q => oi_ok (i := t % 5003) (j := 41) (fun Q q => oi_ok (i := t) (j := 5003) (fun Q q => tv_ok rfl q) (fun Q q => tc_ok q) (by decide) q) (fun Q q => tc_ok q) (mw m5.1 (by omega) (by decide) (by decide)) q) q) (fun Q q => tv_ok rfl q) hn ?_
      exact fin _ _ (w0.set hi hb m4.1 (by omega)) m6.1 m6.2
theorem pure_pick {vs : List V} {Q : VK} {E : XK} (h : liftF K S__law_pick vs H Q E) : tPick K { nx := fun _ H' => Q .non H', rt := Q } (L2.start ["_law_pen_here", "_law_many", "_law_cell", "_law_mixed", "_law_got", "_law_seed", "_law_square"] vs) H := by
  obtain ⟨P, M, ds, Q0, s, r, pf, ⟨n, rfl, hn, hn2, qr⟩, k⟩ := h
  obtain ⟨v, u, L1, L3, rfl, _, r1, ru⟩ := v2 r
  obtain ⟨rfl, _⟩ := ru.int_inv
  obtain ⟨a, l, rfl, hm⟩ : ∃ a l, v = .ref a ∧ (a, l) ∈ P := by
    cases r1 with
    | pen h => exact ⟨_, _, rfl, h⟩
  obtain ⟨nM, nM2, nP, ns, i, b, sd, e1, e2, hi, hb, hs, hs2, hl⟩ := s.pens a l hm
  have ha : a ∈ P.as := List.mem_map.mpr ⟨(a, l), hm, rfl⟩
  have fin : ∀ (H' : Hp) (t : Int), PenW H a l ns H' → 0 ≤ t → t < n → Q (.int t) H' := fun H' t w h0 h1 => by
    obtain ⟨i', b', s', hi', hb', hs', hs2', hp', he'⟩ := w
    refine k _ _ ⟨.int t, [], qr t h0 h1, Gr.by (fun x o hx nx => ?_) (fun x hx o ho => ?_), fun a' l' hm' => ?_, .int, List.nodup_nil, fun _ z => nomatch z⟩
    · rw [he' x (fun z => nx (z ▸ ha))]; exact hx
    · obtain ⟨xs, e⟩ := s.lists x hx
      rw [e] at ho
      cases ho
      exact ⟨fun _ z => (nomatch z), fun _ _ z => (nomatch z)⟩
    · obtain ⟨n1, n2, n3, ns', i2, b2, s2, q1, q2, r'⟩ := s.pens a' l' hm'
      have nl : l' ≠ a := fun z => n3 (z ▸ ha)
      refine ⟨n1, n2, n3, ?_⟩
      by_cases z : a' = a
      · subst z
        rw [e1] at q1
        injection q1 with q1; injection q1 with q1; injection q1 with q1 _; injection q1 with q1
        subst q1
        rw [e2] at q2
        exact ⟨ns, i', b', s', hp', by rw [he' _ nl]; exact e2, hi', hb', hs', hs2', hl⟩
      · exact ⟨ns', i2, b2, s2, by rw [he' a' z]; exact q1, by rw [he' l' nl]; exact q2, r'⟩
  have w0 : PenW H a l ns H := ⟨i, b, sd, hi, hb, hs, hs2, e1, fun _ _ => rfl⟩
  show tPick K _ (sgP a n [none, none, none, none, none]) H
  unfold tPick
  refine pat_ok rfl e1 ati2 (tc_ok ⟨rfl, _, rfl, ite2 (fun c1 => ?_) (fun c1 => ?_)⟩)
  · refine pat_ok rfl e1 ati1 (pat_ok rfl e1 ati0 ⟨_, ns.length, rfl, .inl ⟨ns.map V.int, .inl (.inl e2), by simp⟩, i, ns.length, rfl, rfl, _, rfl, ite2 (fun c2 => ?_) (fun c2 => ?_)⟩)
    · have hlt : i < ns.length := of_decide_eq_true c2
      have en : (i.toNat : Int) = i := by omega
      have hj : i.toNat < ns.length := by omega
      obtain ⟨c, hat⟩ : ∃ c, atI (ns.map V.int) i = some (.int c) := by
        have h := ati_nat (r := ns.map V.int) (i := i.toNat) (by simpa using hj)
        rw [en] at h
        exact ⟨ns[i.toNat], by rw [h, List.getElem?_map, List.getElem?_eq_getElem hj]; rfl⟩
      refine pat_ok rfl e1 ati0 (pat_ok rfl e1 ati1 ⟨l, _, i, .int c, rfl, rfl, .inl (.inl e2), hat, ?_⟩)
      refine ⟨.ref a, rfl, a, _, 1, .int i, rfl, rfl, by decide, by decide, e1, rfl, i, 1, rfl, rfl, a, _, 1, 1, rfl, rfl, e1, rfl, ?_⟩
      have w1 : PenW H a l ns (upd H a (.lst [.ref l, .int (i + 1), .int b, .int sd])) := w0.set (by omega) hb hs hs2
      have p1 : (upd H a (.lst [V.ref l, .int (i + 1), .int b, .int sd])) a = some (.lst [.ref l, .int (i + 1), .int b, .int sd]) := upd_same
      refine o0_ok (i := c) (j := 1000000000000000000) (fun Q q => tv_ok rfl q) (fun Q q => oi_ok (i := 10) (j := 18) (fun Q q => tc_ok q) (fun Q q => tc_ok q) ⟨by decide, by decide, by decide⟩ q) ⟨_, rfl, ite2 (fun c3 => ?_) (fun c3 => ?_)⟩
      · have h3 : (1000000000000000000 : Int) ≤ c := of_decide_eq_true c3
        refine ⟨.int c, rfl, set_pen (r := [some (.int c), none, none, none, none]) p1 ix4.2.1 ?_⟩
        exact pick_end hn hn2 rfl (w1.set (i := i + 1) (b := c) (s := sd) (by omega) (by omega) hs hs2) fin
      · have m1 := modR (i := c) (j := 2147483477) (by decide)
        refine o0_ok (i := c % 2147483477 * 40487) (j := 3 * (i + 1)) (fun Q q => oi_ok (i := c % 2147483477) (j := 40487) (fun Q q => oi_ok (i := c) (j := 2147483477) (fun Q q => tv_ok rfl q) (fun Q q => tc_ok q) (by decide) q) (fun Q q => tc_ok q) (mw m1.1 (by omega) (by decide) (by decide)) q)
          (fun Q q => oi_ok (i := 3) (j := i + 1) (fun Q q => tc_ok q) (fun Q q => pat_ok rfl p1 ati1 q) (mw (by decide) (by decide) (by omega) (by omega)) q) ?_
        generalize c % 2147483477 * 40487 + 3 * (i + 1) = m
        refine oi_ok (i := sd * 52501 + m) (j := 2147483647) (fun Q q => o0_ok (i := sd * 52501) (j := m) (fun Q q => oi_ok (i := sd) (j := 52501) (fun Q q => pat_ok rfl p1 ati3 q) (fun Q q => tc_ok q) (mw hs (by omega) (by decide) (by decide)) q) (fun Q q => tv_ok rfl q) q) (fun Q q => tc_ok q) (by decide) ?_
        have m2 := modR (i := sd * 52501 + m) (j := 2147483647) (by decide)
        refine set_pen (r := [some (.int c), some (.int m), none, none, none]) p1 ix4.2.2 ?_
        exact pick_end hn hn2 rfl (w1.set (i := i + 1) (b := b) (s := (sd * 52501 + m) % 2147483647) (by omega) hb m2.1 (by omega)) fin
    · exact pick_end hn hn2 rfl w0 fin
  · exact pick_end hn hn2 rfl w0 fin
end
/-! ### the pen itself -/
def rLenV (K : PySem.W.Frag) : List V → Hp → VK → Prop := fun xs H Q => ∃ x n, xs = [x] ∧ LenV K x H n ∧ Q (.int n) H
def rListV (K : PySem.W.Frag) : List V → Hp → VK → Prop := fun xs H Q => ∃ p ys, xs = [.ref p] ∧ (SqL K H p ys ∨ SqT K H p ys) ∧ ∀ l, H l = none → Q (.ref l) (upd H l (.lst ys))
def tCut (K : PySem.W.Frag) : TE := L2.tSl (rSlL K) (tVar 0) tNoPart (tPart (tC (.int 63)))
def tPen (K : PySem.W.Frag) : TS := tRet (tLst (tCons (tCB (rListV K) (tCons (tCut K) tNil)) (tCons (tC (.int 0)) (tCons (tC (.int 0)) (tCons (tOp rAddI (tC (.int 20261)) (tOp rMulI (tC (.int 37)) (tCB (rLenV K) (tCons (tCut K) tNil)))) tNil)))))
theorem cut63 {xs : List V} (h : xs.length ≤ 63) : cutV xs none (some 63) = xs := by
  unfold cutV
  rw [show HT.sIx xs.length xs.length (some 63) = min 63 xs.length from HT.sIx_nat xs.length xs.length 63, HT.sIx_none, Nat.min_eq_right h, Nat.sub_zero]
  show xs.take xs.length = xs
  exact List.take_length
theorem Gr0.laid {H : Hp} {p : Addr} {o : HO} (hp : H p = none) : Gr [] H (upd H p o) := Gr.laid hp
theorem pure_pen {K : PySem.W.Frag} {H : Hp} {vs : List V} {Q : VK} {E : XK} (h : spPen K vs H Q E) : tPen K { nx := fun _ H' => Q .non H', rt := Q } (L2.start ["_law_script"] vs) H := by
  obtain ⟨a, ns, rfl, hq, hl, q⟩ := h
  have hl' : (ns.map V.int).length ≤ 63 := by simpa using hl
  refine ⟨.ref a, rfl, 63, rfl, a, ns.map V.int, rfl, hq, fun c hc => ?_⟩
  rw [cut63 hl']
  refine ⟨c, ns.map V.int, rfl, .inl (.inl (.inl upd_same)), fun l hl2 => ?_⟩
  generalize hH1 : upd H c (.lst (ns.map V.int)) = H1 at hl2
  have g1 : Gr [] H H1 := hH1 ▸ Gr.laid hc
  have hlH : H l = none := by
    cases e : H l with
    | none => rfl
    | some o => exact absurd hl2 (g1 l o e (fun z => nomatch z)).trk
  generalize hH2 : upd H1 l (.lst (ns.map V.int)) = H2
  have g2 : Gr [] H1 H2 := hH2 ▸ Gr.laid hl2
  have el : H2 l = some (.lst (ns.map V.int)) := by rw [← hH2]; exact upd_same
  have hq2 : SqL K H2 a (ns.map V.int) := by
    have g := g1.trans g2
    rcases hq with (h | ⟨o, h⟩) | h
    · exact .inl (.inl (g _ _ h (fun z => nomatch z)))
    · exact .inl (.inr ⟨o, g _ _ h (fun z => nomatch z)⟩)
    · exact .inr h
  refine ⟨.ref a, rfl, 63, rfl, a, ns.map V.int, rfl, hq2, fun c2 hc2 => ?_⟩
  rw [cut63 hl']
  have g3 : Gr [] H2 (upd H2 c2 (.lst (ns.map V.int))) := Gr.laid hc2
  refine ⟨_, (ns.map V.int).length, rfl, .inl ⟨_, .inl (.inl upd_same), rfl⟩, 37, _, rfl, rfl, ?_, 20261, _, rfl, rfl, show 4 ≤ sizeLine by decide, fun p hp => ?_⟩
  · exact mw (by decide) (by decide) (by omega) (by omega)
  generalize hH3 : upd H2 c2 (.lst (ns.map V.int)) = H3 at hp g3
  have hpH : H p = none := by
    cases e : H p with
    | none => rfl
    | some o => exact absurd hp (((g1.trans g2).trans g3) p o e (fun z => nomatch z)).trk
  have el3 : H3 l = some (.lst (ns.map V.int)) := g3 _ _ el (fun z => nomatch z)
  have npl : p ≠ l := fun z => by rw [z, el3] at hp; cases hp
  refine q _ p l _ (((g1.trans g2).trans g3).trans (Gr.laid hp)) hpH hlH npl ?_ ?_ upd_same (by rw [upd_ne npl.symm]; exact el3)
  · omega
  · omega
section
variable {P : Program} {w : World} {K : PySem.W.Frag} {mg : Str → Option Value} {base : Heap} {x qual : Str} {params : Arguments} {body : List Stmt} {scope : Scope} {f : Addr} {fd : FuncData}
theorem Fd.pick {k : Nat} (F : FunD K x qual params body scope [] [] f fd) (gm : mg x = some (.ref f)) (Sc : FnScope ["_law_pen_here", "_law_many", "_law_cell", "_law_mixed", "_law_got", "_law_seed", "_law_square"] ["_law_pen_here", "_law_many"] scope)
    (hb : ∀ (kV doc pm : Value) (an : Option Addr) (cdv ct : Value) (us : List Value), us.length = 2 → bindArgs (PySem.W.fnOf x qual params body scope .none kV doc pm an cdv ct) ⟨us, []⟩ = pure ((["_law_pen_here", "_law_many"] : List Str).zip us))
    (walk : ∀ (cdv : Value) (A : Around) (outer : List PySem.Env) (s : Shared) (H : Hp) (E : XK), PSs (cxOf CX0 P w K mg base ["_law_pen_here", "_law_many", "_law_cell", "_law_mixed", "_law_got", "_law_seed", "_law_square"] qual scope f cdv A outer s H E).nox body (tPick K)) : Fd P w K mg base (k + 1) x S__law_pick :=
  ⟨f, fd, _, F.ok Sc (fun vs H Q E h => by
      obtain ⟨P', M, ds, Q0, s, r, pf, ⟨n, e, _⟩, _⟩ := h
      rw [r.len, e]
      rfl) (fun cdv A outer s H vs Q E hr h => ⟨tPick K, PSs.nox (walk cdv A outer s H E), pure_pick h⟩), gm, F.kp, F.bindsN hb⟩
theorem FnPen.of {k : Nat} (F : FunD K x qual params body scope [] [] f fd) (gm : mg x = some (.ref f)) (Sc : FnScope ["_law_script"] ["_law_script"] scope)
    (hb : ∀ (kV doc pm : Value) (an : Option Addr) (cdv ct : Value) (us : List Value), us.length = 1 → bindArgs (PySem.W.fnOf x qual params body scope .none kV doc pm an cdv ct) ⟨us, []⟩ = pure ((["_law_script"] : List Str).zip us))
    (walk : ∀ (cdv : Value) (A : Around) (outer : List PySem.Env) (s : Shared) (H : Hp) (E : XK), PSs (cxOf CX0 P w K mg base ["_law_script"] qual scope f cdv A outer s H E).nox body (tPen K)) : FnPen P w K mg base (k + 1) x :=
  ⟨f, fd, _, F.ok Sc (fun vs H Q E h => by
      obtain ⟨a, ns, e, _⟩ := h
      rw [e]
      rfl) (fun cdv A outer s H vs Q E hr h => ⟨tPen K, PSs.nox (walk cdv A outer s H E), pure_pen h⟩), gm, F.kp, F.bindsN hb⟩
end
end DL
set_option maxHeartbeats 4000000
set_option exponentiation.threshold 50000
namespace DL
open PySem PySem.Spec PyProof.Rows L2
variable [Tb]
/-! ### what is handed in to be held against one another -/
def Pl : Nat → D → Prop
  | _, .non => True
  | _, .bl _ => True
  | _, .int _ => True
  | _, .str x => PyData.strOk x = true
  | _, .pen => False
  | 0, .tup _ => False
  | 0, .lst _ _ => False
  | n + 1, .tup xs => xs.length ≤ 1000000 ∧ ∀ x ∈ xs, Pl n x
  | n + 1, .lst k xs => k = .f ∧ xs.length ≤ 1000000 ∧ ∀ x ∈ xs, Pl n x
theorem pfs_of : ∀ xs : List D, (∀ x ∈ xs, x.pf = true) → D.pfs xs = true
  | [], _ => rfl
  | x :: xs, h => by
    show (x.pf && D.pfs xs) = true
    rw [h x (List.mem_cons_self ..), pfs_of xs fun y hy => h y (List.mem_cons_of_mem _ hy)]
    rfl
theorem Pl.pf : ∀ {n : Nat} {d : D}, Pl n d → d.pf = true
  | _, .non, _ => rfl
  | _, .bl _, _ => rfl
  | _, .int _, _ => rfl
  | _, .str _, _ => rfl
  | _, .pen, h => by unfold Pl at h; exact h.elim
  | 0, .tup _, h => by unfold Pl at h; exact h.elim
  | 0, .lst _ _, h => by unfold Pl at h; exact h.elim
  | n + 1, .tup xs, h => by
    have h' : ∀ x ∈ xs, Pl n x := by unfold Pl at h; exact h.2
    exact pfs_of xs fun x hx => (h' x hx).pf
  | n + 1, .lst k xs, h => by
    have hk : k = .f := by unfold Pl at h; exact h.1
    have h' : ∀ x ∈ xs, Pl n x := by unfold Pl at h; exact h.2.2
    subst hk
    show (true && D.pfs xs) = true
    rw [pfs_of xs fun x hx => (h' x hx).pf]
    rfl
theorem Pl.sh : ∀ {n : Nat} {d : D}, Pl n d → Sh n d
  | _, .non, _ => by unfold Sh; trivial
  | _, .bl _, _ => by unfold Sh; trivial
  | _, .int _, _ => by unfold Sh; trivial
  | _, .str _, h => by unfold Pl at h; unfold Sh; exact h
  | _, .pen, h => by unfold Pl at h; exact h.elim
  | 0, .tup _, h => by unfold Pl at h; exact h.elim
  | 0, .lst _ _, h => by unfold Pl at h; exact h.elim
  | n + 1, .tup xs, h => by
    have h' : ∀ x ∈ xs, Pl n x := by unfold Pl at h; exact h.2
    unfold Sh
    exact fun x hx => (h' x hx).sh
  | n + 1, .lst k xs, h => by
    have h' : ∀ x ∈ xs, Pl n x := by unfold Pl at h; exact h.2.2
    unfold Sh
    exact fun x hx => (h' x hx).sh
mutual
theorem D.vw_pf : ∀ d : D, d.pf = true → d.vw = d
  | .non, _ => rfl
  | .bl _, _ => rfl
  | .int _, _ => rfl
  | .str _, _ => rfl
  | .pen, _ => rfl
  | .tup xs, p => by simp only [D.vw]; rw [D.vws_pf xs (by simpa [D.pf] using p)]
  | .lst .f xs, p => rfl
  | .lst .b _, p => by simp [D.pf] at p
  | .lst .o _, p => by simp [D.pf] at p
theorem D.vws_pf : ∀ ds : List D, D.pfs ds = true → D.vws ds = ds
  | [], _ => rfl
  | d :: ds, p => by
    simp only [D.pfs, Bool.and_eq_true] at p
    simp only [D.vws]
    rw [D.vw_pf d p.1, D.vws_pf ds p.2]
end
mutual
theorem D.no_pf : ∀ d : D, d.pf = true → d.no = true
  | .non, _ => rfl
  | .bl _, _ => rfl
  | .int _, _ => rfl
  | .str _, _ => rfl
  | .pen, _ => rfl
  | .tup xs, p => D.nos_pf xs (by simpa [D.pf] using p)
  | .lst .f xs, p => by
    show (true && D.nos xs) = true
    rw [D.nos_pf xs (by simpa [D.pf] using p)]
    rfl
  | .lst .b _, p => by simp [D.pf] at p
  | .lst .o _, p => by simp [D.pf] at p
theorem D.nos_pf : ∀ ds : List D, D.pfs ds = true → D.nos ds = true
  | [], _ => rfl
  | d :: ds, p => by
    simp only [D.pfs, Bool.and_eq_true] at p
    show (d.no && D.nos ds) = true
    rw [D.no_pf d p.1, D.nos_pf ds p.2]
    rfl
end
def S__law_same : Nat → DSpec
  | 0, _, _ => False
  | n + 1, ds, Q => ∃ x, ds = [x, x] ∧ Pl n x ∧ Q (.bl true)
section
variable {Q : D → Prop} {i : Int} {k : Bool} {z : Str} {xs ys : List D} {f : Fl} {x : D} {cs : List String} {b : Bool}
theorem isi_of (h : isiB (tyD x) cs = some b) : isiD cs x Q = Q (.bl b) := by
  unfold isiD
  rw [h]
theorem isi_int_list_tuple : isiD ["list", "tuple"] (.int i) Q = Q (.bl false) := isi_of (by show isiB "int" _ = _; decide +kernel)
theorem isi_int_list : isiD ["list"] (.int i) Q = Q (.bl false) := isi_of (by show isiB "int" _ = _; decide +kernel)
theorem isi_int_tuple : isiD ["tuple"] (.int i) Q = Q (.bl false) := isi_of (by show isiB "int" _ = _; decide +kernel)
theorem isi_int_bool : isiD ["bool"] (.int i) Q = Q (.bl false) := isi_of (by show isiB "int" _ = _; decide +kernel)
theorem isi_int_int : isiD ["int"] (.int i) Q = Q (.bl true) := isi_of (by show isiB "int" _ = _; decide +kernel)
theorem isi_int_str : isiD ["str"] (.int i) Q = Q (.bl false) := isi_of (by show isiB "int" _ = _; decide +kernel)
theorem isi_bl_list_tuple : isiD ["list", "tuple"] (.bl k) Q = Q (.bl false) := isi_of (by show isiB "bool" _ = _; decide +kernel)
theorem isi_bl_list : isiD ["list"] (.bl k) Q = Q (.bl false) := isi_of (by show isiB "bool" _ = _; decide +kernel)
theorem isi_bl_tuple : isiD ["tuple"] (.bl k) Q = Q (.bl false) := isi_of (by show isiB "bool" _ = _; decide +kernel)
theorem isi_bl_bool : isiD ["bool"] (.bl k) Q = Q (.bl true) := isi_of (by show isiB "bool" _ = _; decide +kernel)
theorem isi_bl_int : isiD ["int"] (.bl k) Q = Q (.bl true) := isi_of (by show isiB "bool" _ = _; decide +kernel)
theorem isi_bl_str : isiD ["str"] (.bl k) Q = Q (.bl false) := isi_of (by show isiB "bool" _ = _; decide +kernel)
theorem isi_non_list_tuple : isiD ["list", "tuple"] (.non) Q = Q (.bl false) := isi_of (by show isiB "NoneType" _ = _; decide +kernel)
theorem isi_non_list : isiD ["list"] (.non) Q = Q (.bl false) := isi_of (by show isiB "NoneType" _ = _; decide +kernel)
theorem isi_non_tuple : isiD ["tuple"] (.non) Q = Q (.bl false) := isi_of (by show isiB "NoneType" _ = _; decide +kernel)
theorem isi_non_bool : isiD ["bool"] (.non) Q = Q (.bl false) := isi_of (by show isiB "NoneType" _ = _; decide +kernel)
theorem isi_non_int : isiD ["int"] (.non) Q = Q (.bl false) := isi_of (by show isiB "NoneType" _ = _; decide +kernel)
theorem isi_non_str : isiD ["str"] (.non) Q = Q (.bl false) := isi_of (by show isiB "NoneType" _ = _; decide +kernel)
theorem isi_str_list_tuple : isiD ["list", "tuple"] (.str z) Q = Q (.bl false) := isi_of (by show isiB "str" _ = _; decide +kernel)
theorem isi_str_list : isiD ["list"] (.str z) Q = Q (.bl false) := isi_of (by show isiB "str" _ = _; decide +kernel)
theorem isi_str_tuple : isiD ["tuple"] (.str z) Q = Q (.bl false) := isi_of (by show isiB "str" _ = _; decide +kernel)
theorem isi_str_bool : isiD ["bool"] (.str z) Q = Q (.bl false) := isi_of (by show isiB "str" _ = _; decide +kernel)
theorem isi_str_int : isiD ["int"] (.str z) Q = Q (.bl false) := isi_of (by show isiB "str" _ = _; decide +kernel)
theorem isi_str_str : isiD ["str"] (.str z) Q = Q (.bl true) := isi_of (by show isiB "str" _ = _; decide +kernel)
theorem isi_tup_list_tuple : isiD ["list", "tuple"] (.tup xs) Q = Q (.bl true) := isi_of (by show isiB "tuple" _ = _; decide +kernel)
theorem isi_tup_list : isiD ["list"] (.tup xs) Q = Q (.bl false) := isi_of (by show isiB "tuple" _ = _; decide +kernel)
theorem isi_tup_tuple : isiD ["tuple"] (.tup xs) Q = Q (.bl true) := isi_of (by show isiB "tuple" _ = _; decide +kernel)
theorem isi_tup_bool : isiD ["bool"] (.tup xs) Q = Q (.bl false) := isi_of (by show isiB "tuple" _ = _; decide +kernel)
theorem isi_tup_int : isiD ["int"] (.tup xs) Q = Q (.bl false) := isi_of (by show isiB "tuple" _ = _; decide +kernel)
theorem isi_tup_str : isiD ["str"] (.tup xs) Q = Q (.bl false) := isi_of (by show isiB "tuple" _ = _; decide +kernel)
theorem isi_lst_list_tuple : isiD ["list", "tuple"] (.lst f xs) Q = Q (.bl true) := isi_of (by show isiB "list" _ = _; decide +kernel)
theorem isi_lst_list : isiD ["list"] (.lst f xs) Q = Q (.bl true) := isi_of (by show isiB "list" _ = _; decide +kernel)
theorem isi_lst_tuple : isiD ["tuple"] (.lst f xs) Q = Q (.bl false) := isi_of (by show isiB "list" _ = _; decide +kernel)
theorem isi_lst_bool : isiD ["bool"] (.lst f xs) Q = Q (.bl false) := isi_of (by show isiB "list" _ = _; decide +kernel)
theorem isi_lst_int : isiD ["int"] (.lst f xs) Q = Q (.bl false) := isi_of (by show isiB "list" _ = _; decide +kernel)
theorem isi_lst_str : isiD ["str"] (.lst f xs) Q = Q (.bl false) := isi_of (by show isiB "list" _ = _; decide +kernel)
theorem zip_self (xs : List D) : zipD xs xs = xs.map fun x => .tup [x, x] := by
  unfold zipD
  induction xs with
  | nil => rfl
  | cons x xs ih =>
    simp only [List.zipWith_cons_cons, List.map_cons]
    rw [ih]
theorem q_zip {f : D → Option (List D)} {a b : DT} {ρ : Env} {K : List D → Prop} : dZip f a b ρ K = a ρ fun d => b ρ fun e => if seqK d = seqK e ∧ seqK d ≠ 0 then (match f d, f e with
    | some ds, some es => K (zipD ds es)
    | _, _ => False) else False := rfl
theorem q_lenL : lenD (.lst f xs) Q = Q (.int xs.length) := rfl
theorem q_lenT : lenD (.tup xs) Q = Q (.int xs.length) := rfl
theorem go2 {i j : Nat} {x y : D} {ρ : Env} {N : Env → Prop} : G.go (.tp (.cons (.nm i) (.cons (.nm j) .nil))) (.tup [x, y]) ρ N = N ((ρ.set i (some x)).set j (some y)) := by
  simp [G.go, Gs.go]
theorem q_par {is : List Nat} {ta : DTA} {N : DE} {ρ : Env} : dPar is ta N ρ = ta ρ fun ds => D.nbs ds = true ∧ Gs.go (gsOf is) ds ρ N.nx := rfl
theorem gs_c {i : Nat} {r : List Nat} {d : D} {ds : List D} {ρ : Env} {N : Env → Prop} : Gs.go (gsOf (i :: r)) (d :: ds) ρ N = Gs.go (gsOf r) ds (ρ.set i (some d)) N := by
  simp [gsOf, Gs.go, G.go]
theorem gs_n {ρ : Env} {N : Env → Prop} : Gs.go (gsOf []) [] ρ N = N ρ := by
  simp [gsOf, Gs.go]
theorem q_pow {a b : Int} : powD (.int a) (.int b) Q = (0 ≤ b ∧ b ≤ 1000 ∧ a.natAbs < 2 ^ 64 ∧ Q (.int (a ^ b.toNat))) := rfl
theorem isN_i : isN (.int i) = false := rfl
theorem isN_b : isN (.bl k) = false := rfl
theorem isN_s : isN (.str z) = false := rfl
theorem isN_n : isN .non = true := rfl
theorem notT : (!true) = false := rfl
theorem notF : (!false) = true := rfl
theorem eqDb : eqD (.bl k) (.bl b) = (k == b) := by
  show PyData.eqv (.bool k) (.bool b) = _
  cases k <;> cases b <;> simp [PyData.eqv]
theorem eqDs : eqD (.str z) (.str z) = true := by
  show PyData.eqv (.str z) (.str z) = _
  simp [PyData.eqv]
end
def rng? (d : D) (K : List D → Prop) : Prop := match d with
  | .int j => -1000000000000 ≤ j ∧ j ≤ 1000000000000 ∧ K (rngD 0 j)
  | _ => False
theorem for_inv {g : G} {b : DS} {N : DE} (I : Env → Prop) (hend : ∀ ρ, I ρ → N.nx ρ) : ∀ (ds : List D) (ρ : Env), I ρ → (∀ d ∈ ds, ∀ ρ, I ρ → ∀ N' : DE, (∀ ρ', I ρ' → N'.nx ρ') → (∀ ρ', I ρ' → N'.ct ρ') → N'.rt = N.rt → N'.bk = N.nx → G.go g d ρ fun ρ2 => b N' ρ2) → forGo g b N ds ρ
  | [], ρ, h, _ => hend ρ h
  | d :: ds, ρ, h, st => st d (List.mem_cons_self ..) ρ h _ (fun ρ' h' => for_inv I hend ds ρ' h' fun d hd => st d (List.mem_cons_of_mem _ hd)) (fun ρ' h' => for_inv I hend ds ρ' h' fun d hd => st d (List.mem_cons_of_mem _ hd)) rfl rfl
theorem q_for {it : DTI} {g : G} {b : DS} {N : DE} {ρ : Env} : dFor it g b N ρ = it ρ fun ds => forGo g b N ds ρ := rfl
theorem q_rng1 {a : DT} {ρ : Env} {K : List D → Prop} : dRng1 a ρ K = a ρ fun d => rng? d K := rfl
theorem q_rngI {i : Int} {K : List D → Prop} : rng? (.int i) K = (-1000000000000 ≤ i ∧ i ≤ 1000000000000 ∧ K (rngD 0 i)) := rfl
theorem at_mem {ps : List Pt} {r : Int} (h0 : 0 ≤ r) (h1 : r < ps.length) : ∃ c ∈ ps, atI (ps.map ptD) r = some (ptD c) := by
  have e : ((r.toNat : Nat) : Int) = r := by omega
  have h := ati_nat (r := ps.map ptD) (i := r.toNat) (by rw [List.length_map]; omega)
  rw [e] at h
  have hj : r.toNat < ps.length := by omega
  exact ⟨ps[r.toNat], List.getElem_mem hj, by rw [h, List.getElem?_map, List.getElem?_eq_getElem hj]; rfl⟩
theorem tup_pt {x y : Int} : D.tup [D.int x, D.int y] = ptD (x, y) := rfl
theorem vw_lO {xs : List D} : (D.lst .o xs).vw = .lst .b (D.vws xs) := rfl
theorem nb_lO {xs : List D} : (D.lst .o xs).nb = D.nbs xs := rfl
theorem vws_c {x : D} {xs : List D} : D.vws (x :: xs) = x.vw :: D.vws xs := rfl
theorem vws_n : D.vws [] = [] := rfl
theorem fz_lO {xs : List D} : (D.lst .o xs).fz = .lst .f (D.fzs xs) := rfl
theorem fz_lB {xs : List D} : (D.lst .b xs).fz = .lst .f (D.fzs xs) := rfl
theorem q_mulL {xs : List D} {k : Int} {Q : D → Prop} : mulD (.lst .o xs) (.int k) Q = (D.pfs xs = true ∧ 0 ≤ k ∧ k < 2 ^ 63 ∧ xs.length * k.toNat ≤ sizeLine ∧ Q (.lst .o (List.replicate k.toNat xs).flatten)) := rfl
theorem use_same {x : D} {n : Nat} {Q : D → Prop} (h : Pl n x) (q : Q (.bl true)) : S__law_same (n + 1) [x, x] Q := ⟨x, rfl, h, q⟩
/-- nothing is promised -/
theorem Fd.bot {P : Program} {w : World} {K : PySem.W.Frag} {mg : Str → Option Value} {base : Heap} {x qual : Str} {params : Arguments} {body : List Stmt} {scope : Scope} {f : Addr} {fd : FuncData} {ps : List Str}
    (F : FunD K x qual params body scope [] [] f fd) (gm : mg x = some (.ref f))
    (hb : ∀ (kV doc pm : Value) (an : Option Addr) (cdv ct : Value) (us : List Value), us.length = ps.length → bindArgs (PySem.W.fnOf x qual params body scope .none kV doc pm an cdv ct) ⟨us, []⟩ = pure (ps.zip us)) : Fd P w K mg base 0 x (fun _ _ => False) :=
  ⟨f, fd, ps, ⟨fun vs H Q E ⟨_, _, _, _, _, _, _, h, _⟩ => h.elim, fun A outer s H args us vs Q E hr e b r ⟨_, _, _, _, _, _, _, h, _⟩ => h.elim⟩, gm, F.kp, F.bindsN hb⟩
end DL
set_option maxHeartbeats 4000000
set_option exponentiation.threshold 50000
namespace DL
open PySem PySem.Spec PyProof.Rows L2
variable [Tb]
/-! ### ghosts: a name forgotten, a list frozen -/
def dWipe (vs : List Nat) : DS := fun N ρ => N.nx (wipeE ρ vs)
def dFrz (i : Nat) : DS := fun N ρ => match Env.at ρ i with
  | some d => N.nx (ρ.set i (some d.fz))
  | none => False
section
variable {K : PySem.W.Frag} {P : Pens} {M B : List Addr} {H : Hp} {σ : Sg} {ρ : Env} {E : Ends}
theorem Slots.wipeE (h : Slots K P M B H σ ρ) (vs : List Nat) : Slots K P M B H σ (wipeE ρ vs) := by
  obtain ⟨hl, F, f1, f2, f3, f4⟩ := h
  exact ⟨by rw [wipeE_len]; exact hl, F, fun i d e => f1 i d (wipeE_some e).1, f2, f3, f4⟩
theorem EnvNb.wipeE (h : EnvNb ρ) (vs : List Nat) : EnvNb (wipeE ρ vs) := fun i d e => h i d (wipeE_some e).1
theorem lift_wipe {vs : List Nat} {t : DS} (h : liftS K (dSeq (dWipe vs) t) E σ H) : liftS K t E σ H := by
  obtain ⟨P, M, B, ρ, N, s, sl, e, t, f⟩ := h
  exact ⟨P, M, B, _, N, s, sl.wipeE vs, e.wipeE vs, t, f⟩
theorem lift_wipeE {vs : List Nat} (h : liftS K (dWipe vs) E σ H) : tNext E σ H := by
  obtain ⟨P, M, B, ρ, N, s, sl, e, t, f⟩ := h
  exact f.nx P M H σ _ t StAft.refl s (sl.wipeE vs) (e.wipeE vs)
theorem Env.at_get' {i : Nat} {d : D} (h : Env.at ρ i = some d) : ρ[i]? = some (some d) := by
  unfold Env.at at h
  cases e : ρ[i]? with
  | none => rw [e] at h; cases h
  | some o =>
    rw [e] at h
    have : o = some d := h
    rw [this]
theorem lift_frz {i : Nat} {t : DS} (h : liftS K (dSeq (dFrz i) t) E σ H) : liftS K t E σ H := by
  obtain ⟨P, M, B, ρ, N, s, sl, e, t, f⟩ := h
  change (match Env.at ρ i with
    | some d => (_ : Env → Prop) (ρ.set i (some d.fz))
    | none => False) at t
  cases ei : Env.at ρ i with
  | none => rw [ei] at t; exact t.elim
  | some d =>
    rw [ei] at t
    have ei := Env.at_get' ei
    obtain ⟨hl, F, f1, f2, f3, f4⟩ := sl
    obtain ⟨v, ev, rv⟩ := f1 i d ei
    let M' := M.filter fun a => decide (a ∉ F i)
    have hM : ∀ a ∈ M', a ∈ M := fun a z => (List.mem_filter.mp z).1
    have hF : ∀ a ∈ M', a ∉ F i := fun a z => of_decide_eq_true (List.mem_filter.mp z).2
    have hmk : ∀ a, a ∈ M → a ∉ F i → a ∈ M' := fun a z q => List.mem_filter.mpr ⟨z, decide_eq_true q⟩
    have r := Rep.fzn (N := M') hM rv (e i d ei) (fun a z q => hF a q z)
    have s' : Stt P M' B H := ⟨s.pens.grow fun a z => .inl (hM a z), fun a z => hmk a (s.sub a z) fun q => (f2 i a q).2 z, fun a z => s.ls a (hM a z), s.tabs⟩
    have a1 : StAft P M B H P M' H := ⟨fun _ _ h _ _ => GrO.of h, fun _ z => z, fun _ z => .inl z, fun a z => .inl (hM a z), fun _ z => z, fun _ _ _ t => t⟩
    refine ⟨P, M', B, _, N, s', ⟨by rw [List.length_set]; exact hl, fun j => if j = i then [] else F j, fun j c ec => ?_, fun j a z => ?_, fun j => ?_, fun j k a z q => ?_⟩, fun j c ec => ?_, t, f.after a1⟩
    · by_cases hj : j = i
      · subst hj
        have hlt : j < ρ.length := (List.getElem?_eq_some_iff.mp ei).1
        rw [List.getElem?_set_self hlt] at ec
        injection ec with ec; injection ec with ec
        subst ec
        simp only [if_true]
        exact ⟨v, ev, r.1⟩
      · rw [List.getElem?_set_ne (fun z => hj z.symm)] at ec
        obtain ⟨v', e', r'⟩ := f1 j c ec
        simp only [if_neg hj]
        exact ⟨v', e', Rep.sub hM (fun _ z => z) r'⟩
    · by_cases hj : j = i
      · simp only [if_pos hj] at z; exact nomatch z
      · simp only [if_neg hj] at z
        exact ⟨hmk a (f2 j a z).1 fun q => hj (f4 j i a z q), (f2 j a z).2⟩
    · by_cases hj : j = i
      · simp only [if_pos hj]; exact List.nodup_nil
      · simp only [if_neg hj]; exact f3 j
    · by_cases hj : j = i
      · simp only [if_pos hj] at z; exact nomatch z
      · by_cases hk : k = i
        · simp only [if_pos hk] at q; exact nomatch q
        · simp only [if_neg hj] at z
          simp only [if_neg hk] at q
          exact f4 j k a z q
    · by_cases hj : j = i
      · subst hj
        have hlt : j < ρ.length := (List.getElem?_eq_some_iff.mp ei).1
        rw [List.getElem?_set_self hlt] at ec
        injection ec with ec; injection ec with ec
        subst ec
        exact D.pf_nb _ r.2
      · rw [List.getElem?_set_ne (fun z => hj z.symm)] at ec
        exact e j c ec
end
section
variable {X : Cx} {sts : List Stmt} {t : DS}
theorem b_wipe (vs : List Nat) (h : PDB X sts t) : PDB X sts (dSeq (dWipe vs) t) := mPSs h fun _ _ _ => lift_wipe
theorem b_nilW (vs : List Nat) : PDB X [] (dWipe vs) := mPSs pss_nil fun _ _ _ => lift_wipeE
theorem b_frz (i : Nat) (h : PDB X sts t) : PDB X sts (dSeq (dFrz i) t) := mPSs h fun _ _ _ => lift_frz
end
end DL
set_option maxHeartbeats 4000000
set_option exponentiation.threshold 50000
namespace DL
open PySem PySem.Spec PyProof.Rows L2
variable [Tb]
/-! ### typed data -/
abbrev OkS := {s : Str // PyData.strOk s = true}
section
variable {α β γ δ ε : Type}
def eI : Int → D := fun i => .int i
def eB : Bool → D := fun b => .bl b
def eS : OkS → D := fun s => .str s.1
def eU : Unit → D := fun _ => .non
def ePen : Unit → D := fun _ => .pen
def eT1 (a : α → D) : α → D := fun x => .tup [a x]
def eT2 (a : α → D) (b : β → D) : α × β → D := fun p => .tup [a p.1, b p.2]
def eT3 (a : α → D) (b : β → D) (c : γ → D) : α × β × γ → D := fun p => .tup [a p.1, b p.2.1, c p.2.2]
def eT4 (a : α → D) (b : β → D) (c : γ → D) (d : δ → D) : α × β × γ × δ → D := fun p => .tup [a p.1, b p.2.1, c p.2.2.1, d p.2.2.2]
def eT5 (a : α → D) (b : β → D) (c : γ → D) (d : δ → D) (e : ε → D) : α × β × γ × δ × ε → D := fun p => .tup [a p.1, b p.2.1, c p.2.2.1, d p.2.2.2.1, e p.2.2.2.2]
def eL (k : Fl) (e : α → D) : List α → D := fun xs => .lst k (xs.map e)
def eO (e : α → D) : Option α → D := fun o => match o with
  | none => .non
  | some x => e x
/-- frozen data without a pen -/
class Pf (e : α → D) : Prop where
  h : ∀ x, (e x).pf = true
  np : ∀ x, (e x).np = true
class Nb (e : α → D) : Prop where
  h : ∀ x, (e x).nb = true
class Np (e : α → D) : Prop where
  h : ∀ x, (e x).np = true
class No (e : α → D) : Prop where
  h : ∀ x, (e x).no = true
class Vw (e e' : α → D) : Prop where
  h : ∀ x, (e x).vw = e' x
class Fz (e e' : α → D) : Prop where
  h : ∀ x, (e x).fz = e' x
class Rt (e e' : α → D) : Prop where
  h : ∀ x, (e x).rt = e' x
class WkC (e e' : α → D) : Prop where
  h : ∀ x, (e x).wk = e' x
class FlC (b : Bool) (e : α → D) : Prop where
  h : ∀ x, (e x).fl = b
class ShC (n : Nat) (e : α → D) : Prop where
  h : ∀ x, Sh n (e x)
class NN (e : α → D) : Prop where
  h : ∀ x, isN (e x) = false
  l : ∀ x, eqD .non (e x) = false
  r : ∀ x, eqD (e x) .non = false
class EqC (e : α → D) [DecidableEq α] : Prop where
  h : ∀ x y, eqD (e x) (e y) = decide (x = y)
theorem npS {ds : List D} (h : ∀ d ∈ ds, d.np = true) : D.nps ds = true := by
  induction ds with
  | nil => rfl
  | cons d ds ih =>
    show (d.np && D.nps ds) = true
    rw [h d (List.mem_cons_self ..), ih fun x hx => h x (List.mem_cons_of_mem _ hx)]
    rfl
theorem nbS {ds : List D} (h : ∀ d ∈ ds, d.nb = true) : D.nbs ds = true := by
  induction ds with
  | nil => rfl
  | cons d ds ih =>
    show (d.nb && D.nbs ds) = true
    rw [h d (List.mem_cons_self ..), ih fun x hx => h x (List.mem_cons_of_mem _ hx)]
    rfl
theorem noS {ds : List D} (h : ∀ d ∈ ds, d.no = true) : D.nos ds = true := by
  induction ds with
  | nil => rfl
  | cons d ds ih =>
    show (d.no && D.nos ds) = true
    rw [h d (List.mem_cons_self ..), ih fun x hx => h x (List.mem_cons_of_mem _ hx)]
    rfl
theorem all_map {e : α → D} {P : D → Prop} (h : ∀ x, P (e x)) (xs : List α) : ∀ d ∈ xs.map e, P d := fun d hd => by
  obtain ⟨x, _, rfl⟩ := List.mem_map.mp hd
  exact h x
theorem vws_map {e e' : α → D} (h : ∀ x, (e x).vw = e' x) : ∀ xs : List α, D.vws (xs.map e) = xs.map e'
  | [] => rfl
  | x :: xs => by
    show (e x).vw :: D.vws (xs.map e) = _
    rw [vws_map h xs, h]
    rfl
theorem fzs_map {e e' : α → D} (h : ∀ x, (e x).fz = e' x) : ∀ xs : List α, D.fzs (xs.map e) = xs.map e'
  | [] => rfl
  | x :: xs => by
    show (e x).fz :: D.fzs (xs.map e) = _
    rw [fzs_map h xs, h]
    rfl
theorem rts_map {e e' : α → D} (h : ∀ x, (e x).rt = e' x) : ∀ xs : List α, D.rts (xs.map e) = xs.map e'
  | [] => rfl
  | x :: xs => by
    show (e x).rt :: D.rts (xs.map e) = _
    rw [rts_map h xs, h]
    rfl
theorem wks_map {e e' : α → D} (h : ∀ x, (e x).wk = e' x) : ∀ xs : List α, D.wks (xs.map e) = xs.map e'
  | [] => rfl
  | x :: xs => by
    show (e x).wk :: D.wks (xs.map e) = _
    rw [wks_map h xs, h]
    rfl
mutual
theorem D.rt_pf : ∀ d : D, d.pf = true → d.rt = d
  | .non, _ => rfl
  | .bl _, _ => rfl
  | .int _, _ => rfl
  | .str _, _ => rfl
  | .pen, _ => rfl
  | .tup xs, p => by simp only [D.rt]; rw [D.rts_pf xs (by simpa [D.pf] using p)]
  | .lst .f xs, p => rfl
  | .lst .b _, p => by simp [D.pf] at p
  | .lst .o _, p => by simp [D.pf] at p
theorem D.rts_pf : ∀ ds : List D, D.pfs ds = true → D.rts ds = ds
  | [], _ => rfl
  | d :: ds, p => by
    simp only [D.pfs, Bool.and_eq_true] at p
    simp only [D.rts]
    rw [D.rt_pf d p.1, D.rts_pf ds p.2]
end
variable {a : α → D} {b : β → D} {c : γ → D} {d : δ → D} {e : ε → D} {a' : α → D} {b' : β → D} {c' : γ → D} {d' : δ → D} {e' : ε → D}
instance : Pf eI := ⟨fun _ => rfl, fun _ => rfl⟩
instance : Pf eB := ⟨fun _ => rfl, fun _ => rfl⟩
instance : Pf eS := ⟨fun _ => rfl, fun _ => rfl⟩
instance : Pf eU := ⟨fun _ => rfl, fun _ => rfl⟩
instance [Pf a] : Pf (eT1 a) := ⟨fun x => by show (((a x).pf) && true) = true; rw [Pf.h]; rfl, fun x => by show (((a x).np) && true) = true; rw [Pf.np]; rfl⟩
instance [Pf a] [Pf b] : Pf (eT2 a b) := ⟨fun x => by show ((a x.1).pf && ((b x.2).pf && true)) = true; rw [Pf.h, Pf.h]; rfl, fun x => by show ((a x.1).np && ((b x.2).np && true)) = true; rw [Pf.np, Pf.np]; rfl⟩
instance [Pf a] [Pf b] [Pf c] : Pf (eT3 a b c) := ⟨fun x => by show ((a x.1).pf && ((b x.2.1).pf && ((c x.2.2).pf && true))) = true; rw [Pf.h, Pf.h, Pf.h]; rfl, fun x => by show ((a x.1).np && ((b x.2.1).np && ((c x.2.2).np && true))) = true; rw [Pf.np, Pf.np, Pf.np]; rfl⟩
instance [Pf a] [Pf b] [Pf c] [Pf d] : Pf (eT4 a b c d) := ⟨fun x => by show ((a x.1).pf && ((b x.2.1).pf && ((c x.2.2.1).pf && ((d x.2.2.2).pf && true)))) = true; rw [Pf.h, Pf.h, Pf.h, Pf.h]; rfl, fun x => by show ((a x.1).np && ((b x.2.1).np && ((c x.2.2.1).np && ((d x.2.2.2).np && true)))) = true; rw [Pf.np, Pf.np, Pf.np, Pf.np]; rfl⟩
instance [Pf a] [Pf b] [Pf c] [Pf d] [Pf e] : Pf (eT5 a b c d e) := ⟨fun x => by show ((a x.1).pf && ((b x.2.1).pf && ((c x.2.2.1).pf && ((d x.2.2.2.1).pf && ((e x.2.2.2.2).pf && true))))) = true; rw [Pf.h, Pf.h, Pf.h, Pf.h, Pf.h]; rfl, fun x => by show ((a x.1).np && ((b x.2.1).np && ((c x.2.2.1).np && ((d x.2.2.2.1).np && ((e x.2.2.2.2).np && true))))) = true; rw [Pf.np, Pf.np, Pf.np, Pf.np, Pf.np]; rfl⟩
instance [Pf a] : Pf (eL .f a) := ⟨fun xs => by show (true && D.pfs (xs.map a)) = true; rw [pfs_of _ (all_map Pf.h xs)]; rfl, fun xs => npS (all_map Pf.np xs)⟩
instance [Pf a] : Pf (eO a) := ⟨fun x => (by
  cases x with
  | none => rfl
  | some x => exact Pf.h (e := a) x), fun x => by
  cases x with
  | none => rfl
  | some x => exact Pf.np (e := a) x⟩
instance : Nb ePen := ⟨fun _ => rfl⟩
instance (priority := high) [Pf a] : Nb a := ⟨fun x => D.pf_nb _ (Pf.h x)⟩
instance [Nb a] : Nb (eL .o a) := ⟨fun xs => nbS (all_map Nb.h xs)⟩
instance [Nb a] : Nb (eT1 a) := ⟨fun x => nbS (by simp [Nb.h])⟩
instance [Nb a] [Nb b] : Nb (eT2 a b) := ⟨fun x => nbS (by simp [Nb.h])⟩
instance [Nb a] [Nb b] [Nb c] : Nb (eT3 a b c) := ⟨fun x => nbS (by simp [Nb.h])⟩
instance [Nb a] [Nb b] [Nb c] [Nb d] : Nb (eT4 a b c d) := ⟨fun x => nbS (by simp [Nb.h])⟩
instance [Nb a] : Nb (eO a) := ⟨fun x => by
  cases x with
  | none => rfl
  | some x => exact Nb.h (e := a) x⟩
instance (priority := high) [Pf a] : Np a := ⟨Pf.np⟩
instance {k : Fl} [Np a] : Np (eL k a) := ⟨fun xs => npS (all_map Np.h xs)⟩
instance [Np a] : Np (eT1 a) := ⟨fun x => npS (by simp [Np.h])⟩
instance [Np a] [Np b] : Np (eT2 a b) := ⟨fun x => npS (by simp [Np.h])⟩
instance [Np a] [Np b] [Np c] : Np (eT3 a b c) := ⟨fun x => npS (by simp [Np.h])⟩
instance [Np a] [Np b] [Np c] [Np d] : Np (eT4 a b c d) := ⟨fun x => npS (by simp [Np.h])⟩
instance (priority := high) [Pf a] : No a := ⟨fun x => D.no_pf _ (Pf.h x)⟩
instance [No a] : No (eL .b a) := ⟨fun xs => by show (true && D.nos (xs.map a)) = true; rw [noS (all_map No.h xs)]; rfl⟩
instance [No a] [No b] : No (eT2 a b) := ⟨fun x => noS (by simp [No.h])⟩
instance [No a] [No b] [No c] : No (eT3 a b c) := ⟨fun x => noS (by simp [No.h])⟩
/-! a look, frozen, back, weak -/
instance (priority := high) [Pf a] : Vw a a := ⟨fun x => D.vw_pf _ (Pf.h x)⟩
instance : Vw ePen ePen := ⟨fun _ => rfl⟩
instance [Vw a a'] : Vw (eL .o a) (eL .b a') := ⟨fun xs => by show D.lst .b (D.vws (xs.map a)) = _; rw [vws_map (e' := a') Vw.h]; rfl⟩
instance : Vw (eL .b a) (eL .b a) := ⟨fun _ => rfl⟩
instance : Vw (eL .f a) (eL .f a) := ⟨fun _ => rfl⟩
instance [Vw a a'] [Vw b b'] : Vw (eT2 a b) (eT2 a' b') := ⟨fun x => by show D.tup [(a x.1).vw, (b x.2).vw] = _; rw [Vw.h (e' := a'), Vw.h (e' := b')]; rfl⟩
instance [Vw a a'] [Vw b b'] [Vw c c'] : Vw (eT3 a b c) (eT3 a' b' c') := ⟨fun x => by show D.tup [(a x.1).vw, (b x.2.1).vw, (c x.2.2).vw] = _; rw [Vw.h (e' := a'), Vw.h (e' := b'), Vw.h (e' := c')]; rfl⟩
instance [Vw a a'] : Vw (eO a) (eO a') := ⟨fun x => by
  cases x with
  | none => rfl
  | some x => exact Vw.h (e := a) (e' := a') x⟩
instance (priority := high) [Pf a] : Fz a a := ⟨fun x => D.fz_pf _ (Pf.h x)⟩
instance : Fz ePen ePen := ⟨fun _ => rfl⟩
instance : Fz (eL .f a) (eL .f a) := ⟨fun _ => rfl⟩
instance [Fz a a'] : Fz (eL .o a) (eL .f a') := ⟨fun xs => by show D.lst .f (D.fzs (xs.map a)) = _; rw [fzs_map (e' := a') Fz.h]; rfl⟩
instance [Fz a a'] : Fz (eL .b a) (eL .f a') := ⟨fun xs => by show D.lst .f (D.fzs (xs.map a)) = _; rw [fzs_map (e' := a') Fz.h]; rfl⟩
instance [Fz a a'] [Fz b b'] : Fz (eT2 a b) (eT2 a' b') := ⟨fun x => by show D.tup [(a x.1).fz, (b x.2).fz] = _; rw [Fz.h (e' := a'), Fz.h (e' := b')]; rfl⟩
instance [Fz a a'] [Fz b b'] [Fz c c'] : Fz (eT3 a b c) (eT3 a' b' c') := ⟨fun x => by show D.tup [(a x.1).fz, (b x.2.1).fz, (c x.2.2).fz] = _; rw [Fz.h (e' := a'), Fz.h (e' := b'), Fz.h (e' := c')]; rfl⟩
instance [Fz a a'] : Fz (eO a) (eO a') := ⟨fun x => by
  cases x with
  | none => rfl
  | some x => exact Fz.h (e := a) (e' := a') x⟩
instance (priority := high) [Pf a] : Rt a a := ⟨fun x => D.rt_pf _ (Pf.h x)⟩
instance [Rt a a'] : Rt (eL .o a) (eL .o a') := ⟨fun xs => by show D.lst .o (D.rts (xs.map a)) = _; rw [rts_map (e' := a') Rt.h]; rfl⟩
instance [Fz a a'] : Rt (eL .b a) (eL .f a') := ⟨fun xs => by show D.lst .f (D.fzs (xs.map a)) = _; rw [fzs_map (e' := a') Fz.h]; rfl⟩
instance [Rt a a'] [Rt b b'] : Rt (eT2 a b) (eT2 a' b') := ⟨fun x => by show D.tup [(a x.1).rt, (b x.2).rt] = _; rw [Rt.h (e' := a'), Rt.h (e' := b')]; rfl⟩
instance [Rt a a'] [Rt b b'] [Rt c c'] : Rt (eT3 a b c) (eT3 a' b' c') := ⟨fun x => by show D.tup [(a x.1).rt, (b x.2.1).rt, (c x.2.2).rt] = _; rw [Rt.h (e' := a'), Rt.h (e' := b'), Rt.h (e' := c')]; rfl⟩
instance [Rt a a'] : Rt (eO a) (eO a') := ⟨fun x => by
  cases x with
  | none => rfl
  | some x => exact Rt.h (e := a) (e' := a') x⟩
instance : WkC eI eI := ⟨fun _ => rfl⟩
instance : WkC eB eB := ⟨fun _ => rfl⟩
instance : WkC eS eS := ⟨fun _ => rfl⟩
instance : WkC eU eU := ⟨fun _ => rfl⟩
instance [WkC a a'] : WkC (eL .o a) (eL .o a') := ⟨fun xs => by show D.lst .o (D.wks (xs.map a)) = _; rw [wks_map (e' := a') WkC.h]; rfl⟩
instance [WkC a a'] : WkC (eL .f a) (eL .b a') := ⟨fun xs => by show D.lst .b (D.wks (xs.map a)) = _; rw [wks_map (e' := a') WkC.h]; rfl⟩
instance [WkC a a'] [WkC b b'] : WkC (eT2 a b) (eT2 a' b') := ⟨fun x => by show D.tup [(a x.1).wk, (b x.2).wk] = _; rw [WkC.h (e' := a'), WkC.h (e' := b')]; rfl⟩
instance [WkC a a'] [WkC b b'] [WkC c c'] : WkC (eT3 a b c) (eT3 a' b' c') := ⟨fun x => by show D.tup [(a x.1).wk, (b x.2.1).wk, (c x.2.2).wk] = _; rw [WkC.h (e' := a'), WkC.h (e' := b'), WkC.h (e' := c')]; rfl⟩
instance [WkC a a'] : WkC (eO a) (eO a') := ⟨fun x => by
  cases x with
  | none => rfl
  | some x => exact WkC.h (e := a) (e' := a') x⟩
instance : FlC true eI := ⟨fun _ => rfl⟩
instance : FlC true eB := ⟨fun _ => rfl⟩
instance : FlC true eS := ⟨fun _ => rfl⟩
instance : FlC true eU := ⟨fun _ => rfl⟩
instance : FlC true ePen := ⟨fun _ => rfl⟩
instance : FlC true (eL .f a) := ⟨fun _ => rfl⟩
instance : FlC false (eL .o a) := ⟨fun _ => rfl⟩
instance : FlC false (eL .b a) := ⟨fun _ => rfl⟩
instance [FlC true a] [FlC true b] : FlC true (eT2 a b) := ⟨fun x => by show ((a x.1).fl && ((b x.2).fl && true)) = true; rw [FlC.h (b := true), FlC.h (b := true)]; rfl⟩
instance [FlC true a] [FlC true b] [FlC true c] : FlC true (eT3 a b c) := ⟨fun x => by show ((a x.1).fl && ((b x.2.1).fl && ((c x.2.2).fl && true))) = true; rw [FlC.h (b := true), FlC.h (b := true), FlC.h (b := true)]; rfl⟩
instance [FlC true a] : FlC true (eO a) := ⟨fun x => by
  cases x with
  | none => rfl
  | some x => exact FlC.h (b := true) (e := a) x⟩
/-! storeys -/
theorem sh_tup {n : Nat} {ds : List D} (h : ∀ x ∈ ds, Sh n x) : Sh (n + 1) (.tup ds) := by
  unfold Sh
  exact h
theorem sh_lst {n : Nat} {k : Fl} {ds : List D} (h : ∀ x ∈ ds, Sh n x) : Sh (n + 1) (.lst k ds) := by
  unfold Sh
  exact h
instance {n : Nat} : ShC n eI := ⟨fun _ => sh_int⟩
instance {n : Nat} : ShC n eB := ⟨fun _ => sh_bl⟩
instance {n : Nat} : ShC n eS := ⟨fun x => by cases n <;> (show Sh _ (.str x.1)) <;> (unfold Sh; exact x.2)⟩
instance {n : Nat} : ShC n eU := ⟨fun x => by cases n <;> (show Sh _ .non) <;> (unfold Sh; trivial)⟩
instance {n : Nat} [ShC n a] : ShC (n + 1) (eT1 a) := ⟨fun x => sh_tup (by simp [ShC.h])⟩
instance {n : Nat} [ShC n a] [ShC n b] : ShC (n + 1) (eT2 a b) := ⟨fun x => sh_tup (by simp [ShC.h])⟩
instance {n : Nat} [ShC n a] [ShC n b] [ShC n c] : ShC (n + 1) (eT3 a b c) := ⟨fun x => sh_tup (by simp [ShC.h])⟩
instance {n : Nat} [ShC n a] [ShC n b] [ShC n c] [ShC n d] : ShC (n + 1) (eT4 a b c d) := ⟨fun x => sh_tup (by simp [ShC.h])⟩
instance {n : Nat} [ShC n a] [ShC n b] [ShC n c] [ShC n d] [ShC n e] : ShC (n + 1) (eT5 a b c d e) := ⟨fun x => sh_tup (by simp [ShC.h])⟩
instance {n : Nat} {k : Fl} [ShC n a] : ShC (n + 1) (eL k a) := ⟨fun xs => sh_lst (all_map ShC.h xs)⟩
instance {n : Nat} [ShC n a] : ShC n (eO a) := ⟨fun x => by
  cases x with
  | none => exact (inferInstance : ShC n eU).h ()
  | some x => exact ShC.h x⟩
instance : NN eI := ⟨fun _ => rfl, fun _ => rfl, fun _ => rfl⟩
instance : NN eB := ⟨fun _ => rfl, fun _ => rfl, fun _ => rfl⟩
instance : NN eS := ⟨fun _ => rfl, fun _ => rfl, fun _ => rfl⟩
instance : NN (eT1 a) := ⟨fun _ => rfl, fun _ => rfl, fun _ => rfl⟩
instance : NN (eT2 a b) := ⟨fun _ => rfl, fun _ => rfl, fun _ => rfl⟩
instance : NN (eT3 a b c) := ⟨fun _ => rfl, fun _ => rfl, fun _ => rfl⟩
instance : NN (eT4 a b c d) := ⟨fun _ => rfl, fun _ => rfl, fun _ => rfl⟩
instance : NN (eT5 a b c d e) := ⟨fun _ => rfl, fun _ => rfl, fun _ => rfl⟩
instance {k : Fl} : NN (eL k a) := ⟨fun _ => rfl, fun _ => rfl, fun _ => rfl⟩
/-! == -/
theorem eqD_tup {xs ys : List D} : eqD (.tup xs) (.tup ys) = PyData.eqvAll (D.pys xs) (D.pys ys) := rfl
theorem eqD_lst {k k' : Fl} {xs ys : List D} : eqD (.lst k xs) (.lst k' ys) = PyData.eqvAll (D.pys xs) (D.pys ys) := rfl
theorem eqA_c {x y : D} {xs ys : List D} : PyData.eqvAll (D.pys (x :: xs)) (D.pys (y :: ys)) = (eqD x y && PyData.eqvAll (D.pys xs) (D.pys ys)) := rfl
theorem eqA_n : PyData.eqvAll (D.pys []) (D.pys []) = true := rfl
instance : EqC eI := ⟨fun _ _ => eqD_int⟩
instance : EqC eB := ⟨fun x y => by show eqD (.bl x) (.bl y) = _; rw [eqDb]; cases x <;> cases y <;> rfl⟩
theorem eqD_str {x y : Str} : eqD (.str x) (.str y) = decide (x = y) := by
  show PyData.eqv (.str x) (.str y) = _
  unfold PyData.eqv
  by_cases h : x = y
  · subst h; simp
  · have : (x == y) = false := by
      cases e : x == y
      · rfl
      · exact absurd (by simpa using e) h
    rw [this, decide_eq_false h]
instance : EqC eS := ⟨fun x y => by show eqD (.str x.1) (.str y.1) = _; rw [eqD_str]; exact decide_eq_decide.mpr Subtype.ext_iff.symm⟩
instance : EqC eU := ⟨fun _ _ => rfl⟩
variable [DecidableEq α] [DecidableEq β] [DecidableEq γ] [DecidableEq δ] [DecidableEq ε]
instance [EqC a] : EqC (eT1 a) := ⟨fun x y => by show eqD (.tup [a x]) (.tup [a y]) = _; rw [eqD_tup, eqA_c, eqA_n, EqC.h, Bool.and_true]⟩
instance [EqC a] [EqC b] : EqC (eT2 a b) := ⟨fun x y => by
  show eqD (.tup [a x.1, b x.2]) (.tup [a y.1, b y.2]) = _
  rw [eqD_tup, eqA_c, eqA_c, eqA_n, EqC.h, EqC.h, Bool.and_true, ← Bool.decide_and]; exact decide_eq_decide.mpr (by rw [Prod.ext_iff])⟩
instance [EqC a] [EqC b] [EqC c] : EqC (eT3 a b c) := ⟨fun x y => by
  show eqD (.tup [a x.1, b x.2.1, c x.2.2]) (.tup [a y.1, b y.2.1, c y.2.2]) = _
  rw [eqD_tup, eqA_c, eqA_c, eqA_c, eqA_n, EqC.h, EqC.h, EqC.h, Bool.and_true, ← Bool.decide_and, ← Bool.decide_and]; exact decide_eq_decide.mpr (by rw [Prod.ext_iff, Prod.ext_iff])⟩
instance [EqC a] [EqC b] [EqC c] [EqC d] : EqC (eT4 a b c d) := ⟨fun x y => by
  show eqD (.tup [a x.1, b x.2.1, c x.2.2.1, d x.2.2.2]) (.tup [a y.1, b y.2.1, c y.2.2.1, d y.2.2.2]) = _
  rw [eqD_tup, eqA_c, eqA_c, eqA_c, eqA_c, eqA_n, EqC.h, EqC.h, EqC.h, EqC.h, Bool.and_true, ← Bool.decide_and, ← Bool.decide_and, ← Bool.decide_and]; exact decide_eq_decide.mpr (by rw [Prod.ext_iff, Prod.ext_iff, Prod.ext_iff])⟩
theorem eqA_map [EqC a] : ∀ xs ys : List α, PyData.eqvAll (D.pys (xs.map a)) (D.pys (ys.map a)) = decide (xs = ys)
  | [], [] => by simp [eqA_n]
  | [], y :: ys => rfl
  | x :: xs, [] => rfl
  | x :: xs, y :: ys => by
    show PyData.eqvAll (D.pys (a x :: xs.map a)) (D.pys (a y :: ys.map a)) = _
    rw [eqA_c, eqA_map xs ys, EqC.h, ← Bool.decide_and]
    exact decide_eq_decide.mpr (by rw [List.cons.injEq])
theorem eqA_map2 {e e' : α → D} (h : ∀ x y, eqD (e x) (e' y) = decide (x = y)) : ∀ xs ys : List α, PyData.eqvAll (D.pys (xs.map e)) (D.pys (ys.map e')) = decide (xs = ys)
  | [], [] => by simp [eqA_n]
  | [], y :: ys => rfl
  | x :: xs, [] => rfl
  | x :: xs, y :: ys => by
    show PyData.eqvAll (D.pys (e x :: xs.map e)) (D.pys (e' y :: ys.map e')) = _
    rw [eqA_c, eqA_map2 h xs ys, h, ← Bool.decide_and]
    exact decide_eq_decide.mpr (by rw [List.cons.injEq])
instance {k : Fl} [EqC a] : EqC (eL k a) := ⟨fun xs ys => by show eqD (.lst k (xs.map a)) (.lst k (ys.map a)) = _; rw [eqD_lst, eqA_map]⟩
/-- == of alike data, whoever owns them -/
class EqX (e e' : α → D) : Prop where
  h : ∀ x y, eqD (e x) (e' y) = decide (x = y)
instance [EqC a] : EqX a a := ⟨EqC.h⟩
instance {k k' : Fl} [EqX a a'] : EqX (eL k a) (eL k' a') := ⟨fun xs ys => by show eqD (.lst k (xs.map a)) (.lst k' (ys.map a')) = _; rw [eqD_lst, eqA_map2 EqX.h]⟩
instance [EqX a a'] [EqX b b'] : EqX (eT2 a b) (eT2 a' b') := ⟨fun x y => by
  show eqD (.tup [a x.1, b x.2]) (.tup [a' y.1, b' y.2]) = _
  rw [eqD_tup, eqA_c, eqA_c, eqA_n, EqX.h, EqX.h, Bool.and_true, ← Bool.decide_and]; exact decide_eq_decide.mpr (by rw [Prod.ext_iff])⟩
instance [EqC a] [NN a] : EqC (eO a) := ⟨fun x y => by
  cases x with
  | none =>
    cases y with
    | none => rfl
    | some y =>
      show eqD .non (a y) = _
      rw [NN.l]; rfl
  | some x =>
    cases y with
    | none =>
      show eqD (a x) .non = _
      rw [NN.r]; rfl
    | some y =>
      show eqD (a x) (a y) = _
      rw [EqC.h]; exact decide_eq_decide.mpr (by simp)⟩
end
end DL
set_option maxHeartbeats 4000000
set_option exponentiation.threshold 50000
namespace DL
open PySem PySem.Spec PyProof.Rows L2
variable [Tb]
/-! ### typed rules: what has one answer -/
def Ev (t : DT) (ρ : Env) (d : D) : Prop := ∀ Q : D → Prop, Q d → t ρ Q
def EvT (t : DTT) (ρ : Env) (k : Bool) : Prop := ∀ Q : Bool → Prop, Q k → t ρ Q
def EvA (t : DTA) (ρ : Env) (ds : List D) : Prop := ∀ Q : List D → Prop, Q ds → t ρ Q
def EvI (t : DTI) (ρ : Env) (ds : List D) : Prop := ∀ Q : List D → Prop, Q ds → t ρ Q
/-- an operation's answer -/
abbrev Op (o : DO) (xs : List D) (d : D) : Prop := ∀ Q : D → Prop, Q d → o xs Q
section
variable {α β γ δ : Type} {ρ : Env} {ta tb tc te : DT} {tr : DTA} {o : DO} {x y d d' : D} {xs ds ds' : List D} {k k1 k2 : Bool} {ca cb : DTT} {i j : Int}
theorem ev_var (n : Nat) {e e' : α → D} {v : α} [Vw e e'] (h : Env.at ρ n = some (e v)) : Ev (dVar n) ρ (e' v) := fun Q q => by
  unfold dVar
  rw [h]
  show Q (e v).vw
  rw [Vw.h (e' := e')]
  exact q
theorem ev_c : Ev (dC d) ρ d := fun _ q => q
theorem ev_bin (ha : Ev ta ρ x) (hb : Ev tb ρ y) (ho : Op o [x, y] d) : Ev (dBin o ta tb) ρ d := fun Q q => ha _ (hb _ (ho Q q))
theorem ev_un (ha : Ev ta ρ x) (ho : Op o [x] d) : Ev (dUn o ta) ρ d := fun Q q => ha _ (ho Q q)
theorem ev_call (ha : EvA tr ρ xs) (ho : Op o xs d) : Ev (dCall o tr) ρ d := fun Q q => ha _ (ho Q q)
theorem ea_nil : EvA dNil ρ [] := fun _ q => q
theorem ea_cons (ha : Ev ta ρ x) (hr : EvA tr ρ xs) : EvA (dCons ta tr) ρ (x :: xs) := fun Q q => ha _ (hr _ q)
theorem ev_tup (h : EvA tr ρ xs) (hl : xs.length ≤ 1000) : Ev (dTup tr) ρ (.tup xs) := fun Q q => h _ ⟨hl, q⟩
theorem ev_lst (h : EvA tr ρ xs) (hl : xs.length ≤ 1000) : Ev (dLst tr) ρ (.lst .o xs) := fun Q q => h _ ⟨hl, q⟩
theorem ev_if {e : α → D} {u v : α} (hc : EvT ca ρ k) (ha : k = true → Ev ta ρ (e u)) (hb : k = false → Ev tb ρ (e v)) : Ev (dIf ca ta tb) ρ (e (if k = true then u else v)) := fun Q q => hc _ (by
  cases k with
  | true => exact ha rfl Q q
  | false => exact hb rfl Q q)
theorem ev_and (ha : Ev ta ρ (eB k1)) (hb : k1 = true → Ev tb ρ (eB k2)) : Ev (dAnd ta tb) ρ (eB (k1 && k2)) := fun Q q => ha _ (by
  cases k1 with
  | true => exact hb rfl Q q
  | false => exact q)
theorem ev_or (ha : Ev ta ρ (eB k1)) (hb : k1 = false → Ev tb ρ (eB k2)) : Ev (dOr ta tb) ρ (eB (k1 || k2)) := fun Q q => ha _ (by
  cases k1 with
  | true => exact q
  | false => exact hb rfl Q q)
theorem ev_not (ha : Ev ta ρ (eB k)) : Ev (dNot ta) ρ (eB (!k)) := fun Q q => ha _ q
theorem ev_chain {f g : D2} {z : D} (ha : Ev ta ρ x) (hb : Ev tb ρ y) (ho : Op (o2 f) [x, y] (eB k1)) (hc : k1 = true → Ev tc ρ z) (hp : k1 = true → Op (o2 g) [y, z] (eB k2)) : Ev (dChain f g ta tb tc) ρ (eB (k1 && k2)) := fun Q q => ha _ (hb _ (ho _ (by
  cases k1 with
  | true => exact hc rfl _ (hp rfl Q q)
  | false => exact q)))
/-! tests -/
theorem et_b (h : Ev ta ρ (eB k)) : EvT (dB ta) ρ k := fun Q q => h _ q
theorem et_tru (h : Ev ta ρ d) (ht : ∀ Q : Bool → Prop, Q k → truD d Q) : EvT (dTru ta) ρ k := fun Q q => h _ (ht Q q)
theorem et_and (ha : EvT ca ρ k1) (hb : k1 = true → EvT cb ρ k2) : EvT (dAndT ca cb) ρ (k1 && k2) := fun Q q => ha _ (by
  cases k1 with
  | true => exact hb rfl Q q
  | false => exact q)
theorem et_or (ha : EvT ca ρ k1) (hb : k1 = false → EvT cb ρ k2) : EvT (dOrT ca cb) ρ (k1 || k2) := fun Q q => ha _ (by
  cases k1 with
  | true => exact q
  | false => exact hb rfl Q q)
theorem et_not (ha : EvT ca ρ k) : EvT (dNotT ca) ρ (!k) := fun Q q => ha _ q
theorem tru_b (Q : Bool → Prop) (q : Q k) : truD (eB k) Q := q
theorem tru_i (Q : Bool → Prop) (q : Q (i != 0)) : truD (eI i) Q := q
theorem tru_l {e : α → D} {f : Fl} {l : List α} (Q : Bool → Prop) (q : Q (!l.isEmpty)) : truD (eL f e l) Q := by
  show Q (!(l.map e).isEmpty)
  cases l <;> exact q
/-! operations -/
theorem o_add : Op (o2 addD) [eI i, eI j] (eI (i + j)) := fun _ q => q
theorem o_sub : Op (o2 subD) [eI i, eI j] (eI (i - j)) := fun _ q => q
theorem o_mul (h : MulOk i j) : Op (o2 mulD) [eI i, eI j] (eI (i * j)) := fun _ q => ⟨h, q⟩
theorem o_fdiv (h : DivOk j) : Op (o2 fdivD) [eI i, eI j] (eI (i / j)) := fun _ q => ⟨h, q⟩
theorem o_mod (h : 0 < j) : Op (o2 modD) [eI i, eI j] (eI (i % j)) := fun _ q => ⟨h, q⟩
theorem o_pow (h : 0 ≤ j ∧ j ≤ 1000 ∧ i.natAbs < 2 ^ 64) : Op (o2 powD) [eI i, eI j] (eI (i ^ j.toNat)) := fun _ q => ⟨h.1, h.2.1, h.2.2, q⟩
theorem o_neg : Op (o1 negD) [eI i] (eI (-i)) := fun _ q => q
theorem o_lt : Op (o2 (ordO fun i j => decide (i < j))) [eI i, eI j] (eB (decide (i < j))) := fun _ q => q
theorem o_le : Op (o2 (ordO fun i j => decide (i ≤ j))) [eI i, eI j] (eB (decide (i ≤ j))) := fun _ q => q
theorem o_gt : Op (o2 (ordO fun i j => decide (j < i))) [eI i, eI j] (eB (decide (i > j))) := fun _ q => q
theorem o_ge : Op (o2 (ordO fun i j => decide (j ≤ i))) [eI i, eI j] (eB (decide (i ≥ j))) := fun _ q => q
theorem o_eq {e e' : α → D} [DecidableEq α] [EqX e e'] [ShC 60 e] [ShC 60 e'] {u v : α} : Op (o2 (eqO id)) [e u, e' v] (eB (decide (u = v))) := fun Q q => ⟨ShC.h u, ShC.h v, by rw [EqX.h]; exact q⟩
theorem o_ne {e e' : α → D} [DecidableEq α] [EqX e e'] [ShC 60 e] [ShC 60 e'] {u v : α} : Op (o2 (eqO not)) [e u, e' v] (eB (!decide (u = v))) := fun Q q => ⟨ShC.h u, ShC.h v, by rw [EqX.h]; exact q⟩
theorem o_isn {e : α → D} [NN e] {v : Option α} : Op (o2 (isO id)) [eO e v, eU ()] (eB v.isNone) := fun Q q => by
  show isO id (eO e v) .non Q
  rw [q_isn]
  cases v with
  | none => exact q
  | some v =>
    show Q (.bl (id (isN (e v))))
    rw [NN.h]; exact q
theorem o_isnn {e : α → D} [NN e] {v : Option α} : Op (o2 (isO not)) [eO e v, eU ()] (eB v.isSome) := fun Q q => by
  show isO not (eO e v) .non Q
  rw [q_isn]
  cases v with
  | none => exact q
  | some v =>
    show Q (.bl (not (isN (e v))))
    rw [NN.h]; exact q
theorem any_dec {e e' : α → D} [DecidableEq α] [EqX e' e] {u : α} {l : List α} : ((l.map e').any fun z => eqD z (e u)) = decide (u ∈ l) := by
  induction l with
  | nil => rfl
  | cons a l ih =>
    rw [List.map_cons, List.any_cons, ih, EqX.h, ← Bool.decide_or]
    exact decide_eq_decide.mpr (by rw [List.mem_cons]; exact or_congr_left eq_comm)
theorem dec_eq {p : Prop} {d1 d2 : Decidable p} : @decide p d1 = @decide p d2 := by congr
theorem o_inL {e e' : α → D} [DecidableEq α] [EqX e' e] [ShC 60 e] [ShC 58 e'] {f : Fl} {u : α} {l : List α} [dm : Decidable (u ∈ l)] : Op (o2 (inO id)) [e u, eL f e' l] (eB (decide (u ∈ l))) := fun Q q => by
  show inO id (e u) (.lst f (l.map e')) Q
  rw [q_inL]
  exact ⟨ShC.h u, all_map ShC.h l, by rw [any_dec, dec_eq]; exact q⟩
theorem o_ninL {e e' : α → D} [DecidableEq α] [EqX e' e] [ShC 60 e] [ShC 58 e'] {f : Fl} {u : α} {l : List α} [dm : Decidable (u ∈ l)] : Op (o2 (inO not)) [e u, eL f e' l] (eB (!decide (u ∈ l))) := fun Q q => by
  show inO not (e u) (.lst f (l.map e')) Q
  rw [q_inL]
  exact ⟨ShC.h u, all_map ShC.h l, by rw [any_dec, dec_eq]; exact q⟩
theorem o_inT {e : α → D} [DecidableEq α] [EqC e] [ShC 60 e] [ShC 58 e] {u : α} (l : List α) [dm : Decidable (u ∈ l)] (h : ds = l.map e) : Op (o2 (inO id)) [e u, .tup ds] (eB (decide (u ∈ l))) := fun Q q => by
  subst h
  show inO id (e u) (.tup (l.map e)) Q
  rw [q_inT]
  exact ⟨ShC.h u, all_map ShC.h l, by rw [any_dec (e' := e), dec_eq]; exact q⟩
theorem o_ninT {e : α → D} [DecidableEq α] [EqC e] [ShC 60 e] [ShC 58 e] {u : α} (l : List α) [dm : Decidable (u ∈ l)] (h : ds = l.map e) : Op (o2 (inO not)) [e u, .tup ds] (eB (!decide (u ∈ l))) := fun Q q => by
  subst h
  show inO not (e u) (.tup (l.map e)) Q
  rw [q_inT]
  exact ⟨ShC.h u, all_map ShC.h l, by rw [any_dec (e' := e), dec_eq]; exact q⟩
/-- the item at a place -/
def gI [Inhabited α] (l : List α) (i : Int) : α := (atI l i).getD default
theorem ati_map {e : α → D} {l : List α} : atI (l.map e) i = (atI l i).map e := by
  unfold atI
  rw [List.length_map]
  cases ixN l.length i with
  | none => rfl
  | some j => simp
theorem o_ixL {e : α → D} [Inhabited α] {f : Fl} {l : List α} (h : (atI l i).isSome = true) : Op (o2 ixD) [eL f e l, eI i] (e (gI l i)) := fun Q q => by
  show ixD (.lst f (l.map e)) (.int i) Q
  rw [q_ixL, ati_map]
  unfold gI at q
  cases ea : atI l i with
  | none => rw [ea] at h; cases h
  | some v => rw [ea] at q; exact q
theorem o_ixT (h : atI ds i = some d) : Op (o2 ixD) [.tup ds, eI i] d := fun Q q => by
  show ixD (.tup ds) (.int i) Q
  rw [q_ixT, h]
  exact q
theorem o_addL {e : α → D} {f g : Fl} {l m : List α} (h : l.length + m.length ≤ sizeLine) : Op (o2 addD) [eL f e l, eL g e m] (eL .o e (l ++ m)) := fun Q q => by
  refine ⟨by simpa using h, ?_⟩
  rw [← List.map_append]
  exact q
/-! built-ins -/
theorem o_lenL {e : α → D} {f : Fl} {l : List α} : Op (o1 lenD) [eL f e l] (eI l.length) := fun Q q => by
  show Q (.int (l.map e).length)
  rw [List.length_map]; exact q
theorem o_intI : Op (o1 intD) [eI i] (eI i) := fun _ q => q
theorem o_intB : Op (o1 intD) [eB k] (eI (if k = true then 1 else 0)) := fun _ q => q
def absI (i : Int) : Int := if i < 0 then -i else i
def mxI (i j : Int) : Int := if j > i then j else i
def mnI (i j : Int) : Int := if j < i then j else i
theorem o_abs : Op (o1 absD) [eI i] (eI (absI i)) := fun _ q => q
theorem o_max2 : Op (o2 max2D) [eI i, eI j] (eI (mxI i j)) := fun _ q => q
theorem o_min2 : Op (o2 min2D) [eI i, eI j] (eI (mnI i j)) := fun _ q => q
theorem o_all {f : Fl} {l : List Bool} : Op (o1 allD) [eL f eB l] (eB (l.all id)) := fun Q q => by
  show allD (.lst f (l.map fun x => .bl (id x))) Q
  rw [q_allM]; exact q
theorem o_any {f : Fl} {l : List Bool} : Op (o1 anyD) [eL f eB l] (eB (l.any id)) := fun Q q => by
  show anyD (.lst f (l.map fun x => .bl (id x))) Q
  rw [q_anyM]; exact q
theorem ints_map : ∀ l : List Int, intsD (l.map eI) = some l
  | [] => rfl
  | x :: l => by
    show (intsD (l.map eI)).map (x :: ·) = _
    rw [ints_map l]; rfl
theorem o_sum {f : Fl} {l : List Int} : Op (o1 sumD) [eL f eI l] (eI l.sum) := fun Q q => by
  show (match intsD (l.map eI) with | some ns => Q (.int ns.sum) | none => False)
  rw [ints_map]; exact q
def maxL (l : List Int) : Int := l.foldl (fun a b => if b > a then b else a) (l.headD 0)
def minL (l : List Int) : Int := l.foldl (fun a b => if b < a then b else a) (l.headD 0)
theorem foldl_max : ∀ (l : List Int) (a : Int), (a ≤ l.foldl (fun a b => if b > a then b else a) a ∧ ∀ y ∈ l, y ≤ l.foldl (fun a b => if b > a then b else a) a) ∧ (l.foldl (fun a b => if b > a then b else a) a = a ∨ l.foldl (fun a b => if b > a then b else a) a ∈ l)
  | [], a => ⟨⟨Int.le_refl _, fun _ z => nomatch z⟩, .inl rfl⟩
  | b :: l, a => by
    rw [List.foldl_cons]
    obtain ⟨⟨h1, h2⟩, h3⟩ := foldl_max l (if b > a then b else a)
    have hab : a ≤ (if b > a then b else a) ∧ b ≤ (if b > a then b else a) := by split <;> omega
    refine ⟨⟨by omega, fun y hy => ?_⟩, ?_⟩
    · rcases List.mem_cons.mp hy with e | z
      · rw [e]; omega
      · exact h2 y z
    · rcases h3 with h | h
      · rw [h]
        split
        · exact .inr (List.mem_cons_self ..)
        · exact .inl rfl
      · exact .inr (List.mem_cons_of_mem _ h)
theorem foldl_min : ∀ (l : List Int) (a : Int), (l.foldl (fun a b => if b < a then b else a) a ≤ a ∧ ∀ y ∈ l, l.foldl (fun a b => if b < a then b else a) a ≤ y) ∧ (l.foldl (fun a b => if b < a then b else a) a = a ∨ l.foldl (fun a b => if b < a then b else a) a ∈ l)
  | [], a => ⟨⟨Int.le_refl _, fun _ z => nomatch z⟩, .inl rfl⟩
  | b :: l, a => by
    rw [List.foldl_cons]
    obtain ⟨⟨h1, h2⟩, h3⟩ := foldl_min l (if b < a then b else a)
    have hab : (if b < a then b else a) ≤ a ∧ (if b < a then b else a) ≤ b := by split <;> omega
    refine ⟨⟨by omega, fun y hy => ?_⟩, ?_⟩
    · rcases List.mem_cons.mp hy with e | z
      · rw [e]; omega
      · exact h2 y z
    · rcases h3 with h | h
      · rw [h]
        split
        · exact .inr (List.mem_cons_self ..)
        · exact .inl rfl
      · exact .inr (List.mem_cons_of_mem _ h)
theorem maxL_spec {l : List Int} (h : l ≠ []) : maxL l ∈ l ∧ ∀ y ∈ l, y ≤ maxL l := by
  cases l with
  | nil => exact absurd rfl h
  | cons a l =>
    obtain ⟨⟨h1, h2⟩, h3⟩ := foldl_max l a
    have e : maxL (a :: l) = l.foldl (fun a b => if b > a then b else a) a := by
      unfold maxL
      rw [List.headD_cons, List.foldl_cons, if_neg (Int.lt_irrefl a)]
    rw [e]
    refine ⟨?_, fun y hy => ?_⟩
    · rcases h3 with z | z
      · rw [z]; exact List.mem_cons_self ..
      · exact List.mem_cons_of_mem _ z
    · rcases List.mem_cons.mp hy with z | z
      · rw [z]; exact h1
      · exact h2 y z
theorem minL_spec {l : List Int} (h : l ≠ []) : minL l ∈ l ∧ ∀ y ∈ l, minL l ≤ y := by
  cases l with
  | nil => exact absurd rfl h
  | cons a l =>
    obtain ⟨⟨h1, h2⟩, h3⟩ := foldl_min l a
    have e : minL (a :: l) = l.foldl (fun a b => if b < a then b else a) a := by
      unfold minL
      rw [List.headD_cons, List.foldl_cons, if_neg (Int.lt_irrefl a)]
    rw [e]
    refine ⟨?_, fun y hy => ?_⟩
    · rcases h3 with z | z
      · rw [z]; exact List.mem_cons_self ..
      · exact List.mem_cons_of_mem _ z
    · rcases List.mem_cons.mp hy with z | z
      · rw [z]; exact h1
      · exact h2 y z
theorem o_maxL {f : Fl} {l : List Int} (h : l ≠ []) : Op (o1 maxD) [eL f eI l] (eI (maxL l)) := fun Q q => by
  show (match intsD (l.map eI) with | some ns => 0 < ns.length ∧ ∀ m, m ∈ ns → (∀ y, y ∈ ns → y ≤ m) → Q (.int m) | none => False)
  rw [ints_map]
  refine ⟨List.length_pos_iff.mpr h, fun m hm hy => ?_⟩
  have s := maxL_spec h
  have : m = maxL l := Int.le_antisymm (s.2 m hm) (hy _ s.1)
  rw [this]; exact q
theorem o_minL {f : Fl} {l : List Int} (h : l ≠ []) : Op (o1 minD) [eL f eI l] (eI (minL l)) := fun Q q => by
  show (match intsD (l.map eI) with | some ns => 0 < ns.length ∧ ∀ m, m ∈ ns → (∀ y, y ∈ ns → m ≤ y) → Q (.int m) | none => False)
  rw [ints_map]
  refine ⟨List.length_pos_iff.mpr h, fun m hm hy => ?_⟩
  have s := minL_spec h
  have : m = minL l := Int.le_antisymm (hy _ s.1) (s.2 m hm)
  rw [this]; exact q
theorem o_list {e : α → D} {f : Fl} {l : List α} : Op (o1 listD) [eL f e l] (eL .o e l) := fun _ q => q
/-! sorting -/
class OrdC (e : α → D) (le : outParam (α → α → Bool)) : Prop where
  h : ∀ x y, leD (e x) (e y) = le x y
  al : ∀ x y, alikeD (e x) (e y) = true
  ok : (∀ x, ∃ y r, e x = .tup (y :: r)) ∨ ∀ x, e x ≠ .non ∧ e x ≠ .pen ∧ ∀ ys, e x ≠ .tup ys
theorem sort_map {e : α → D} {le : α → α → Bool} [OrdC e le] (l : List α) : (l.map e).mergeSort leD = (l.mergeSort le).map e := (List.map_mergeSort (r := le) (s := leD) (f := e) (l := l) (fun a _ b _ => (OrdC.h a b).symm)).symm
theorem okSort_map {e : α → D} {le : α → α → Bool} [OrdC e le] (l : List α) : okSort (l.map e) := by
  refine ⟨fun x hx y hy => ?_, ?_⟩
  · obtain ⟨a, _, rfl⟩ := List.mem_map.mp hx
    obtain ⟨b, _, rfl⟩ := List.mem_map.mp hy
    exact OrdC.al a b
  · rcases OrdC.ok (e := e) with h | h
    · exact .inl fun x hx => by
        obtain ⟨a, _, rfl⟩ := List.mem_map.mp hx
        exact h a
    · exact .inr fun x hx => by
        obtain ⟨a, _, rfl⟩ := List.mem_map.mp hx
        exact h a
theorem o_sort {e : α → D} {le : α → α → Bool} [OrdC e le] [ShC 50 e] [No e] {f : Fl} {l : List α} : Op (o1 sortD) [eL f e l] (eL .o e (l.mergeSort le)) := fun Q q => by
  refine ⟨all_map ShC.h l, noS (all_map No.h l), okSort_map l, ?_⟩
  rw [sort_map]; exact q
theorem o_sortT {e : α → D} {le : α → α → Bool} [OrdC e le] [ShC 50 e] [No e] (l : List α) (h : ds = l.map e) : Op (o1 sortD) [.tup ds] (eL .o e (l.mergeSort le)) := fun Q q => by
  subst h
  refine ⟨all_map ShC.h l, noS (all_map No.h l), okSort_map l, ?_⟩
  rw [sort_map]; exact q
/-! calls of defs -/
theorem fz_n : D.fzs [] = [] := rfl
theorem fz_c {x x' : D} (h : x.fz = x') (hs : D.fzs ds = ds') : D.fzs (x :: ds) = x' :: ds' := by
  show x.fz :: D.fzs ds = _
  rw [h, hs]
theorem fl_n : D.fls [] = true := rfl
theorem fl_c (h : x.fl = true) (hs : D.fls ds = true) : D.fls (x :: ds) = true := by
  show (x.fl && D.fls ds) = true
  rw [h, hs]; rfl
theorem fl_f (h : x.fl = false) : D.fls (x :: ds) = false := by
  show (x.fl && D.fls ds) = false
  rw [h]; rfl
theorem fl_g (h : x.fl = true) (hs : D.fls ds = false) : D.fls (x :: ds) = false := by
  show (x.fl && D.fls ds) = false
  rw [h, hs]; rfl
theorem ev_fn {S : DSpec} (ha : EvA tr ρ ds) (hz : D.fzs ds = ds') (hf : D.fls ds = true) (hs : ∀ Q : D → Prop, Q d → S ds' Q) : Ev (dFn S tr) ρ d := fun Q q => ha _ (by
  show S (D.fzs ds) _
  rw [hz]
  exact hs _ (by rw [if_pos hf]; exact q))
theorem ev_fnw {S : DSpec} (ha : EvA tr ρ ds) (hz : D.fzs ds = ds') (hf : D.fls ds = false) (hs : ∀ Q : D → Prop, Q d → S ds' Q) (hw : d.wk = d') : Ev (dFn S tr) ρ d' := fun Q q => ha _ (by
  show S (D.fzs ds) _
  rw [hz]
  exact hs _ (by rw [if_neg (by rw [hf]; simp), hw]; exact q))
/-! targets -/
theorem g_nm {n : Nat} {N : Env → Prop} (q : N (ρ.set n (some d))) : G.go (.nm n) d ρ N := by rw [q_go]; exact q
theorem g_tp {gs : Gs} {N : Env → Prop} (q : Gs.go gs ds ρ N) : G.go (.tp gs) (.tup ds) ρ N := by simpa [G.go] using q
theorem gs_nil {N : Env → Prop} (q : N ρ) : Gs.go .nil [] ρ N := by simpa [Gs.go] using q
theorem gs_cons {g : G} {gs : Gs} {N : Env → Prop} (q : G.go g d ρ fun ρ' => Gs.go gs ds ρ' N) : Gs.go (.cons g gs) (d :: ds) ρ N := by simpa [Gs.go] using q
/-! what is walked -/
theorem ei_C {e : α → D} {f : Fl} {l : List α} [No e] (h : Ev ta ρ (eL f e l)) : EvI (dIter itemsC ta) ρ (l.map e) := fun Q q => h _ (by
  show its? (itemsC (.lst f (l.map e))) Q
  cases f with
  | o =>
    show its? (if D.nos (l.map e) = true then _ else _) Q
    rw [if_pos (noS (all_map No.h l))]; exact q
  | f => exact q
  | b => exact q)
theorem ei_CT {e : α → D} [No e] (l : List α) (h : Ev ta ρ (.tup ds)) (hd : ds = l.map e) : EvI (dIter itemsC ta) ρ (l.map e) := fun Q q => h _ (by
  subst hd
  show its? (if D.nos (l.map e) = true then _ else _) Q
  rw [if_pos (noS (all_map No.h l))]; exact q)
theorem ei_S {e : α → D} {l : List α} (h : Ev ta ρ (eL .f e l)) : EvI (dIter itemsS ta) ρ (l.map e) := fun Q q => h _ q
theorem ei_So {e : α → D} [Pf e] {l : List α} (h : Ev ta ρ (eL .o e l)) : EvI (dIter itemsS ta) ρ (l.map e) := fun Q q => h _ (by
  show its? (if D.pfs (l.map e) = true then _ else _) Q
  rw [if_pos (pfs_of _ (all_map Pf.h l))]; exact q)
theorem ei_ST {e : α → D} [Pf e] (l : List α) (h : Ev ta ρ (.tup ds)) (hd : ds = l.map e) (hf : itemsS (.tup ds) = some ds) : EvI (dIter itemsS ta) ρ (l.map e) := fun Q q => h _ (by
  subst hd
  show its? (itemsS (.tup (l.map e))) Q
  rw [hf]; exact q)
def rngL (lo hi : Int) : List Int := (List.range (hi - lo).toNat).map fun i => lo + (i : Nat)
theorem rng_map {lo hi : Int} : rngD lo hi = (rngL lo hi).map eI := by
  unfold rngD rngL
  rw [List.map_map]; rfl
theorem ei_r1 (h : Ev ta ρ (eI j)) (hj : -1000000000000 ≤ j ∧ j ≤ 1000000000000) : EvI (dRng1 ta) ρ ((rngL 0 j).map eI) := fun Q q => h _ (by
  refine ⟨hj.1, hj.2, ?_⟩
  rw [rng_map]; exact q)
theorem ei_r2 (h : Ev ta ρ (eI i)) (h2 : Ev tb ρ (eI j)) (hj : (-1000000000000 ≤ i ∧ i ≤ 1000000000000) ∧ (-1000000000000 ≤ j ∧ j ≤ 1000000000000)) : EvI (dRng2 ta tb) ρ ((rngL i j).map eI) := fun Q q => h _ (h2 _ (by
  refine ⟨hj.1, hj.2, ?_⟩
  rw [rng_map]; exact q))
def enumL (l : List α) : List (Int × α) := l.mapIdx fun i x => ((i : Nat), x)
theorem enum_map {e : α → D} {l : List α} : enumD (l.map e) = (enumL l).map (eT2 eI e) := by
  unfold enumD enumL
  apply List.ext_getElem?
  intro i
  rw [List.getElem?_mapIdx, List.getElem?_map, List.getElem?_map, List.getElem?_mapIdx]
  cases l[i]? <;> rfl
theorem zip_map {e : α → D} {e' : β → D} : ∀ {l : List α} {m : List β}, zipD (l.map e) (m.map e') = (l.zip m).map (eT2 e e')
  | [], _ => by simp [zipD]
  | _ :: _, [] => by simp [zipD]
  | x :: l, y :: m => by
    have := zip_map (e := e) (e' := e') (l := l) (m := m)
    unfold zipD at this
    simp only [zipD, List.map_cons, List.zipWith_cons_cons, List.zip_cons_cons, this]
    rfl
theorem ei_enumC {e : α → D} {f : Fl} {l : List α} [No e] (h : Ev ta ρ (eL f e l)) : EvI (dEnum itemsC ta) ρ ((enumL l).map (eT2 eI e)) := fun Q q => h _ (by
  rw [← enum_map] at q
  cases f with
  | o =>
    show (match (if D.nos (l.map e) = true then some (l.map e) else if D.nbs (l.map e) = true then some (D.fzs (l.map e)) else none) with
      | some ds => Q (enumD ds)
      | none => False)
    rw [if_pos (noS (all_map No.h l))]; exact q
  | f => exact q
  | b => exact q)
theorem ei_enumS {e : α → D} {l : List α} (h : Ev ta ρ (eL .f e l)) : EvI (dEnum itemsS ta) ρ ((enumL l).map (eT2 eI e)) := fun Q q => h _ (by
  rw [← enum_map] at q
  exact q)
theorem ei_enumSo {e : α → D} [Pf e] {l : List α} (h : Ev ta ρ (eL .o e l)) : EvI (dEnum itemsS ta) ρ ((enumL l).map (eT2 eI e)) := fun Q q => h _ (by
  rw [← enum_map] at q
  show (match (if D.pfs (l.map e) = true then some (l.map e) else if D.nbs (l.map e) = true then some (D.fzs (l.map e)) else none) with
      | some ds => Q (enumD ds)
      | none => False)
  rw [if_pos (pfs_of _ (all_map Pf.h l))]; exact q)
theorem itC {e : α → D} {f : Fl} {l : List α} [No e] : itemsC (eL f e l) = some (l.map e) := by
  cases f with
  | o =>
    show (if D.nos (l.map e) = true then _ else _) = _
    rw [if_pos (noS (all_map No.h l))]
  | f => rfl
  | b => rfl
theorem ei_zipC {e : α → D} {e' : β → D} {f f' : Fl} {l : List α} {m : List β} [No e] [No e'] (h : Ev ta ρ (eL f e l)) (h2 : Ev tb ρ (eL f' e' m)) : EvI (dZip itemsC ta tb) ρ ((l.zip m).map (eT2 e e')) := fun Q q => h _ (h2 _ (by
  rw [← zip_map] at q
  show (if _ then _ else False)
  rw [if_pos ⟨rfl, fun z => nomatch z⟩, itC, itC]; exact q))
theorem ei_zipS {e : α → D} {e' : β → D} {l : List α} {m : List β} (h : Ev ta ρ (eL .f e l)) (h2 : Ev tb ρ (eL .f e' m)) : EvI (dZip itemsS ta tb) ρ ((l.zip m).map (eT2 e e')) := fun Q q => h _ (h2 _ (by
  rw [← zip_map] at q
  show (if _ then _ else False)
  rw [if_pos ⟨rfl, fun z => nomatch z⟩]; exact q))
/-! comprehensions -/
theorem ev_lc {it : DTI} {vs : List Nat} {g : G} {tt : DTT} {eX : α → D} {eY : β → D} {l : List α} {c : α → Bool} {f : α → β} (en2 : α → Env) (hi : EvI it ρ (l.map eX)) (hl : l.length ≤ 1000000)
    (hg : ∀ x (N : Env → Prop), N (en2 x) → G.go g (eX x) (wipeE ρ vs) N) (ht : ∀ x ∈ l, EvT tt (en2 x) (c x)) (he : ∀ x ∈ l, c x = true → Ev te (en2 x) (eY (f x))) : Ev (dLc it vs g tt te) ρ (eL .o eY ((l.filter c).map f)) := fun Q q => hi _ (by
  refine ⟨by rw [List.length_map]; exact hl, lc_run (t := c) (h := fun x => eY (f x)) l (fun x hx K1 K2 k => ?_) ?_⟩
  · refine hg x _ (ht x hx _ ?_)
    cases ec : c x with
    | true => rw [ec] at k; exact he x hx ec _ k
    | false => rw [ec] at k; exact k
  · rw [List.nil_append]
    have : ((l.filter c).map fun x => eY (f x)) = ((l.filter c).map f).map eY := by rw [List.map_map]; rfl
    rw [this]; exact q)
theorem ev_mapid {e : α → D} {f : Fl} {l : List α} (h : Ev ta ρ (eL f e (l.map fun x => x))) : Ev ta ρ (eL f e l) := by
  rw [List.map_id'] at h
  exact h
theorem ev_lcM {it : DTI} {vs : List Nat} {g : G} {eX : α → D} {eY : β → D} {l : List α} {f : α → β} (en2 : α → Env) (hi : EvI it ρ (l.map eX)) (hl : l.length ≤ 1000000)
    (hg : ∀ x (N : Env → Prop), N (en2 x) → G.go g (eX x) (wipeE ρ vs) N) (he : ∀ x ∈ l, Ev te (en2 x) (eY (f x))) : Ev (dLc it vs g dYes te) ρ (eL .o eY (l.map f)) := by
  have := ev_lc (c := fun _ => true) (tt := dYes) en2 hi hl hg (fun _ _ Q q => q) (fun x hx _ => he x hx)
  rw [filter_all] at this
  exact this
end
end DL
set_option maxHeartbeats 4000000
set_option exponentiation.threshold 50000
namespace DL
open PySem PySem.Spec PyProof.Rows L2
variable [Tb]
/-! ### the order of data -/
abbrev tkD (d : D) : List (Int ⊕ List Nat) := PySem.W.keyToks d.py
abbrev lexD (s t : List (Int ⊕ List Nat)) : Bool := PyProof.Rows.lexLt PyProof.Rows.itemOrd s t
section
variable {α β γ δ ε : Type}
class OrdT (e : α → D) (lt : outParam (α → α → Bool)) : Prop where
  h : ∀ x y s t, lexD (tkD (e x) ++ s) (tkD (e y) ++ t) = (lt x y || (!lt y x && lexD s t))
  al : ∀ x y, alikeD (e x) (e y) = true
class Kd1 (e : α → D) : Prop where
  ok : (∀ x, ∃ y r, e x = .tup (y :: r)) ∨ ∀ x, e x ≠ .non ∧ e x ≠ .pen ∧ ∀ ys, e x ≠ .tup ys
def leOf (lt : α → α → Bool) : α → α → Bool := fun x y => !lt y x
instance {e : α → D} {lt : α → α → Bool} [OrdT e lt] [Kd1 e] : OrdC e (leOf lt) := ⟨fun x y => by
  have h := OrdT.h (e := e) y x [] []
  rw [List.append_nil, List.append_nil] at h
  show (!lexD (tkD (e y)) (tkD (e x))) = !lt y x
  rw [h]
  show (!(lt y x || (!lt x y && false))) = _
  rw [Bool.and_false, Bool.or_false], OrdT.al, Kd1.ok⟩
def ltI (i j : Int) : Bool := decide (i < j)
def ltS (x y : OkS) : Bool := PyProof.Rows.strKind.blt x.1.cps.toList y.1.cps.toList
def ltT2 (f : α → α → Bool) (g : β → β → Bool) : α × β → α × β → Bool := fun p q => f p.1 q.1 || (!f q.1 p.1 && g p.2 q.2)
def ltT3 (f : α → α → Bool) (g : β → β → Bool) (h : γ → γ → Bool) : α × β × γ → α × β × γ → Bool := fun p q => f p.1 q.1 || (!f q.1 p.1 && (g p.2.1 q.2.1 || (!g q.2.1 p.2.1 && h p.2.2 q.2.2)))
def ltL (f : α → α → Bool) : List α → List α → Bool
  | [], [] => false
  | [], _ :: _ => true
  | _ :: _, [] => false
  | x :: xs, y :: ys => f x y || (!f y x && ltL f xs ys)
instance : OrdT eI ltI := ⟨fun x y s t => rfl, fun _ _ => rfl⟩
instance : OrdT eS ltS := ⟨fun x y s t => rfl, fun _ _ => rfl⟩
variable {a : α → D} {b : β → D} {c : γ → D} {f : α → α → Bool} {g : β → β → Bool} {h : γ → γ → Bool}
theorem lexD_1 (s t : List (Int ⊕ List Nat)) : lexD (.inl 1 :: s) (.inl 1 :: t) = lexD s t := by
  show (decide ((1 : Int) < 1) || (!decide ((1 : Int) < 1) && lexD s t)) = _
  simp
theorem lexD_0 (s t : List (Int ⊕ List Nat)) : lexD (.inl 0 :: s) (.inl 0 :: t) = lexD s t := by
  show (decide ((0 : Int) < 0) || (!decide ((0 : Int) < 0) && lexD s t)) = _
  simp
theorem lexD_01 (s t : List (Int ⊕ List Nat)) : lexD (.inl 0 :: s) (.inl 1 :: t) = true := by
  show (decide ((0 : Int) < 1) || (!decide ((1 : Int) < 0) && lexD s t)) = _
  simp
theorem lexD_10 (s t : List (Int ⊕ List Nat)) : lexD (.inl 1 :: s) (.inl 0 :: t) = false := by
  show (decide ((1 : Int) < 0) || (!decide ((0 : Int) < 1) && lexD s t)) = _
  simp
theorem tk_tup2 {x y : D} {s : List (Int ⊕ List Nat)} : tkD (.tup [x, y]) ++ s = .inl 1 :: (tkD x ++ (.inl 1 :: (tkD y ++ (.inl 0 :: s)))) := by
  show ((Sum.inl 1 :: (tkD x ++ (Sum.inl 1 :: (tkD y ++ [Sum.inl 0])))) ++ s : List (Int ⊕ List Nat)) = _
  simp
theorem tk_tup3 {x y z : D} {s : List (Int ⊕ List Nat)} : tkD (.tup [x, y, z]) ++ s = .inl 1 :: (tkD x ++ (.inl 1 :: (tkD y ++ (.inl 1 :: (tkD z ++ (.inl 0 :: s)))))) := by
  show ((Sum.inl 1 :: (tkD x ++ (Sum.inl 1 :: (tkD y ++ (Sum.inl 1 :: (tkD z ++ [Sum.inl 0])))))) ++ s : List (Int ⊕ List Nat)) = _
  simp
instance [OrdT a f] [OrdT b g] : OrdT (eT2 a b) (ltT2 f g) := ⟨fun x y s t => by
  show lexD (tkD (.tup [a x.1, b x.2]) ++ s) (tkD (.tup [a y.1, b y.2]) ++ t) = _
  rw [tk_tup2, tk_tup2, lexD_1, OrdT.h (e := a), lexD_1, OrdT.h (e := b), lexD_0]
  unfold ltT2
  cases f x.1 y.1 <;> cases f y.1 x.1 <;> simp, fun x y => by
  show (alikeD (a x.1) (a y.1) && (alikeD (b x.2) (b y.2) && true)) = true
  rw [OrdT.al (e := a), OrdT.al (e := b)]; rfl⟩
instance [OrdT a f] [OrdT b g] [OrdT c h] : OrdT (eT3 a b c) (ltT3 f g h) := ⟨fun x y s t => by
  show lexD (tkD (.tup [a x.1, b x.2.1, c x.2.2]) ++ s) (tkD (.tup [a y.1, b y.2.1, c y.2.2]) ++ t) = _
  rw [tk_tup3, tk_tup3, lexD_1, OrdT.h (e := a), lexD_1, OrdT.h (e := b), lexD_1, OrdT.h (e := c), lexD_0]
  unfold ltT3
  cases f x.1 y.1 <;> cases f y.1 x.1 <;> cases g x.2.1 y.2.1 <;> cases g y.2.1 x.2.1 <;> simp, fun x y => by
  show (alikeD (a x.1) (a y.1) && (alikeD (b x.2.1) (b y.2.1) && (alikeD (c x.2.2) (c y.2.2) && true))) = true
  rw [OrdT.al (e := a), OrdT.al (e := b), OrdT.al (e := c)]; rfl⟩
theorem lex_lists [OrdT a f] (s t : List (Int ⊕ List Nat)) : ∀ xs ys : List α, lexD (PySem.W.keyToksAll (D.pys (xs.map a)) ++ s) (PySem.W.keyToksAll (D.pys (ys.map a)) ++ t) = (ltL f xs ys || (!ltL f ys xs && lexD s t))
  | [], [] => by
    show lexD (.inl 0 :: s) (.inl 0 :: t) = _
    rw [lexD_0]; simp [ltL]
  | [], y :: ys => by
    show lexD (.inl 0 :: s) (.inl 1 :: (_ ++ t)) = _
    rw [lexD_01]; simp [ltL]
  | x :: xs, [] => by
    show lexD (.inl 1 :: (_ ++ s)) (.inl 0 :: t) = _
    rw [lexD_10]; simp [ltL]
  | x :: xs, y :: ys => by
    show lexD (.inl 1 :: ((tkD (a x) ++ PySem.W.keyToksAll (D.pys (xs.map a))) ++ s)) (.inl 1 :: ((tkD (a y) ++ PySem.W.keyToksAll (D.pys (ys.map a))) ++ t)) = _
    rw [lexD_1, List.append_assoc, List.append_assoc, OrdT.h (e := a), lex_lists s t xs ys]
    show _ = ((f x y || (!f y x && ltL f xs ys)) || (!(f y x || (!f x y && ltL f ys xs)) && lexD s t))
    cases f x y <;> cases f y x <;> simp
theorem alike_lists [OrdT a f] : ∀ xs ys : List α, PySem.W.alikeAll (D.pys (xs.map a)) (D.pys (ys.map a)) = true
  | [], _ => by cases ‹List α› <;> rfl
  | _ :: _, [] => rfl
  | x :: xs, y :: ys => by
    show (alikeD (a x) (a y) && PySem.W.alikeAll (D.pys (xs.map a)) (D.pys (ys.map a))) = true
    rw [OrdT.al (e := a), alike_lists xs ys]; rfl
instance {k : Fl} [OrdT a f] : OrdT (eL k a) (ltL f) := ⟨fun xs ys s t => lex_lists s t xs ys, fun xs ys => alike_lists xs ys⟩
instance : Kd1 eI := ⟨.inr fun _ => ⟨fun z => (nomatch z), fun z => (nomatch z), fun _ z => (nomatch z)⟩⟩
instance : Kd1 eS := ⟨.inr fun _ => ⟨fun z => (nomatch z), fun z => (nomatch z), fun _ z => (nomatch z)⟩⟩
instance : Kd1 (eT1 a) := ⟨.inl fun _ => ⟨_, _, rfl⟩⟩
instance : Kd1 (eT2 a b) := ⟨.inl fun _ => ⟨_, _, rfl⟩⟩
instance : Kd1 (eT3 a b c) := ⟨.inl fun _ => ⟨_, _, rfl⟩⟩
instance {k : Fl} : Kd1 (eL k a) := ⟨.inr fun _ => ⟨fun z => (nomatch z), fun z => (nomatch z), fun _ z => (nomatch z)⟩⟩
end
/-! ### typed statements -/
section
variable {α β γ : Type} {ρ ρ' : Env} {ta tb te : DT} {tr : DTA} {d d' : D} {ds : List D} {k : Bool} {c : DTT} {t u : DS} {N : DE} {it : DTI}
theorem w_seq (h : t { N with nx := u N } ρ) : dSeq t u N ρ := h
theorem w_set (n : Nat) (ev : Ev te ρ d) (hb : d.nb = true) (q : N.nx (ρ.set n (some d))) : dAsg (.nm n) te N ρ := ev _ ⟨hb, g_nm q⟩
theorem w_asg {g : G} (ev : Ev te ρ d) (hb : d.nb = true) (q : G.go g d ρ N.nx) : dAsg g te N ρ := ev _ ⟨hb, q⟩
theorem w_par {is : List Nat} (ev : EvA tr ρ ds) (hb : D.nbs ds = true) (q : Gs.go (gsOf is) ds ρ N.nx) : dPar is tr N ρ := ev _ ⟨hb, q⟩
theorem nbs_nil : D.nbs [] = true := rfl
theorem nbs_cons (h : d.nb = true) (hs : D.nbs ds = true) : D.nbs (d :: ds) = true := by
  show (d.nb && D.nbs ds) = true
  rw [h, hs]; rfl
theorem gso_n {N : Env → Prop} (q : N ρ) : Gs.go (gsOf []) [] ρ N := gs_nil q
theorem gso_c {i : Nat} {r : List Nat} {N : Env → Prop} (q : Gs.go (gsOf r) ds (ρ.set i (some d)) N) : Gs.go (gsOf (i :: r)) (d :: ds) ρ N := gs_cons (g_nm q)
theorem w_ret (ev : Ev te ρ d) (hr : d.rt = d') (q : N.rt d') : dRet te N ρ := ev _ (by
  rw [hr]; exact q)
theorem w_retV (n : Nat) (h : Env.at ρ n = some d) (q : N.rt d) : dRetV n N ρ := by
  unfold dRetV
  rw [h]; exact q
theorem w_retN (q : N.rt .non) : dRetN N ρ := q
theorem w_drop (ev : Ev te ρ d) (q : N.nx ρ) : dDrop te N ρ := ev _ q
theorem w_ifS (ev : EvT c ρ k) (ha : k = true → t N ρ) (hb : k = false → u N ρ) : dIfS c t u N ρ := ev _ (by
  cases k with
  | true => exact ha rfl
  | false => exact hb rfl)
theorem w_next (q : N.nx ρ) : dNext N ρ := q
theorem w_wipe {vs : List Nat} (q : N.nx ρ') (h : wipeE ρ vs = ρ') : dWipe vs N ρ := by
  show N.nx (wipeE ρ vs)
  rw [h]; exact q
theorem w_frz (n : Nat) {e e' : α → D} {v : α} [Fz e e'] (h : Env.at ρ n = some (e v)) (q : N.nx (ρ.set n (some (e' v)))) : dFrz n N ρ := by
  unfold dFrz
  rw [h]
  show N.nx (ρ.set n (some (e v).fz))
  rw [Fz.h (e' := e')]; exact q
theorem w_break (q : N.bk ρ) : dBreak N ρ := q
theorem w_cont (q : N.ct ρ) : dCont N ρ := q
/-! loops -/
def forW {σ : Type} (body : α → σ → (σ → Prop) → (σ → Prop) → Prop) (done : σ → Prop) : List α → σ → Prop
  | [], s => done s
  | x :: xs, s => body x s (forW body done xs) done
theorem w_for {σ : Type} {g : G} {b : DS} {body : α → σ → (σ → Prop) → (σ → Prop) → Prop} {done : σ → Prop} {l : List α} {s : σ} (en : σ → Env) (eX : α → D) (hi : EvI it ρ (l.map eX)) (hs : ρ = en s) (h : forW body done l s)
    (hd : ∀ s, done s → N.nx (en s))
    (hb : ∀ x s (nx : σ → Prop) (N' : DE), (∀ s, nx s → N'.nx (en s)) → (∀ s, nx s → N'.ct (en s)) → (∀ s, done s → N'.bk (en s)) → N'.rt = N.rt → body x s nx done → G.go g (eX x) (en s) fun ρ2 => b N' ρ2) : dFor it g b N ρ := hi _ (by
  subst hs
  clear hi
  induction l generalizing s with
  | nil => exact hd s h
  | cons x l ih => exact hb x s _ _ (fun s' h' => ih h') (fun s' h' => ih h') (fun s' h' => hd s' h') rfl h)
def whileW {σ : Type} (test : σ → (Bool → Prop) → Prop) (body : σ → (σ → Prop) → (σ → Prop) → Prop) (done : σ → Prop) (s : σ) : Prop :=
  ∃ I : Nat → σ → Prop, (∃ m, I m s) ∧ ∀ m s, I m s → test s fun k => (k = true → body s (fun s' => ∃ m', m' < m ∧ I m' s') done) ∧ (k = false → done s)
theorem w_while {σ : Type} {b : DS} {test : σ → (Bool → Prop) → Prop} {body : σ → (σ → Prop) → (σ → Prop) → Prop} {done : σ → Prop} {s : σ} (en : σ → Env) (hs : ρ = en s) (h : whileW test body done s) (ht : ∀ s (K K' : Bool → Prop), (∀ k, K k → K' k) → test s K → c (en s) K')
    (hd : ∀ s, done s → N.nx (en s))
    (hb : ∀ s (nx : σ → Prop) (N' : DE), (∀ s, nx s → N'.nx (en s)) → (∀ s, nx s → N'.ct (en s)) → (∀ s, done s → N'.bk (en s)) → N'.rt = N.rt → body s nx done → b N' (en s)) : dWhile c b N ρ := by
  subst hs
  obtain ⟨I, ⟨m, h0⟩, h1⟩ := h
  refine ⟨fun m ρ' => ∃ s, I m s ∧ ρ' = en s, ⟨m, s, h0, rfl⟩, ?_⟩
  rintro m _ ⟨s, hi, rfl⟩
  refine ht s _ _ (fun k hk => ?_) (h1 m s hi)
  cases k with
  | true =>
    rw [if_pos rfl]
    exact hb s _ _ (fun s' ⟨m', h1, h2⟩ => ⟨m', h1, s', h2, rfl⟩) (fun s' ⟨m', h1, h2⟩ => ⟨m', h1, s', h2, rfl⟩) (fun s' h' => hd s' h') rfl (hk.1 rfl)
  | false =>
    rw [if_neg (by simp)]
    exact hd s (hk.2 rfl)
/-! pens, picks -/
theorem w_pen (i j : Nat) {f : Fl} {ns : List Int} (h : Env.at ρ j = some (eL f eI ns)) (hl : ns.length ≤ 63) (q : N.nx (ρ.set i (some (ePen ())))) : dPen i j N ρ := ⟨f, ns, h, hl, q⟩
def PickW (n : Int) (K : Int → Prop) : Prop := 0 < n ∧ n.natAbs < 2 ^ 2000 ∧ ∀ r : Int, 0 ≤ r → r < n → K r
theorem s_pick {n : Int} {K : Int → Prop} {Q : D → Prop} (h : PickW n K) (k : ∀ r, K r → Q (eI r)) : S__law_pick [ePen (), eI n] Q := ⟨n, rfl, h.1, h.2.1, fun r h0 h1 => k r (h.2.2 r h0 h1)⟩
/-! where a choice is in it: step by step -/
theorem c_ev {Q : D → Prop} (ev : Ev te ρ d) (q : Q d) : te ρ Q := ev Q q
theorem c_bin {o : DO} {Q : D → Prop} (h : ta ρ fun x => tb ρ fun y => o [x, y] Q) : dBin o ta tb ρ Q := h
theorem c_un {o : DO} {Q : D → Prop} (h : ta ρ fun x => o [x] Q) : dUn o ta ρ Q := h
theorem c_call {o : DO} {Q : D → Prop} (h : tr ρ fun xs => o xs Q) : dCall o tr ρ Q := h
theorem c_nil {Q : List D → Prop} (h : Q []) : dNil ρ Q := h
theorem c_cons {Q : List D → Prop} (h : ta ρ fun x => tr ρ fun xs => Q (x :: xs)) : dCons ta tr ρ Q := h
theorem c_tup {Q : D → Prop} (h : tr ρ fun ds => ds.length ≤ 1000 ∧ Q (.tup ds)) : dTup tr ρ Q := h
theorem c_lst {Q : D → Prop} (h : tr ρ fun ds => ds.length ≤ 1000 ∧ Q (.lst .o ds)) : dLst tr ρ Q := h
theorem c_if {Q : D → Prop} (h : c ρ fun k => (k = true → ta ρ Q) ∧ (k = false → tb ρ Q)) (hm : ∀ K K' : Bool → Prop, (∀ k, K k → K' k) → c ρ K → c ρ K') : dIf c ta tb ρ Q := hm _ _ (fun k h => by
  cases k with
  | true => rw [if_pos rfl]; exact h.1 rfl
  | false => rw [if_neg (by simp)]; exact h.2 rfl) h
theorem c_ifE {Q : D → Prop} (ev : EvT c ρ k) (ha : k = true → ta ρ Q) (hb : k = false → tb ρ Q) : dIf c ta tb ρ Q := ev _ (by
  cases k with
  | true => rw [if_pos rfl]; exact ha rfl
  | false => rw [if_neg (by simp)]; exact hb rfl)
def FnQ (S : DSpec) (ds : List D) (Q : D → Prop) : Prop := S (D.fzs ds) fun c => Q (if D.fls ds = true then c else c.wk)
theorem c_fnC {S : DSpec} {Q : D → Prop} (h : tr ρ fun ds => FnQ S ds Q) : dFn S tr ρ Q := h
theorem c_call1 {S : DSpec} {Q : D → Prop} {ds' : List D} (hz : D.fzs ds = ds') (hf : D.fls ds = true) (h : S ds' Q) : FnQ S ds Q := by
  unfold FnQ
  rw [hz]
  have e : (fun c : D => Q (if D.fls ds = true then c else c.wk)) = Q := by
    funext c
    rw [if_pos hf]
  rw [e]; exact h
theorem c_call0 {S : DSpec} {Q : D → Prop} {ds' : List D} (hz : D.fzs ds = ds') (hf : D.fls ds = false) (h : S ds' fun c => Q c.wk) : FnQ S ds Q := by
  unfold FnQ
  rw [hz]
  have e : (fun c : D => Q (if D.fls ds = true then c else c.wk)) = fun c => Q c.wk := by
    funext c
    rw [if_neg (by rw [hf]; simp)]
  rw [e]; exact h
theorem c_eq {Q : D → Prop} (h : d = d') (q : Q d') : Q d := by
  rw [h]; exact q
instance : Inhabited OkS := ⟨⟨⟨#[]⟩, by decide +kernel⟩⟩
theorem ev_tup1 {a : α → D} {x : α} (h1 : Ev ta ρ (a x)) : Ev (dTup (dCons ta dNil)) ρ (eT1 a x) := ev_tup (ea_cons h1 ea_nil) (Nat.le_of_ble_eq_true rfl)
theorem ev_tup2 {a : α → D} {b : β → D} {x : α} {y : β} {t1 t2 : DT} (h1 : Ev t1 ρ (a x)) (h2 : Ev t2 ρ (b y)) : Ev (dTup (dCons t1 (dCons t2 dNil))) ρ (eT2 a b (x, y)) := ev_tup (ea_cons h1 (ea_cons h2 ea_nil)) (Nat.le_of_ble_eq_true rfl)
theorem ev_tup3 {a : α → D} {b : β → D} {c : γ → D} {x : α} {y : β} {z : γ} {t1 t2 t3 : DT} (h1 : Ev t1 ρ (a x)) (h2 : Ev t2 ρ (b y)) (h3 : Ev t3 ρ (c z)) : Ev (dTup (dCons t1 (dCons t2 (dCons t3 dNil)))) ρ (eT3 a b c (x, y, z)) := ev_tup (ea_cons h1 (ea_cons h2 (ea_cons h3 ea_nil))) (Nat.le_of_ble_eq_true rfl)
theorem ev_tup4 {δ : Type} {a : α → D} {b : β → D} {c : γ → D} {e : δ → D} {x : α} {y : β} {z : γ} {u : δ} {t1 t2 t3 t4 : DT} (h1 : Ev t1 ρ (a x)) (h2 : Ev t2 ρ (b y)) (h3 : Ev t3 ρ (c z)) (h4 : Ev t4 ρ (e u)) : Ev (dTup (dCons t1 (dCons t2 (dCons t3 (dCons t4 dNil))))) ρ (eT4 a b c e (x, y, z, u)) := ev_tup (ea_cons h1 (ea_cons h2 (ea_cons h3 (ea_cons h4 ea_nil)))) (Nat.le_of_ble_eq_true rfl)
theorem ev_lstT {e : α → D} (l : List α) (h : EvA tr ρ (l.map e)) (hl : l.length ≤ 1000) : Ev (dLst tr) ρ (eL .o e l) := ev_lst h (by rw [List.length_map]; exact hl)
theorem o_allM {f : Fl} {l : List α} {p : α → Bool} : Op (o1 allD) [eL f eB (l.map p)] (eB (l.all p)) := fun Q q => o_all Q (by
  rw [List.all_map]; exact q)
theorem o_anyM {f : Fl} {l : List α} {p : α → Bool} : Op (o1 anyD) [eL f eB (l.map p)] (eB (l.any p)) := fun Q q => o_any Q (by
  rw [List.any_map]; exact q)
theorem c_and {Q : D → Prop} {k : Bool} (ev : Ev ta ρ (eB k)) (hb : k = true → tb ρ Q) (hf : k = false → Q (eB false)) : dAnd ta tb ρ Q := ev _ (by
  cases k with
  | true => exact hb rfl
  | false => exact hf rfl)
theorem c_or {Q : D → Prop} {k : Bool} (ev : Ev ta ρ (eB k)) (hb : k = false → tb ρ Q) (hf : k = true → Q (eB true)) : dOr ta tb ρ Q := ev _ (by
  cases k with
  | true => exact hf rfl
  | false => exact hb rfl)
variable {ca cb : DTT}
theorem c_andT {Q : Bool → Prop} (ev : EvT ca ρ k) (hb : k = true → cb ρ Q) (hf : k = false → Q false) : dAndT ca cb ρ Q := ev _ (by
  cases k with
  | true => exact hb rfl
  | false => exact hf rfl)
theorem c_orT {Q : Bool → Prop} (ev : EvT ca ρ k) (hb : k = false → cb ρ Q) (hf : k = true → Q true) : dOrT ca cb ρ Q := ev _ (by
  cases k with
  | true => exact hf rfl
  | false => exact hb rfl)
theorem c_notT {Q : Bool → Prop} (h : ca ρ fun k => Q (!k)) : dNotT ca ρ Q := h
theorem c_dB {Q : Bool → Prop} (h : ta ρ fun x => bl? x Q) : dB ta ρ Q := h
theorem c_blq {Q : Bool → Prop} (q : Q k) : bl? (eB k) Q := q
theorem c_setC (n : Nat) (h : te ρ fun d => d.nb = true ∧ N.nx (ρ.set n (some d))) : dAsg (.nm n) te N ρ := by
  have e : (fun d => d.nb = true ∧ G.go (.nm n) d ρ N.nx) = fun d => d.nb = true ∧ N.nx (ρ.set n (some d)) := by
    funext d
    rw [q_go]
  show te ρ (fun d => d.nb = true ∧ G.go (.nm n) d ρ N.nx)
  rw [e]; exact h
theorem c_asgC {g : G} (h : te ρ fun d => d.nb = true ∧ G.go g d ρ N.nx) : dAsg g te N ρ := h
theorem c_ifS (h : c ρ fun k => if k = true then t N ρ else u N ρ) : dIfS c t u N ρ := h
theorem c_ite {P R : Prop} (ha : k = true → P) (hb : k = false → R) : if k = true then P else R := by
  cases k with
  | true => exact ha rfl
  | false => exact hb rfl
theorem c_ret (h : te ρ fun d => N.rt d.rt) : dRet te N ρ := h
end
end DL
namespace DL
variable [Tb]
section
variable {α : Type} {N N' : DE} {ρ : Env} {tr : DTA}
theorem rt_eq {rt : α → Prop} {e : α → D} (hr : N'.rt = N.rt) (h : ∀ r, rt r → N.rt (e r)) : ∀ r, rt r → N'.rt (e r) := fun r z => by
  rw [hr]; exact h r z
theorem not_t {b : Bool} (h : (!b) = true) : b = false := by cases b <;> first | rfl | cases h
theorem not_f {b : Bool} (h : (!b) = false) : b = true := by cases b <;> first | rfl | cases h
theorem c_parC {is : List Nat} (h : tr ρ fun ds => D.nbs ds = true ∧ Gs.go (gsOf is) ds ρ N.nx) : dPar is tr N ρ := h
theorem s_same {x y : D} (h : x = y ∧ Pl 7 x) : ∀ Q : D → Prop, Q (eB true) → S__law_same 8 [x, y] Q := fun Q q => by
  obtain ⟨rfl, h⟩ := h
  exact ⟨x, rfl, h, q⟩
end
end DL

namespace DL
variable [Tb]
section
variable {α β : Type} {ρ ρ' : Env} {ta tb te : DT} {tr : DTA} {d d' : D} {ds : List D} {k : Bool} {c : DTT} {t u v : DS} {N : DE} {it : DTI}
theorem w_setS (n : Nat) (ev : Ev te ρ d) (hb : d.nb = true) (q : u N (ρ.set n (some d))) : dSeq (dAsg (.nm n) te) u N ρ := w_set (N := { N with nx := u N }) n ev hb q
theorem w_asgS {g : G} (ev : Ev te ρ d) (hb : d.nb = true) (q : G.go g d ρ (u N)) : dSeq (dAsg g te) u N ρ := w_asg (N := { N with nx := u N }) ev hb q
theorem w_parS {is : List Nat} (ev : EvA tr ρ ds) (hb : D.nbs ds = true) (q : Gs.go (gsOf is) ds ρ (u N)) : dSeq (dPar is tr) u N ρ := w_par (N := { N with nx := u N }) ev hb q
theorem w_dropS (ev : Ev te ρ d) (q : u N ρ) : dSeq (dDrop te) u N ρ := w_drop (N := { N with nx := u N }) ev q
theorem w_nextS (q : u N ρ) : dSeq dNext u N ρ := q
theorem w_wipeS {vs : List Nat} (q : u N ρ') (h : wipeE ρ vs = ρ') : dSeq (dWipe vs) u N ρ := w_wipe (N := { N with nx := u N }) q h
theorem w_frzS (n : Nat) {e e' : α → D} {v : α} [Fz e e'] (h : Env.at ρ n = some (e v)) (q : u N (ρ.set n (some (e' v)))) : dSeq (dFrz n) u N ρ := w_frz (N := { N with nx := u N }) n h q
theorem w_penS (i j : Nat) {f : Fl} {ns : List Int} (h : Env.at ρ j = some (eL f eI ns)) (hl : ns.length ≤ 63) (q : u N (ρ.set i (some (ePen ())))) : dSeq (dPen i j) u N ρ := w_pen (N := { N with nx := u N }) i j h hl q
theorem nx_i (h : u N ρ) : ({ N with nx := u N } : DE).nx ρ := h
theorem w_ifSS (ev : EvT c ρ k) (ha : k = true → t { N with nx := u N } ρ) (hb : k = false → v { N with nx := u N } ρ) : dSeq (dIfS c t v) u N ρ := w_ifS (N := { N with nx := u N }) ev ha hb
theorem c_ifSS (h : c ρ fun k => if k = true then t { N with nx := u N } ρ else v { N with nx := u N } ρ) : dSeq (dIfS c t v) u N ρ := h
theorem c_setCS (n : Nat) (h : te ρ fun d => d.nb = true ∧ u N (ρ.set n (some d))) : dSeq (dAsg (.nm n) te) u N ρ := c_setC (N := { N with nx := u N }) n h
theorem c_asgCS {g : G} (h : te ρ fun d => d.nb = true ∧ G.go g d ρ (u N)) : dSeq (dAsg g te) u N ρ := h
theorem c_parCS {is : List Nat} (h : tr ρ fun ds => D.nbs ds = true ∧ Gs.go (gsOf is) ds ρ (u N)) : dSeq (dPar is tr) u N ρ := h
theorem w_forS {σ : Type} {g : G} {b : DS} {body : α → σ → (σ → Prop) → (σ → Prop) → Prop} {done : σ → Prop} {l : List α} {s : σ} (en : σ → Env) (eX : α → D) (hi : EvI it ρ (l.map eX)) (hs : ρ = en s) (h : forW body done l s)
    (hd : ∀ s, done s → u N (en s))
    (hb : ∀ x s (nx : σ → Prop) (N' : DE), (∀ s, nx s → N'.nx (en s)) → (∀ s, nx s → N'.ct (en s)) → (∀ s, done s → N'.bk (en s)) → N'.rt = N.rt → body x s nx done → G.go g (eX x) (en s) fun ρ2 => b N' ρ2) : dSeq (dFor it g b) u N ρ := w_for (N := { N with nx := u N }) en eX hi hs h hd hb
theorem w_whileS {σ : Type} {b : DS} {test : σ → (Bool → Prop) → Prop} {body : σ → (σ → Prop) → (σ → Prop) → Prop} {done : σ → Prop} {s : σ} (en : σ → Env) (hs : ρ = en s) (h : whileW test body done s) (ht : ∀ s (K K' : Bool → Prop), (∀ k, K k → K' k) → test s K → c (en s) K')
    (hd : ∀ s, done s → u N (en s))
    (hb : ∀ s (nx : σ → Prop) (N' : DE), (∀ s, nx s → N'.nx (en s)) → (∀ s, nx s → N'.ct (en s)) → (∀ s, done s → N'.bk (en s)) → N'.rt = N.rt → body s nx done → b N' (en s)) : dSeq (dWhile c b) u N ρ := w_while (N := { N with nx := u N }) en hs h ht hd hb
end
end DL
namespace DL
open PySem PySem.Spec PyProof.Rows L2
variable [Tb]
section
variable {α σ : Type} {body : α → σ → (σ → Prop) → (σ → Prop) → Prop} {done : σ → Prop}
theorem forW_inv (I : σ → Prop) : ∀ {l : List α} {s : σ}, I s → (∀ x ∈ l, ∀ s (nx bk : σ → Prop), I s → (∀ s', I s' → nx s') → (∀ s', done s' → bk s') → body x s nx bk) → (∀ s, I s → done s) → forW body done l s
  | [], s, h0, _, hd => hd s h0
  | x :: l, s, h0, hb, hd => hb x (List.mem_cons_self ..) s _ _ h0 (fun s' h' => forW_inv I h' (fun y hy => hb y (List.mem_cons_of_mem _ hy)) hd) (fun _ z => z)
theorem forW_fold {step : σ → α → σ} (J : σ → Prop) : ∀ {l : List α} {s : σ}, J s → (∀ x ∈ l, ∀ s (nx bk : σ → Prop), J s → nx (step s x) → body x s nx bk) → (∀ x ∈ l, ∀ s, J s → J (step s x)) → done (l.foldl step s) → forW body done l s
  | [], s, _, _, _, hd => hd
  | x :: l, s, h0, hb, hJ, hd => hb x (List.mem_cons_self ..) s _ _ h0 (forW_fold J (hJ x (List.mem_cons_self ..) s h0) (fun y hy => hb y (List.mem_cons_of_mem _ hy)) (fun y hy => hJ y (List.mem_cons_of_mem _ hy)) hd)
/-- by what has been walked -/
theorem forW_pre (I : List α → σ → Prop) {l : List α} {s : σ} (h0 : I [] s) (hb : ∀ pre x suf s (nx bk : σ → Prop), l = pre ++ x :: suf → I pre s → (∀ s', I (pre ++ [x]) s' → nx s') → (∀ s', done s' → bk s') → body x s nx bk) (hd : ∀ s, I l s → done s) : forW body done l s := by
  have go : ∀ (suf pre : List α) (s : σ), l = pre ++ suf → I pre s → forW body done suf s := by
    intro suf
    induction suf with
    | nil =>
      intro pre s e h
      rw [List.append_nil] at e
      subst e
      exact hd s h
    | cons x suf ih =>
      intro pre s e h
      exact hb pre x suf s _ _ e h (fun s' h' => ih (pre ++ [x]) s' (by rw [e]; simp) h') (fun _ z => z)
  exact go l [] s rfl h0
theorem rng_len {lo hi : Int} : (rngL lo hi).length = (hi - lo).toNat := by simp [rngL]
theorem rng_mem {lo hi x : Int} : x ∈ rngL lo hi ↔ lo ≤ x ∧ x < hi := by
  unfold rngL
  rw [List.mem_map]
  constructor
  · rintro ⟨i, hi, rfl⟩
    have := List.mem_range.mp hi
    omega
  · rintro ⟨h1, h2⟩
    exact ⟨(x - lo).toNat, List.mem_range.mpr (by omega), by omega⟩
theorem pick_ok {n : Int} {K : Int → Prop} (h0 : 0 < n) (h1 : n ≤ 1000000000000000000000) (h : ∀ r, 0 ≤ r → r < n → K r) : PickW n K := ⟨h0, by
  have : (2 : Nat) ^ 100 ≤ 2 ^ 2000 := Nat.pow_le_pow_right (by decide) (by decide)
  generalize (2 : Nat) ^ 2000 = Y at *
  omega, h⟩
theorem gi_mem [Inhabited α] {l : List α} {i : Int} (h0 : 0 ≤ i) (h1 : i < l.length) : (atI l i).isSome = true ∧ gI l i ∈ l := by
  have e : ((i.toNat : Nat) : Int) = i := by omega
  have hj : i.toNat < l.length := by omega
  have h := ati_nat (r := l) (i := i.toNat) hj
  rw [e, List.getElem?_eq_getElem hj] at h
  unfold gI
  rw [h]
  exact ⟨rfl, List.getElem_mem hj⟩
theorem gi_nat [Inhabited α] {l : List α} {i : Nat} (h : i < l.length) : gI l (i : Int) = l[i] := by
  unfold gI
  rw [ati_nat h, List.getElem?_eq_getElem h]
  rfl
theorem divok {j : Int} (h0 : 0 < j) (h1 : j ≤ 1000000000000000000000000 := by decide) : DivOk j := ⟨h0, by
  have : (2 : Nat) ^ 100 ≤ 2 ^ 2000 := Nat.pow_le_pow_right (by decide) (by decide)
  generalize (2 : Nat) ^ 2000 = Y at *
  omega⟩
theorem mulok {i j : Int} (h : i.natAbs ≤ 10 ^ 100) (h' : j.natAbs ≤ 10 ^ 100) : MulOk i j := by
  have : (10 : Nat) ^ 100 < 2 ^ 400 := by decide
  exact mok 400 400 (Nat.lt_of_le_of_lt h this) (Nat.lt_of_le_of_lt h' this)
/-- plain data -/
class PlC (n : Nat) (e : α → D) : Prop where
  h : ∀ x, Pl n (e x)
instance {n : Nat} : PlC n eI := ⟨fun _ => by cases n <;> (show Pl _ (.int _)) <;> (unfold Pl; trivial)⟩
instance {n : Nat} : PlC n eB := ⟨fun _ => by cases n <;> (show Pl _ (.bl _)) <;> (unfold Pl; trivial)⟩
instance {n : Nat} : PlC n eS := ⟨fun x => by cases n <;> (show Pl _ (.str x.1)) <;> (unfold Pl; exact x.2)⟩
instance {n : Nat} : PlC n eU := ⟨fun _ => by cases n <;> (show Pl _ .non) <;> (unfold Pl; trivial)⟩
theorem pl_tup {n : Nat} {ds : List D} (hl : ds.length ≤ 1000000) (h : ∀ x ∈ ds, Pl n x) : Pl (n + 1) (.tup ds) := by
  unfold Pl
  exact ⟨hl, h⟩
theorem pl_lst {n : Nat} {ds : List D} (hl : ds.length ≤ 1000000) (h : ∀ x ∈ ds, Pl n x) : Pl (n + 1) (.lst .f ds) := by
  unfold Pl
  exact ⟨rfl, hl, h⟩
variable {β γ δ : Type}
instance {n : Nat} {a : α → D} [PlC n a] : PlC (n + 1) (eT1 a) := ⟨fun x => pl_tup (by simp) (by simp [PlC.h])⟩
instance {n : Nat} {a : α → D} {b : β → D} [PlC n a] [PlC n b] : PlC (n + 1) (eT2 a b) := ⟨fun x => pl_tup (by simp) (by simp [PlC.h])⟩
instance {n : Nat} {a : α → D} {b : β → D} {c : γ → D} [PlC n a] [PlC n b] [PlC n c] : PlC (n + 1) (eT3 a b c) := ⟨fun x => pl_tup (by simp) (by simp [PlC.h])⟩
instance {n : Nat} {a : α → D} {b : β → D} {c : γ → D} {d : δ → D} [PlC n a] [PlC n b] [PlC n c] [PlC n d] : PlC (n + 1) (eT4 a b c d) := ⟨fun x => pl_tup (by simp) (by simp [PlC.h])⟩
instance {n : Nat} {a : α → D} [PlC n a] : PlC n (eO a) := ⟨fun x => by
  cases x with
  | none => exact (inferInstance : PlC n eU).h ()
  | some x => exact PlC.h x⟩
theorem pl_list {n : Nat} {a : α → D} [PlC n a] {l : List α} (hl : l.length ≤ 1000000) : Pl (n + 1) (eL .f a l) := pl_lst (by rw [List.length_map]; exact hl) (all_map PlC.h l)
theorem pl_list2 {n : Nat} {a : α → D} {l : List α} (hl : l.length ≤ 1000000) (h : ∀ x ∈ l, Pl n (a x)) : Pl (n + 1) (eL .f a l) := pl_lst (by rw [List.length_map]; exact hl) (fun d hd => by
  obtain ⟨x, hx, rfl⟩ := List.mem_map.mp hd
  exact h x hx)
end
end DL
set_option maxHeartbeats 4000000
set_option exponentiation.threshold 50000
namespace DL
open PySem PySem.Spec PyProof.Rows L2
variable [Tb]
/-! ### a name's own list changed -/
section
variable {X : Cx} {x : Str} {e : Expr} {es : List Expr} {apos cpos px spos : Pos} {tr : DTA} {te : DT} {k : Nat}
theorem s_mut1 {name : Str} {id : String} {r : V → List V → Hp → VK → Prop} {op : DM} (hr : MutR X.K r op) (slot : Slot "list" name id) (hty : typeOf (.builtin id) = pure (.type "method_descriptor")) (hm : MtR X id r) (i : Nat) (ha : PDA X (e :: es) tr)
    (hN : X.N[i]? = some x := by rfl) (hv : Vis X.env.scope x := by first | exact Or.inl rfl | exact Or.inr (Or.inl rfl) | exact Or.inr (Or.inr rfl)) (hd : (x == ("__debug__" : Str)) = false := by decide) (hcd : (x == ("__classdict__" : Str)) = false := by decide)
    (hbase : attributeBase (.Name x px) name X.env (eval (.Name x px) X.env) = eval (.Name x px) X.env := by rfl)
    (hfew : ((backTo cpos (starEach (e :: es) X.env)).all (fun x => !x.1) && (backToKw cpos (keywordEach [] X.env)).all (fun x => x.1.isSome)
      && decide ((e :: es).length + ([] : List Keyword).length + (if ([] : List Keyword).isEmpty then 0 else 1) < 30)) = true := by rfl)
    (hline : (apos.endLine == cpos.line) = true := by rfl) (hs : starEach (e :: es) X.env = (false, eval e X.env) :: starEach es X.env := by rfl) (hplain : (backTo cpos (starEach es X.env)).any (·.1) = false := by rfl)
    (hsw : swapsWith (.Call (.Attribute (.Name x px) name apos) (e :: es) [] cpos) none spos.line X.env = pure false := by rfl) :
    PDS X (.Expr (.Call (.Attribute (.Name x px) name apos) (e :: es) [] cpos) spos) (dMut i op tr kDrop) :=
  mPS (ps_expr (pe_bm PySem.F.plainAttrs_list slot hty hm (pv i hN hv hd hcd) ha hbase hfew hline hs hplain) hsw) fun _ _ _ h => lift_mutD hr h fun _ _ _ z => z
end
end DL
namespace DL
open PySem PySem.Spec PyProof.Rows L2
variable [Tb]
section
variable {X : Cx} {x : Str} {e : Expr} {es : List Expr} {apos cpos px spos : Pos} {tr : DTA} {te : DT} {k : Nat}
/-- no argument -/
theorem tBM_nil {K : PySem.W.Frag} {r : V → List V → Hp → VK → Prop} {to : TE} {σ : Sg} {H : Hp} {Q : VK} (h : tBM K "list" r to tNil σ H Q) (to_mono : ∀ {Q Q' : VK}, to σ H Q → (∀ v H', Q v H' → Q' v H') → to σ H Q') : tBM0 K "list" r to σ H Q := to_mono h fun _ _ q => ⟨q.1, q.2⟩
theorem tVar_mono {i : Nat} {σ : Sg} {H : Hp} {Q Q' : VK} (h : tVar i σ H Q) (k : ∀ v H', Q v H' → Q' v H') : tVar i σ H Q' := by
  obtain ⟨v, e, q⟩ := h
  exact ⟨v, e, k _ _ q⟩
theorem s_mut0 {name : Str} {id : String} {r : V → List V → Hp → VK → Prop} {op : DM} (hr : MutR X.K r op) (slot : Slot "list" name id) (hty : typeOf (.builtin id) = pure (.type "method_descriptor")) (hm : MtR X id r) (i : Nat)
    (hN : X.N[i]? = some x := by rfl) (hv : Vis X.env.scope x := by first | exact Or.inl rfl | exact Or.inr (Or.inl rfl) | exact Or.inr (Or.inr rfl)) (hd : (x == ("__debug__" : Str)) = false := by decide) (hcd : (x == ("__classdict__" : Str)) = false := by decide)
    (hbase : attributeBase (.Name x px) name X.env (eval (.Name x px) X.env) = eval (.Name x px) X.env := by rfl)
    (hline : (apos.endLine == cpos.line) = true := by rfl)
    (hsw : swapsWith (.Call (.Attribute (.Name x px) name apos) [] [] cpos) none spos.line X.env = pure false := by rfl) :
    PDS X (.Expr (.Call (.Attribute (.Name x px) name apos) [] [] cpos) spos) (dMut i op dNil kDrop) :=
  mPS (ps_expr (pe_bm0 PySem.F.plainAttrs_list slot hty hm (pv i hN hv hd hcd) hbase hline) hsw) fun _ _ _ h => tBM_nil (lift_mutD (tA := tNil) hr h fun _ _ _ z => liftA_nil z) fun q k => tVar_mono q k
end
/-! typed -/
section
variable {α : Type} {ρ : Env} {te : DT} {tr : DTA} {u : DS} {N : DE}
theorem m_appendS (i : Nat) {e : α → D} {l : List α} {v : α} (hi : Env.at ρ i = some (eL .o e l)) (ev : Ev te ρ (e v)) (nb : (e v).nb = true) (hl : l.length < 1000000) (q : u N (ρ.set i (some (eL .o e (l ++ [v]))))) : dSeq (dMut i appM (dCons te dNil) kDrop) u N ρ := by
  show dMut i appM (dCons te dNil) kDrop { N with nx := u N } ρ
  unfold dMut
  rw [hi]
  show dCons te dNil ρ _
  refine ev _ ⟨?_, ?_, ?_⟩
  · show ((e v).nb && D.nbs []) = true
    rw [nb]; rfl
  · rw [List.length_map]; exact hl
  · show u N _
    have : (l.map e ++ [e v]) = (l ++ [v]).map e := by simp
    rw [this]; exact q
def AppQ (e : α → D) (l : List α) (d : D) (K : List D → Prop) : Prop := D.nbs [d] = true ∧ appM (l.map e) [d] fun xs' _ => K xs'
theorem m_appendC (i : Nat) {e : α → D} {l : List α} (hi : Env.at ρ i = some (eL .o e l)) (h : te ρ fun d => AppQ e l d fun xs' => u N (ρ.set i (some (.lst .o xs')))) : dSeq (dMut i appM (dCons te dNil) kDrop) u N ρ := by
  show dMut i appM (dCons te dNil) kDrop { N with nx := u N } ρ
  unfold dMut
  rw [hi]
  exact h
theorem app_leaf {e : α → D} {l : List α} {v : α} {K : List D → Prop} (nb : (e v).nb = true) (hl : l.length < 1000000) (q : K ((l ++ [v]).map e)) : AppQ e l (e v) K := by
  refine ⟨?_, ?_, ?_⟩
  · show ((e v).nb && D.nbs []) = true
    rw [nb]; rfl
  · rw [List.length_map]; exact hl
  · have : (l.map e ++ [e v]) = (l ++ [v]).map e := by simp
    rw [this]; exact q
theorem m_revS (i : Nat) {e : α → D} {l : List α} (hi : Env.at ρ i = some (eL .o e l)) (q : u N (ρ.set i (some (eL .o e l.reverse)))) : dSeq (dMut i revM dNil kDrop) u N ρ := by
  show dMut i revM dNil kDrop { N with nx := u N } ρ
  unfold dMut
  rw [hi]
  refine ⟨rfl, ?_⟩
  show u N _
  rw [← List.map_reverse]; exact q
theorem m_clrS (i : Nat) {e : α → D} {l : List α} (hi : Env.at ρ i = some (eL .o e l)) (q : u N (ρ.set i (some (eL .o e [])))) : dSeq (dMut i clrM dNil kDrop) u N ρ := by
  show dMut i clrM dNil kDrop { N with nx := u N } ρ
  unfold dMut
  rw [hi]
  exact ⟨rfl, q⟩
theorem m_popS (i : Nat) {e : α → D} {l : List α} (hi : Env.at ρ i = some (eL .o e l)) (hl : l ≠ []) (q : u N (ρ.set i (some (eL .o e l.dropLast)))) : dSeq (dMut i (fun xs ds Q => ds = [] ∧ popM xs ds Q) dNil kDrop) u N ρ := by
  show dMut i _ dNil kDrop { N with nx := u N } ρ
  unfold dMut
  rw [hi]
  refine ⟨rfl, rfl, ?_⟩
  show (match (l.map e)[(l.map e).length - 1]? with
    | some d => _
    | none => False)
  have hp := List.length_pos_iff.mpr hl
  rw [List.length_map, List.getElem?_map, List.getElem?_eq_getElem (by omega)]
  show u N _
  rw [← List.map_dropLast]; exact q
end
end DL
namespace DLE
open PySem PySem.AutoSeq1
theorem ext_any (l : Addr) (items : Array Value) (n : Nat) (b : Addr) (items2 : Array Value) (n2 : Nat) (sl : Array (Option Value)) (hc0 : ¬(!items.isEmpty && Builtin.List.listTooLong (items.size + items2.size)) = true) (hc1 : items.size ≤ sizeLine) (hs2 : items.size + items2.size ≤ sizeLine + 1) :
    Meets (Builtin.«list.extend» ⟨[.ref l, .ref b], []⟩) (fun _ R s => s.heap.get? l = some { cls := .type "list", dict := none, data := .seq items n, slots := #[] } ∧ s.heap.get? b = some { cls := .type "list", dict := none, data := .seq items2 n2, slots := sl } ∧ R (.ok (.ret Value.none)) { s with heap := s.heap.update l (Obj.mapSeq fun x => x ++ items2), toks := s.toks }) :=
  .of_wp fun prog w A R s h => by
    obtain ⟨hp, g, d, tk, os⟩ := s; obtain ⟨hl, hb, h⟩ := h; have f1 := idx_int; have f2 := sub_tuple_tuple; have f3 := sub_list_list; have f4 := sub_tuple_list; have f5 := sub_list_tuple;
    have hz' : (items ++ items2).size ≤ sizeLine + 1 := by rw [Array.size_append]; exact hs2
    wp_walk using (wpAny_updateSeq hl rfl (hz := hc1) (_hz' := hz')), wpAny_loadPart' hl, wpAny_loadPart' hb; exact ⟨_, rfl, h⟩
end DLE

namespace DL
open PySem PySem.Spec PyProof.Rows L2
variable [Tb]
def rExtS (K : PySem.W.Frag) : V → List V → Hp → VK → Prop := fun x vs H Q => ∃ l b xs zs, x = .ref l ∧ vs = [.ref b] ∧ H l = some (.lst xs) ∧ SqL K H b zs ∧ xs.length + zs.length ≤ sizeLine ∧ Q .non (upd H l (.lst (xs ++ zs)))
theorem mt_extS {X : Cx} : MtR X "list.extend" (rExtS X.K) := by
  intro pins s σ H x vs v us Q I rx rv h
  obtain ⟨l, b, xs, zs, rfl, rfl, hH, hB, hz, q⟩ := h
  cases rx
  obtain ⟨u, rfl, ru⟩ := rv.one
  cases ru
  obtain ⟨z, its, n, r, hl, e⟩ := I.lstM hH
  obtain ⟨its2, r2, ⟨o, n2, e2, c2, d2, dd2⟩, hl2⟩ := I.list hB
  have hlen2 := r2.length
  obtain ⟨cls, dict, data, sl⟩ := o
  have c2 : cls = _ := c2
  have d2 : dict = _ := d2
  have dd2 : data = _ := dd2
  subst c2 d2 dd2
  have hsz : its.toArray.size + its2.toArray.size ≤ sizeLine := by rw [List.size_toArray, List.size_toArray]; omega
  have hlong : ¬ (!its.toArray.isEmpty && Builtin.List.listTooLong (its.toArray.size + its2.toArray.size)) = true := by
    rw [notLongL hsz, Bool.and_false]
    exact Bool.false_ne_true
  refine call_meets PySem.F.slot_list_extend ⟨_, e, rfl⟩ PySem.F.entry_list_extend (PySem.F.args_list_extend_2 _ _)
    (DLE.ext_any l its.toArray n b its2.toArray n2 sl hlong (by rw [List.size_toArray]; omega) (by omega)) ⟨e, e2, ?_⟩
  refine ⟨.non, _, I.lset (its' := its ++ its2) hH e (by simp) (r.append r2) ?_, rfl, q⟩
  rw [List.length_append]
  omega
def extS : DM := fun xs ds Q => match ds with
  | [.lst _ ys] => xs.length + ys.length < 1000000 ∧ D.nbs ys = true ∧ Q (xs ++ ys) .non
  | _ => False
theorem mut_extS {K : PySem.W.Frag} : MutR K (rExtS K) extS := by
  intro P M B H l us xs Lx vs ds Ld N0 Q hl _ _ rx rd nd bx bd op k
  unfold extS at op
  split at op
  · obtain ⟨y, rfl, r⟩ := v1 rd
    obtain ⟨a, ws, L', rfl, hq, ry, hc⟩ := r.lst_inv
    have n2 := List.nodup_append.mp nd
    obtain ⟨n', s'⟩ := nodup_tl hc n2.2.1
    have l1 := rx.len
    have l2 := ry.len
    have : (1000000 : Nat) < sizeLine := by decide
    refine ⟨l, a, us, ws, rfl, rfl, hl, hq, by omega, k _ _ (Lx ++ L') _ _ [] op.2.2 (Reps.app rx ry) .non (fun b z => ?_) ?_ (nbs_app bx op.2.1) rfl⟩
    · have z : b ∈ Lx ++ L' := z
      rcases List.mem_append.mp z with z | z
      · exact List.mem_append_left _ z
      · exact List.mem_append_right _ (s' b z)
    · show (Lx ++ L').Nodup
      exact nodup_app n2.1 n' fun b z q => n2.2.2 b z b (s' b q) rfl
  · exact op.elim
section
variable {α : Type} {ρ : Env} {te : DT} {tr : DTA} {u : DS} {N : DE}
theorem m_extendS (i : Nat) {e : α → D} {f : Fl} {l m : List α} [Nb e] (hi : Env.at ρ i = some (eL .o e l)) (ev : Ev te ρ (eL f e m)) (nb : (eL f e m).nb = true) (hl : l.length + m.length < 1000000) (q : u N (ρ.set i (some (eL .o e (l ++ m))))) : dSeq (dMut i extS (dCons te dNil) kDrop) u N ρ := by
  show dMut i extS (dCons te dNil) kDrop { N with nx := u N } ρ
  unfold dMut
  rw [hi]
  show dCons te dNil ρ _
  refine ev _ ⟨?_, ?_, ?_, ?_⟩
  · show ((eL f e m).nb && D.nbs []) = true
    rw [nb]; rfl
  · rw [List.length_map, List.length_map]; exact hl
  · exact nbS (all_map Nb.h m)
  · show u N _
    have : (l.map e ++ m.map e) = (l ++ m).map e := by simp
    rw [this]; exact q
theorem m_popAtS (i : Nat) {e : α → D} {l : List α} {j : Int} (hi : Env.at ρ i = some (eL .o e l)) (ev : Ev te ρ (eI j)) (hl : 0 ≤ j ∧ j < l.length ∧ l.length < 1000000) (q : u N (ρ.set i (some (eL .o e (l.eraseIdx j.toNat))))) : dSeq (dMut i (fun xs ds Q => ds ≠ [] ∧ popM xs ds Q) (dCons te dNil) kDrop) u N ρ := by
  show dMut i _ (dCons te dNil) kDrop { N with nx := u N } ρ
  unfold dMut
  rw [hi]
  show dCons te dNil ρ _
  refine ev _ ⟨rfl, (fun z => nomatch z), hl.1, ?_, ?_, ?_⟩
  · rw [List.length_map]; exact hl.2.1
  · rw [List.length_map]; exact hl.2.2
  · rw [List.getElem?_map, List.getElem?_eq_getElem (by omega)]
    show u N _
    have : (l.map e).eraseIdx j.toNat = (l.eraseIdx j.toNat).map e := by
      apply List.ext_getElem?
      intro n
      rw [List.getElem?_map, List.getElem?_eraseIdx, List.getElem?_eraseIdx]
      split <;> rw [List.getElem?_map]
    rw [this]; exact q
end
/-! slices -/
def o3 (f : D → D → D → (D → Prop) → Prop) : DO := fun ds Q => match ds with
  | [x, y, z] => f x y z Q
  | _ => False
def cutL {α : Type} (xs : List α) (lo hi : Option Int) : List α := (xs.drop (HT.sIx xs.length 0 lo)).take (HT.sIx xs.length xs.length hi - HT.sIx xs.length 0 lo)
def partD : D → Option (Option Int)
  | .non => some none
  | .int i => some (some i)
  | _ => none
def slD : D → D → D → (D → Prop) → Prop := fun d a b Q => match partD a, partD b with
  | some lo, some hi => (match d with
    | .lst _ xs => Q (.lst .o (cutL xs lo hi))
    | .tup xs => ¬ (HT.sIx xs.length 0 lo = 0 ∧ HT.sIx xs.length xs.length hi = xs.length) ∧ Q (.tup (cutL xs lo hi))
    | .str z => z.length ≤ sizeLine ∧ Q (.str (cutS z lo hi))
    | _ => False)
  | _, _ => False
def dInt (t : DT) : DT := fun ρ Q => t ρ fun d => match d with
  | .int i => Q (.int i)
  | _ => False
def dNo : DT := dC .non
def dSo (t : DT) : DT := dInt t
def dSl (t a b : DT) : DT := dCall (o3 slD) (dCons t (dCons a (dCons b dNil)))
def OD (a : DT) : Prop := ∀ (K : PySem.W.Frag) (σ : Sg) (H : Hp) (Q : VK), lift K a σ H Q → lift K a σ H fun v H' => (v = .non ∨ ∃ i, v = .int i) ∧ Q v H'
def liftO (K : PySem.W.Frag) (a : DT) : TO := fun σ H Q => lift K a σ H fun v H' => (v = .non → Q none H') ∧ ∀ i, v = .int i → Q (some i) H'
structure PDO (X : Cx) (e : Option Expr) (a : DT) : Prop where
  po : PO X e (liftO X.K a)
  od : OD a
theorem od_int {t : DT} : OD (dInt t) := fun K σ H Q h => by
  obtain ⟨P, M, B, ρ, Q0, s, sl, h0, k⟩ := h
  refine ⟨P, M, B, ρ, fun d => (∃ i, d = .int i) ∧ Q0 d, s, sl, ?_, fun v H' r => ?_⟩
  · have e : (fun d : D => match d with
        | .int i => ((∃ j, D.int i = .int j) ∧ Q0 (.int i) : Prop)
        | _ => False) = fun d : D => match d with
        | .int i => Q0 (.int i)
        | _ => False := by
      funext d
      cases d <;> simp
    show t ρ (fun d : D => match d with
        | .int i => ((∃ j, D.int i = .int j) ∧ Q0 (.int i) : Prop)
        | _ => False)
    rw [e]
    exact h0
  · obtain ⟨c, Lr, ⟨⟨i, rfl⟩, q⟩, g, p, r, n, f⟩ := r
    obtain ⟨rfl, rfl⟩ := r.int_inv
    exact ⟨.inr ⟨i, rfl⟩, k _ _ ⟨_, _, q, g, p, r, n, f⟩⟩
theorem od_no : OD dNo := fun K σ H Q h => by
  have h1 : tC .non σ H Q := lift_c (fun _ _ _ _ => .non) h
  obtain ⟨P, M, B, ρ, Q0, s, sl, h0, k⟩ := h
  refine ⟨P, M, B, ρ, fun d => d = .non, s, sl, rfl, fun v H' r => ?_⟩
  obtain ⟨c, Lr, rfl, g, p, r, n, f⟩ := r
  obtain ⟨rfl, rfl⟩ := r.non_inv
  exact ⟨.inl rfl, k _ _ ⟨_, _, h0, g, p, r, n, f⟩⟩
section
variable {X : Cx}
theorem po_noned : PDO X none dNo := ⟨⟨fun pins s σ H Q I h => po_none.run pins s σ H Q I (by
  have h1 : tC .non σ H _ := lift_c (fun _ _ _ _ => .non) h
  exact h1.1 rfl)⟩, od_no⟩
theorem po_somed {e : Expr} {t : DT} (h : PD X e t) : PDO X (some e) (dSo t) := ⟨⟨fun pins s σ H Q I hh => (po_some h).run pins s σ H Q I (by
  show lift X.K t σ H _
  obtain ⟨P, M, B, ρ, Q0, s, sl, h0, k⟩ := hh
  refine ⟨P, M, B, ρ, _, s, sl, h0, fun v H' r => ?_⟩
  obtain ⟨c, Lr, q, g, p, r, n, f⟩ := r
  cases c with
  | int i =>
    obtain ⟨rfl, rfl⟩ := r.int_inv
    exact ⟨i, rfl, (k _ _ ⟨_, _, q, g, p, r, n, f⟩).2 i rfl⟩
  | _ => exact q.elim)⟩, od_int⟩
def rSlA (K : PySem.W.Frag) : V → Option Int → Option Int → Hp → VK → Prop := fun x lo hi H Q => rSlL K x lo hi H Q ∨ (rSlT K x lo hi H Q ∨ rSlS x lo hi H Q)
theorem sl_any : SlR X (rSlA X.K) := SlR.or sl_list (SlR.or sl_tup sl_str)
theorem reps_cut {K : PySem.W.Frag} {P : Pens} {M B L : List Addr} {H : Hp} {vs : List V} {ds : List D} (r : Reps K P M B H vs ds L) (n : L.Nodup) (lo hi : Option Int) : ∃ L', Reps K P M B H (cutV vs lo hi) (cutL ds lo hi) L' ∧ (∀ a ∈ L', a ∈ L) ∧ L'.Nodup := by
  have hl := r.len
  obtain ⟨L1, L2, _, r2, e2⟩ := reps_split (HT.sIx ds.length 0 lo) r
  obtain ⟨L3, L4, r3, _, e4⟩ := reps_split (HT.sIx ds.length ds.length hi - HT.sIx ds.length 0 lo) r2
  refine ⟨L3, ?_, fun a z => by rw [e2, e4]; simp [z], ?_⟩
  · unfold cutV cutL
    rw [hl]; exact r3
  · rw [e2, e4] at n
    exact (List.nodup_append.mp (List.nodup_append.mp n).2.1).1
theorem sl_do {K : PySem.W.Frag} {x y z : V} {H : Hp} {Q : VK} {lo hi : Option Int} (hy : (y = .non ∧ lo = none) ∨ ∃ i, y = .int i ∧ lo = some i) (hz : (z = .non ∧ hi = none) ∨ ∃ i, z = .int i ∧ hi = some i) (h : rC K (o3 slD) [x, y, z] H Q) : rSlA K x lo hi H Q := by
  obtain ⟨P, M, B, ds, L, Q0, A, q, k⟩ := h
  unfold o3 at q
  split at q
  · rename_i d a b
    have rr := A.reps
    cases rr with
    | @cons _ _ _ _ L1 L2 h1 rr =>
    obtain ⟨u, w, L3, L4, e1, rfl, h2, h3⟩ := v2 rr
    injection e1 with e1 e2
    injection e2 with e2 _
    subst e1 e2
    have pa : partD a = some lo := by
      have h2' := h2
      rcases hy with ⟨rfl, rfl⟩ | ⟨i, rfl, rfl⟩
      · cases a with
        | non => rfl
        | _ => cases h2
      · cases a with
        | int j => cases h2; rfl
        | _ => cases h2
    have pb : partD b = some hi := by
      rcases hz with ⟨rfl, rfl⟩ | ⟨i, rfl, rfl⟩
      · cases b with
        | non => rfl
        | _ => cases h3
      · cases b with
        | int j => cases h3; rfl
        | _ => cases h3
    unfold slD at q
    rw [pa, pb] at q
    have hs : ∀ a ∈ L1, a ∈ L1 ++ (L3 ++ L4) := fun a z => List.mem_append_left _ z
    have n1 := (List.nodup_append.mp A.nd).1
    cases d with
    | lst kk xs =>
      obtain ⟨a1, vs, L', rfl, hq, r, c⟩ := h1.lst_inv
      obtain ⟨n', s'⟩ := nodup_tl c n1
      obtain ⟨L'', r', s'', n''⟩ := reps_cut r n' lo hi
      exact .inl ⟨a1, vs, rfl, hq, fun p hp => k _ _ (A.newl hp r' (fun b z => hs b (s' b (s'' b z))) n'' q)⟩
    | tup xs =>
      obtain ⟨a1, vs, rfl, hq, r⟩ := h1.tup_inv
      obtain ⟨L'', r', s'', n''⟩ := reps_cut r n1 lo hi
      have hl := r.len
      exact .inr (.inl ⟨a1, vs, rfl, hq, by rw [hl]; exact q.1, fun p hp => k _ _ (A.newt hp r' (fun b z => hs b (s'' b z)) n'' q.2)⟩)
    | str z =>
      obtain ⟨rfl, _⟩ := h1.str_inv
      exact .inr (.inr ⟨z, rfl, q.1, k _ _ (A.plain (fun {_} => .str) q.2)⟩)
    | _ => exact q.elim
  · exact q.elim
theorem lift_sl {K : PySem.W.Frag} {t a b : DT} {σ : Sg} {H : Hp} {Q : VK} (oa : OD a) (ob : OD b) (h : lift K (dSl t a b) σ H Q) : tSl (rSlA K) (lift K t) (liftO K a) (liftO K b) σ H Q := by
  have h1 := liftA_cons (lift_call h)
  refine lift_mono h1 fun x H1 h2 => ?_
  have h2 := liftA_cons h2
  refine lift_mono (oa _ _ _ _ h2) fun y H2 ⟨hy, h3⟩ => ?_
  have h3 := liftA_cons h3
  have fin : ∀ lo : Option Int, ((y = .non ∧ lo = none) ∨ ∃ i, y = .int i ∧ lo = some i) → liftO K b σ H2 fun hi H3 => rSlA K x lo hi H3 Q := fun lo hlo => by
    refine lift_mono (ob _ _ _ _ h3) fun z H3 ⟨hz, h4⟩ => ?_
    have h4 := liftA_nil h4
    exact ⟨fun e => sl_do hlo (.inl ⟨e, rfl⟩) h4, fun i e => sl_do hlo (.inr ⟨i, e, rfl⟩) h4⟩
  exact ⟨fun e => fin none (.inl ⟨e, rfl⟩), fun i e => fin (some i) (.inr ⟨i, e, rfl⟩)⟩
theorem pd_sl {e : Expr} {lo hi : Option Expr} {t a b : DT} {pos p2 : Pos} (he : PD X e t) (ha : PDO X lo a) (hb : PDO X hi b) : PD X (.Subscript e (.Slice lo hi none p2) pos) (dSl t a b) := mPE (pe_slice sl_any he ha.po hb.po) fun _ _ _ h => lift_sl ha.od hb.od h
end
/-! typed -/
section
variable {α β γ : Type} {ρ : Env} {ta tb : DT} {i : Int}
def EvO (a : DT) (ρ : Env) (o : Option Int) : Prop := ∃ d, Ev a ρ d ∧ partD d = some o
theorem es_none : EvO dNo ρ none := ⟨.non, fun _ q => q, rfl⟩
theorem es_some (h : Ev ta ρ (eI i)) : EvO (dSo ta) ρ (some i) := ⟨.int i, fun _ q => h _ q, rfl⟩
theorem cut_map {e : α → D} {l : List α} {lo hi : Option Int} : cutL (l.map e) lo hi = (cutL l lo hi).map e := by
  unfold cutL
  rw [List.length_map, List.map_take, List.map_drop]
theorem ev_sl {e : α → D} {f : Fl} {l : List α} {lo hi : Option Int} {a b : DT} (h : Ev ta ρ (eL f e l)) (ha : EvO a ρ lo) (hb : EvO b ρ hi) : Ev (dSl ta a b) ρ (eL .o e (cutL l lo hi)) := fun Q q => by
  obtain ⟨d1, e1, p1⟩ := ha
  obtain ⟨d2, e2, p2⟩ := hb
  refine h _ (e1 _ (e2 _ ?_))
  show slD (.lst f (l.map e)) d1 d2 Q
  unfold slD
  rw [p1, p2]
  show Q (.lst .o (cutL (l.map e) lo hi))
  rw [cut_map]; exact q
end
end DL
set_option maxHeartbeats 4000000
set_option exponentiation.threshold 50000
namespace DL
open PySem PySem.Spec PyProof.Rows L2
variable [Tb]
/-! ### calls with keywords and defaults -/
abbrev GG := {α : Type} → List α → List α → List α → List α
/-- positional ones, what lacks, the keywords' -/
def dKw (n m : Nat) (g : GG) (md : List D) (tr tk : DTA) : DTA := fun ρ Q => tr ρ fun xs => tk ρ fun ys => xs.length = n ∧ ys.length = m ∧ Q (g xs md ys)
structure GOk (n l m : Nat) (g : GG) : Prop where
  vals : ∀ {vs mz zs : List V} {us mv ws : List Value}, Vals vs us → Vals mz mv → Vals zs ws → Vals (g vs mz zs) (g us mv ws)
  reps : ∀ {K : PySem.W.Frag} {P : Pens} {M B : List Addr} {H : Hp} {vs mz zs : List V} {ds md es : List D} {L1 L2 : List Addr}, ds.length = n → md.length = l → es.length = m → Reps K P M B H vs ds L1 → Reps K P M B H mz md [] → Reps K P M B H zs es L2 → (L1 ++ L2).Nodup →
    ∃ L, Reps K P M B H (g vs mz zs) (g ds md es) L ∧ L.Nodup ∧ ∀ a ∈ L, a ∈ L1 ++ L2
section
variable {K : PySem.W.Frag} {P : Pens} {M B : List Addr} {H : Hp} {σ : Sg}
theorem liftA_kw {n l m : Nat} {g : GG} {md : List D} {mz : List V} {tr tk : DTA} {R : List V → Hp → Prop} (G : GOk n l m g) (hl : md.length = l) (hm : ∀ (P : Pens) (M B : List Addr) (H : Hp), Reps K P M B H mz md []) (h : liftA K (dKw n m g md tr tk) σ H R) :
    liftA K tr σ H fun vs H1 => liftA K tk σ H1 fun zs H2 => vs.length = n ∧ zs.length = m ∧ R (g vs mz zs) H2 := by
  obtain ⟨P, M, B, ρ, Q0, s, sl, t, k⟩ := h
  refine ⟨P, M, B, ρ, _, s, sl, t, fun vs H1 r1 => ?_⟩
  obtain ⟨ds, L1, t1, g1, p1, r1, n1, f1⟩ := r1
  have s1 := s.after g1 p1 fun a z => (Reps.own r1 a z).1
  refine ⟨P, L1 ++ M, L1 ++ B, ρ, _, s1, sl.after s g1 f1, t1, fun zs H2 r2 => ?_⟩
  obtain ⟨es, L2, ⟨l1, l2, t2⟩, g2, p2, r2, n2, f2⟩ := r2
  have r1' := Reps.gr g2 s1.lists (new_or f2) (new_or f2) r1
  have nd : (L1 ++ L2).Nodup := nodup_app n1 n2 fun a z q => Reps.trk r1 a z (f2 a q)
  obtain ⟨L, rL, nL, sL⟩ := G.reps (K := K) (P := P) (M := (L1 ++ L2) ++ M) (B := (L1 ++ L2) ++ B) (H := H2) l1 hl l2 (Reps.sub (fun a z => mem3.mpr z) (fun a z => mem3.mpr z) r1') (hm _ _ _ _) (Reps.sub (fun a z => mem3.mpr z) (fun a z => mem3.mpr z) r2) nd
  have fr : ∀ a ∈ L, H a = none := fun a z => by
    rcases List.mem_append.mp (sL a z) with z | z
    · exact f1 a z
    · exact g1.nil p1 (f2 a z)
  have sub : ∀ {M : List Addr}, ∀ a ∈ L ++ M, a ∈ (L1 ++ L2) ++ M := fun a z => (List.mem_append.mp z).elim (fun q => List.mem_append_left _ (sL a q)) fun q => List.mem_append_right _ q
  refine ⟨r1.len.trans l1, r2.len.trans l2, k _ _ ⟨_, L, t2, g1.trans g2, p2.grow fun a z => .inl (mem3.mpr (sub a z)), ?_, nL, fr⟩⟩
  exact Reps.sub sub sub rL
end

abbrev PDK (X : Cx) (kws : List Keyword) (t : DTA) : Prop := PK X kws (liftA X.K t)
theorem mPK {X : Cx} {kws : List Keyword} {t t' : TA} (h : PK X kws t) (k : ∀ σ H Q, t' σ H Q → t σ H Q) : PK X kws t' := ⟨fun pos pins s σ H Q I hw => h.run pos pins s σ H Q I (k _ _ _ hw)⟩
section
variable {X : Cx} {kws : List Keyword} {e : Expr} {te : DT} {tr : DTA} {nm : Option Str} {kpos : Pos}
theorem pdk_nil : PDK X [] dNil := mPK pk_nil fun _ _ _ h => liftA_nil h
theorem pdk_cons (ha : PD X e te) (hr : PDK X kws tr) : PDK X (⟨nm, e, kpos⟩ :: kws) (dCons te tr) := mPK (pk_cons ha hr) fun _ _ _ h => liftA_cons h
end
/-- a def with keyword-only parameters keeps a promise -/
def FdK (P : Program) (w : World) (K : PySem.W.Frag) (mg : Str → Option Value) (base : Heap) (k : Nat) (x : Str) (st : Stmt) (ps : List Str) (kws : List (Str × V)) (S : DSpec) : Prop :=
  ∃ f fd, FnOk P w K mg base CX0 k f fd ps (liftF K S) ∧ mg x = some (.ref f) ∧ PySem.W.keepIn K (.ref f) = true ∧ FunD K x x (defArgs st) (defBody st) (defScope st) [] kws f fd
theorem FdK.imp {P : Program} {w : World} {K : PySem.W.Frag} {mg : Str → Option Value} {base : Heap} {x : Str} {st : Stmt} {ps : List Str} {kws : List (Str × V)} {S : DSpec} {k k' : Nat} (F : FdK P w K mg base k x st ps kws S) (hk : k ≤ k') : FdK P w K mg base k' x st ps kws S := by
  obtain ⟨f, fd, F, a, b, c⟩ := F
  exact ⟨f, fd, F.mono hk, a, b, c⟩
/-- a call's binding: n positional values, the keywords ks, what lacks ms -/
def KwOk (x : Str) (st : Stmt) (ps : List Str) (n : Nat) (ks : List Str) (ms : List Str) (g : GG) : Prop :=
  ∀ (D : Addr) (doc pm : Value) (an : Option Addr) (cdv ct : Value) (us mv ws : List Value), us.length = n → mv.length = ms.length → ws.length = ks.length →
    KwChain D (ms.zip mv) (bindArgs (PySem.W.fnOf x x (defArgs st) (defBody st) (defScope st) .none (.ref D) doc pm an cdv ct) ⟨us, ks.zip ws⟩) (ps.zip (g us mv ws))
section
variable {X : Cx} {e : Expr} {es : List Expr} {kwl : List Keyword} {pos p : Pos} {tr tk : DTA} {k n : Nat} {x : Str} {S : DSpec} {st : Stmt} {ps ks : List Str} {kws ms : List (Str × V)} {md : List D} {g : GG}
theorem pd_fnK (F : FdK X.prog X.w X.K X.mg X.base k x st ps kws S) (hr : Room k X.A) (G : GOk n ms.length ks.length g) (ko : KwOk x st ps n ks (ms.map (·.1)) g) (hk : kws ≠ []) (hms : ∀ q ∈ ms, q ∈ kws) (hml : md.length = ms.length)
    (hmd : ∀ (P : Pens) (M B : List Addr) (H : Hp), Reps X.K P M B H (ms.map (·.2)) md []) (ha : PDA X (e :: es) tr) (hkw : PDK X kwl tk) (hg : Gl X x := by rfl)
    (hall : (backToKw pos (keywordEach kwl X.env)).all (·.1.isSome) = true := by rfl) (hks : (backToKw pos (keywordEach kwl X.env)).filterMap (·.1) = ks := by rfl)
    (hdb : (x == ("__debug__" : Str)) = false := by decide) (he : starEach (e :: es) X.env = (false, eval e X.env) :: starEach es X.env := by rfl)
    (hpl : ((backTo pos (starEach (e :: es) X.env)).any (·.1) || (backToKw pos (keywordEach kwl X.env)).any (·.1.isNone)) = false := by rfl) :
    PD X (.Call (.Name x p) (e :: es) kwl pos) (dFn S (dKw n ks.length g md tr tk)) := by
  obtain ⟨f, fd, F, a, b, c⟩ := F
  obtain ⟨mv, hb⟩ := FunD.kbinds0 (ps := ps) c n ks ms g hk hms (fun r1 r2 r3 => G.vals r1 r2 r3) (fun D doc pm an cdv ct us mv ws h1 h2 h3 => ko D doc pm an cdv ct us mv ws h1 (by rw [List.length_map]; exact h2) h3)
  refine mPE (pe_callN F hr hg a b hb (E := E0) (CX := CX0) pass0 ha hkw hall hks hdb he hpl) fun σ H Q h => ?_
  exact liftA_kw G hml hmd (lift_fn (E := E0) h)
end
/-! the usual ways -/
section
variable {n l m : Nat}
theorem gok_a : GOk n 0 m (fun us _ ws => us ++ ws) := ⟨fun a _ c => a.append c, fun _ _ _ r1 _ r2 nd => ⟨_, Reps.app r1 r2, nd, fun _ z => z⟩⟩
theorem gok_b : GOk n l 0 (fun us mv _ => us ++ mv) := ⟨fun a b _ => a.append b, fun _ _ _ r1 r0 r2 nd => ⟨_, Reps.app r1 r0, by rw [List.append_nil]; exact (List.nodup_append.mp nd).1, fun a z => by rw [List.append_nil] at z; exact List.mem_append_left _ z⟩⟩
theorem gok_c : GOk n l m (fun us mv ws => us ++ (mv ++ ws)) := ⟨fun a b c => a.append (b.append c), fun _ _ _ r1 r0 r2 nd => ⟨_, Reps.app r1 (Reps.app r0 r2), nd, fun _ z => z⟩⟩
theorem gok_d : GOk n l m (fun us mv ws => us ++ (ws ++ mv)) := ⟨fun a b c => a.append (c.append b), fun _ _ _ r1 r0 r2 nd => ⟨_, Reps.app r1 (Reps.app r2 r0), by rw [List.append_nil]; exact nd, fun a z => by rw [List.append_nil] at z; exact z⟩⟩
end
/-- THE RULE for such a def -/
theorem FdK.of {P : Program} {w : World} {K : PySem.W.Frag} {mg : Str → Option Value} {base : Heap} {x : Str} {st : Stmt} {f : Addr} {fd : FuncData} {kws : List (Str × V)} {N ps : List Str} {k : Nat} {S : DSpec} {t : DS} (F : FunD K x x (defArgs st) (defBody st) (defScope st) [] kws f fd) (gm : mg x = some (.ref f)) (Sc : FnScope N ps (defScope st))
    (walk : ∀ (cdv : Value) (A : Around) (outer : List PySem.Env) (s : Shared) (H : Hp) (E : XK), Room k (A.deeper (envOfC x (defScope st) s.heap.objs.size f cdv)) → PDB (cxOf CX0 P w K mg base N x (defScope st) f cdv A outer s H E).nox (defBody st) t)
    (hS : ∀ ds Q, S ds Q → ds.length = ps.length ∧ t (endD Q) (startE N.length ds)) : FdK P w K mg base (k + 1) x st ps kws S := by
  refine ⟨f, fd, F.ok (N := N) Sc (fun vs H Q E h => ?_) (fun cdv A outer s H vs Q E hr h => ⟨liftS K t, PSs.nox (walk cdv A outer s H E hr), def_body hS h⟩), gm, F.kp, F⟩
  obtain ⟨P', M, ds, Q0, s, r, pf, q, _⟩ := h
  rw [r.len]
  exact (hS _ _ q).1
/-! typed -/
section
variable {ρ : Env} {tr tk : DTA} {ds es xs : List D} {n m : Nat} {g : GG} {md : List D}
theorem ea_kw (h1 : EvA tr ρ ds) (h2 : EvA tk ρ es) (l1 : ds.length = n) (l2 : es.length = m) (e : g ds md es = xs) : EvA (dKw n m g md tr tk) ρ xs := fun Q q => h1 _ (h2 _ ⟨l1, l2, by subst e; exact q⟩)
theorem c_kw {Q : List D → Prop} (h : tr ρ fun xs => tk ρ fun ys => xs.length = n ∧ ys.length = m ∧ Q (g xs md ys)) : dKw n m g md tr tk ρ Q := h
end
end DL
set_option maxHeartbeats 4000000
set_option exponentiation.threshold 50000
namespace DL
open PySem PySem.Spec PyProof.Rows L2
variable [Tb]
/-! ### comprehensions with two fors -/
def lc2Go (g : G) (tt : DTT) (it1 : DTI) (vs1 : List Nat) (g1 : G) (tt1 : DTT) (te : DT) (ρw : Env) : List D → List D → (List D → Prop) → Prop
  | [], acc, Q => Q acc
  | d :: ds, acc, Q => G.go g d ρw fun ρ2 => tt ρ2 fun b => if b = true then it1 ρ2 fun es => acc.length + es.length ≤ 1000000 ∧ lcGo g1 tt1 te (wipeE ρ2 vs1) es acc fun acc' => lc2Go g tt it1 vs1 g1 tt1 te ρw ds acc' Q else lc2Go g tt it1 vs1 g1 tt1 te ρw ds acc Q
def dLc2 (it : DTI) (vs : List Nat) (g : G) (tt : DTT) (it1 : DTI) (vs1 : List Nat) (g1 : G) (tt1 : DTT) (te : DT) : DT := fun ρ Q => it ρ fun ds => lc2Go g tt it1 vs1 g1 tt1 te (wipeE ρ vs) ds [] fun ys => Q (.lst .o ys)
section
variable {K : PySem.W.Frag} {P : Pens} {M B L Lr : List Addr} {H H' H5 : Hp} {σ : Sg} {ρ : Env} {v : V} {d : D} {ds es : List D} {vs : List V} {J : It} {A : Addr} {us us' : List V}
theorem Slots.mutB {o : HO} (h : Slots K P M B H σ ρ) (hc : H A = some (.lst us)) (hm : A ∈ M) (hb : A ∈ B) : Slots K P M B (upd H A o) σ ρ := by
  obtain ⟨hl, F, h1, h2, h3, h4⟩ := h
  refine ⟨hl, F, fun i d e => ?_, h2, h3, h4⟩
  obtain ⟨v, e1, r⟩ := h1 i d e
  exact ⟨v, e1, Rep.mutB hc hm hb r fun z => (h2 i A z).2 hb⟩
theorem Src.mutB {N : List Addr} {o : HO} (h : Src K P N M B H ds J) (hN : A ∈ N) (hc : H A = some (.lst us)) (hm : A ∈ M) (hb : A ∈ B) : Src K P N M B (upd H A o) ds J := by
  have f : ∀ {a vs}, SqF K N H a vs → SqF K N (upd H A o) a vs := fun h => SqF.upd h hN
  have r : ∀ {vs ds}, Reps K P M B H vs ds [] → Reps K P M B (upd H A o) vs ds [] := fun h => Reps.mutB hc hm hb h fun z => nomatch z
  cases h with
  | lst h1 h2 => exact .lst (f h1) (r h2)
  | tup h1 h2 => exact .tup (SqT.upd h1 hc) (r h2)
  | str => exact .str
  | rng => exact .rng
  | rdn => exact .rdn
  | enum h1 h2 => exact .enum (f h1) (r h2)
  | zipL h1 h2 h3 h4 => exact .zipL (f h1) (r h2) (f h3) (r h4)
  | zipT h1 h2 h3 h4 => exact .zipT (SqT.upd h1 hc) (r h2) (SqT.upd h3 hc) (r h4)
theorem Stt.mutB {o : List V} (s : Stt P M B H) (hm : A ∈ M) : Stt P M B (upd H A (.lst o)) := ⟨s.pens.mut hm, s.sub, fun a z => by
  by_cases e : a = A
  · subst e; exact ⟨_, upd_same⟩
  · rw [upd_ne e]; exact s.ls a z, fun x z => by
  obtain ⟨xs, e⟩ := s.ls A hm
  exact (s.tabs x z).lst e⟩
/-- where an inner loop stands: the list at A has grown, new lists Lr -/
structure In2 (P : Pens) (M B : List Addr) (H5 : Hp) (A : Addr) (H : Hp) (us : List V) (Lr : List Addr) : Prop where
  s : Stt P M B H5
  am : A ∈ M
  ab : A ∈ B
  a5 : ∃ us0, H5 A = some (.lst us0)
  at_ : H A = some (.lst us)
  gr : Gr (A :: P.as) H5 H
  new : ∀ a ∈ Lr, H5 a = none
  pens : PensOk P (Lr ++ M) H
  own : ∀ a ∈ Lr, ∃ xs, H a = some (.lst xs)
theorem In2.g (I : In2 P M B H5 A H us Lr) : Gr P.as (upd H5 A (.lst us)) H := ⟨fun b o hb n => by
  by_cases e : b = A
  · subst e
    rw [upd_same] at hb
    cases hb
    exact I.at_
  · rw [upd_ne e] at hb
    exact I.gr b o hb fun z => (List.mem_cons.mp z).elim e n, fun b q mT t => I.gr.tab b q mT (TabF.unset (o := .lst us) (fun _ z => (nomatch z)) (fun _ _ z => (nomatch z)) t)⟩
theorem In2.nw (I : In2 P M B H5 A H us Lr) : ∀ a ∈ Lr, (upd H5 A (.lst us)) a = none := fun a z => by
  obtain ⟨us0, e0⟩ := I.a5
  have : a ≠ A := fun e => by
    subst e
    rw [I.new a z] at e0; cases e0
  rw [upd_ne this]; exact I.new a z
theorem In2.stt (I : In2 P M B H5 A H us Lr) : Stt P (Lr ++ M) (Lr ++ B) H := (I.s.mutB I.am).after I.g I.pens I.own
theorem In2.slots (I : In2 P M B H5 A H us Lr) (sl : Slots K P M B H5 σ ρ) : Slots K P (Lr ++ M) (Lr ++ B) H σ ρ := by
  obtain ⟨us0, e0⟩ := I.a5
  exact Slots.after (I.s.mutB I.am) (sl.mutB e0 I.am I.ab) I.g I.nw
theorem In2.wk (I : In2 P M B H5 A H us Lr) (h : Src K P (P.as ++ B) M B H5 ds J) : Wk K P (Lr ++ M) (Lr ++ B) H ds J := by
  obtain ⟨us0, e0⟩ := I.a5
  exact ((h.mutB (List.mem_append_right _ I.ab) e0 I.am I.ab).gr (I.s.mutB I.am).lists I.g (new_or I.nw) (new_or I.nw)).now I.stt.lists
theorem In2.keep (I : In2 P M B H5 A H us Lr) (g : Gr P.as H H') (p : PensOk P (Lr ++ M) H') : In2 P M B H5 A H' us Lr := by
  have np : ∀ a ∈ Lr ++ M, a ∉ P.as := I.stt.np
  refine ⟨I.s, I.am, I.ab, I.a5, g _ _ I.at_ (np A (List.mem_append_right _ I.am)), I.gr.trans (g.sub fun _ z => List.mem_cons_of_mem _ z), I.new, p, fun a z => ?_⟩
  obtain ⟨xs, e⟩ := I.own a z
  exact ⟨xs, g a _ e (np a (List.mem_append_left _ z))⟩
theorem In2.fresh (I : In2 P M B H5 A H us Lr) {a : Addr} (h : H a = none) : H5 a = none := by
  cases e : H5 a with
  | none => rfl
  | some o =>
    by_cases hp : a ∈ P.as
    · obtain ⟨ys, q⟩ := I.stt.lists a hp
      rw [q] at h; cases h
    · by_cases ha : a = A
      · subst ha
        rw [I.at_] at h; cases h
      · exact absurd h (I.gr a o e fun z => (List.mem_cons.mp z).elim ha hp).trk
theorem lift_lc2 {it it1 : DTI} {sv vs1 : List Nat} {g g1 : G} {tt tt1 : DTT} {te : DT} {Q : VK} {wi wi1 : TI} {tT tT1 : TT} {tE : TE} (h : lift K (dLc2 it sv g tt it1 vs1 g1 tt1 te) σ H Q)
    (hw : ∀ R, liftIC K it σ H R → wi σ H R) (hT : ∀ σ H Q, liftT K tt σ H Q → tT σ H Q) (hw1 : ∀ σ H R, liftIC K it1 σ H R → wi1 σ H R) (hT1 : ∀ σ H Q, liftT K tt1 σ H Q → tT1 σ H Q) (hE : ∀ σ H Q, lift K te σ H Q → tE σ H Q)
    (hs : ∀ i ∈ g.slots, i ∈ sv) (hs1 : ∀ i ∈ g1.slots, i ∈ vs1) : tLc2 wi (G.tg K g) tT wi1 (G.tg K g1) tT1 tE sv vs1 σ H Q := by
  obtain ⟨P, M, B, ρ, Q0, s, sl, t, k⟩ := h
  refine hw _ ⟨P, M, B, ρ, _, s, sl, t, fun ds J H1 q gg1 p1 src => ?_⟩
  intro A hA
  have s1 := s.keep gg1 p1
  have sl1 := sl.keep s gg1
  refine ⟨fun i m H => i ≤ ds.length ∧ m = ds.length - i ∧ ∃ acc us L, LcInv K P M B H1 A H acc us L ∧ lc2Go g tt it1 vs1 g1 tt1 te (wipeE ρ sv) (ds.drop i) acc fun ys => Q0 (.lst .o ys),
    ⟨ds.length, Nat.zero_le _, by omega, [], [], [], ⟨upd_same, .nil, by simp, fun a z => ?_, Gr.laid hA, (p1.grow fun a z => ?_).laid hA⟩, q⟩, ?_⟩
  · have e : a = A := by simpa using z
    rw [e]; exact hA
  · rcases List.mem_append.mp z with z | z
    · have e : a = A := by simpa using z
      exact .inr (e ▸ hA)
    · exact .inl z
  rintro i m H2 ⟨hi, rfl, acc, us, L, inv, q⟩
  have s2 := inv.stt s1
  have sl2 := sl1.after (Lr := A :: L) s1 inv.gr inv.new
  have wk := (src.gr s1.lists inv.gr (new_or inv.new) (new_or inv.new)).now s2.lists
  by_cases hlt : i < ds.length
  · refine .inr ⟨wk.go i hlt, fun H' => ∃ acc us L, LcInv K P M B H1 A H' acc us L ∧ lc2Go g tt it1 vs1 g1 tt1 te (wipeE ρ sv) (ds.drop (i + 1)) acc fun ys => Q0 (.lst .o ys), fun H' h' => ⟨_, by omega, hlt, rfl, h'⟩, fun x H3 y => ?_⟩
    obtain ⟨hg, d, ed, rd⟩ := wk.yld i x H3 hlt y
    have g3 : Gr P.as H2 H3 := by
      rcases hg with e | ⟨T, ys, e1, e2⟩
      · rw [e]; exact Gr.refl
      · rw [e2]; exact Gr.laid e1
    have p3 : PensOk P ((A :: L) ++ M) H3 := by
      rcases hg with e | ⟨T, ys, e1, e2⟩
      · rw [e]; exact inv.pens
      · rw [e2]; exact inv.pens.laid e1
    have inv3 := inv.keep s1 g3 p3
    have s3 := inv3.stt s1
    rw [drop_at ed] at q
    simp only [lc2Go] at q
    refine G.ok sv (g := g) (R := []) (L := []) hs (((sl2.keep s2 g3).x.wipe sv).res fun a z => z) rd (fun _ z => nomatch z) List.nodup_nil (fun _ z => nomatch z) q fun ρ' σ' q' sl' e => ⟨e.trans (wipe_idem _ _), ?_⟩
    refine hT _ _ _ ⟨P, _, _, ρ', _, s3, sl'.s, q', fun b H4 q4 g4 p4 => ?_⟩
    have inv4 := inv3.keep s1 g4 p4
    have s4 := inv4.stt s1
    have sl4 := sl'.s.keep s3 g4
    cases b with
    | false => exact ⟨acc, us, L, inv4, q4⟩
    | true =>
      refine hw1 _ _ _ ⟨P, _, _, ρ', _, s4, sl4, q4, fun es J1 H5 q5 g5 p5 src5 => ?_⟩
      obtain ⟨hlen, q5⟩ := q5
      have inv5 := inv4.keep s1 g5 p5
      have s5 := inv5.stt s1
      have sl5 := sl4.keep s4 g5
      have hAm : ∀ {N : List Addr}, A ∈ (A :: L) ++ N := List.mem_append_left _ (List.mem_cons_self ..)
      have hAL : A ∉ L := (List.nodup_cons.mp inv5.nd).1
      refine ⟨fun j k H => j ≤ es.length ∧ k = es.length - j ∧ ∃ acc' us' Lr, In2 P ((A :: L) ++ M) ((A :: L) ++ B) H5 A H us' Lr ∧ Reps K P (Lr ++ ((A :: L) ++ M)) (Lr ++ ((A :: L) ++ B)) H us' acc' (L ++ Lr) ∧ (L ++ Lr).Nodup ∧ acc'.length ≤ acc.length + j ∧
          lcGo g1 tt1 te (wipeE ρ' vs1) (es.drop j) acc' fun acc'' => lc2Go g tt it1 vs1 g1 tt1 te (wipeE ρ sv) (ds.drop (i + 1)) acc'' fun ys => Q0 (.lst .o ys),
        ⟨es.length, Nat.zero_le _, by omega, acc, us, [], ⟨s5, hAm, hAm, ⟨us, inv5.at_⟩, inv5.at_, Gr.refl, (fun _ z => (nomatch z)), inv5.pens, (fun _ z => (nomatch z))⟩, by rw [List.append_nil]; exact inv5.reps, by rw [List.append_nil]; exact (List.nodup_cons.mp inv5.nd).2, by omega, q5⟩, ?_⟩
      rintro j k' H6 ⟨hj, rfl, acc', us', Lr, I2, r6, n6, hacc, q6⟩
      have s6 := I2.stt
      have sl6 := I2.slots sl5
      have wk1 := I2.wk src5
      have hALr : A ∉ Lr := fun z => by
        obtain ⟨us0, e0⟩ := I2.a5
        rw [I2.new A z] at e0; cases e0
      by_cases hlt1 : j < es.length
      · refine .inr ⟨wk1.go j hlt1, fun H => ∃ acc' us' Lr, In2 P ((A :: L) ++ M) ((A :: L) ++ B) H5 A H us' Lr ∧ Reps K P (Lr ++ ((A :: L) ++ M)) (Lr ++ ((A :: L) ++ B)) H us' acc' (L ++ Lr) ∧ (L ++ Lr).Nodup ∧ acc'.length ≤ acc.length + (j + 1) ∧
          lcGo g1 tt1 te (wipeE ρ' vs1) (es.drop (j + 1)) acc' fun acc'' => lc2Go g tt it1 vs1 g1 tt1 te (wipeE ρ sv) (ds.drop (i + 1)) acc'' fun ys => Q0 (.lst .o ys), fun H' h' => ⟨_, by omega, hlt1, rfl, h'⟩, fun x1 H7 y1 => ?_⟩
        obtain ⟨hg1, d1, ed1, rd1⟩ := wk1.yld j x1 H7 hlt1 y1
        have g7 : Gr P.as H6 H7 := by
          rcases hg1 with e | ⟨T, ys, e1, e2⟩
          · rw [e]; exact Gr.refl
          · rw [e2]; exact Gr.laid e1
        have p7 : PensOk P (Lr ++ ((A :: L) ++ M)) H7 := by
          rcases hg1 with e | ⟨T, ys, e1, e2⟩
          · rw [e]; exact I2.pens
          · rw [e2]; exact I2.pens.laid e1
        have I7 := I2.keep g7 p7
        have r7 := Reps.gr g7 s6.lists (fun _ z => .inl z) (fun _ z => .inl z) r6
        rw [drop_at ed1] at q6
        simp only [lcGo] at q6
        refine G.ok vs1 (g := g1) (R := []) (L := []) hs1 (((sl6.keep s6 g7).x.wipe vs1).res fun a z => z) rd1 (fun _ z => nomatch z) List.nodup_nil (fun _ z => nomatch z) q6 fun ρ'' σ'' q' sl'' e => ⟨e.trans (wipe_idem _ _), ?_⟩
        refine hT1 _ _ _ ⟨P, _, _, ρ'', _, I7.stt, sl''.s, q', fun b H8 q8 g8 p8 => ?_⟩
        have I8 := I7.keep g8 p8
        have r8 := Reps.gr g8 I7.stt.lists (fun _ z => .inl z) (fun _ z => .inl z) r7
        have sl8 := sl''.s.keep I7.stt g8
        cases b with
        | false => exact ⟨acc', us', Lr, I8, r8, n6, by omega, q8⟩
        | true =>
          refine hE _ _ _ ⟨P, _, _, ρ'', _, I8.stt, sl8, q8, fun yv H9 r9 => ?_⟩
          obtain ⟨c, Ln, q9, g9, p9, r9, n9, f9⟩ := r9
          have f9 : ∀ a ∈ Ln, H8 a = none := fun a z => (f9 a z).elim id fun q => nomatch q
          have I9 := I8.keep g9 (p9.grow fun a z => .inl (in_r a z))
          have rus := Reps.gr g9 I8.stt.lists (new_or f9) (new_or f9) r8
          have hAn : A ∉ Ln := fun z => by
            have := f9 A z
            rw [I8.at_] at this; cases this
          have hmem : ∀ {N : List Addr}, ∀ a ∈ (Lr ++ Ln) ++ N, a ∈ Ln ++ (Lr ++ N) := fun a z => by
            simp only [List.mem_append] at z ⊢
            rcases z with (z | z) | z
            · exact .inr (.inl z)
            · exact .inl z
            · exact .inr (.inr z)
          have hAX : ∀ {N : List Addr}, A ∈ Ln ++ (Lr ++ ((A :: L) ++ N)) := List.mem_append_right _ (List.mem_append_right _ hAm)
          refine ⟨us', I9.at_, ?_, acc' ++ [c], us' ++ [yv], Lr ++ Ln, ⟨I9.s, I9.am, I9.ab, I9.a5, upd_same, I9.gr.trans (Gr.set (List.mem_cons_self ..) I9.at_ (fun _ _ z => nomatch z) fun _ z => nomatch z), fun a z => ?_, (p9.mut (c := A) hAX).grow fun a z => .inl (hmem a z), fun a z => ?_⟩, ?_, ?_, ?_, q9⟩
          · have hl := r8.len
            have : (1000000 : Nat) < sizeLine := by decide
            omega
          · rcases List.mem_append.mp z with z | z
            · exact I8.new a z
            · exact I8.fresh (f9 a z)
          · by_cases e : a = A
            · subst e; exact ⟨_, upd_same⟩
            · rw [upd_ne e]
              rcases List.mem_append.mp z with z | z
              · exact I9.own a z
              · exact (Rep.own r9 a z).1
          · have h1 := Reps.mutB (o := .lst (us' ++ [yv])) I9.at_ hAX hAX rus (fun z => (List.mem_append.mp z).elim hAL hALr)
            have h2 := Rep.mutB (o := .lst (us' ++ [yv])) I9.at_ hAX hAX r9 hAn
            have h3 := Reps.app h1 (Reps.cons h2 .nil)
            rw [List.append_nil, List.append_assoc] at h3
            exact Reps.sub hmem hmem h3
          · rw [← List.append_assoc]
            exact nodup_app n6 n9 fun a z q => Reps.trk r8 a z (f9 a q)
          · rw [List.length_append]; simp; omega
      · have e : j = es.length := by omega
        subst e
        rw [List.drop_length] at q6
        simp only [lcGo] at q6
        have hmem : ∀ {N : List Addr}, ∀ a ∈ (A :: (L ++ Lr)) ++ N, a ∈ Lr ++ ((A :: L) ++ N) := fun a z => by
          simp only [List.cons_append, List.mem_cons, List.mem_append] at z ⊢
          rcases z with z | (z | z) | z
          · exact .inr (.inl z)
          · exact .inr (.inr (.inl z))
          · exact .inl z
          · exact .inr (.inr (.inr z))
        refine .inl ⟨wk1.stop, acc', us', L ++ Lr, ⟨I2.at_, Reps.sub hmem hmem r6, List.nodup_cons.mpr ⟨fun z => (List.mem_append.mp z).elim hAL hALr, n6⟩, fun a z => ?_, inv5.gr.skip I2.gr hA, I2.pens.grow fun a z => .inl (hmem a z)⟩, q6⟩
        · rcases List.mem_cons.mp z with z | z
          · rw [z]; exact hA
          · rcases List.mem_append.mp z with z | z
            · exact inv5.new a (List.mem_cons_of_mem _ z)
            · exact inv5.gr.nil inv5.pens (I2.new a z)
  · have e : i = ds.length := by omega
    subst e
    rw [List.drop_length] at q
    simp only [lc2Go] at q
    refine .inl ⟨wk.stop, k _ _ ⟨.lst .o acc, A :: L, q, gg1.trans inv.gr, inv.pens, .lstO inv.at_ (s2.np A (List.mem_append_left _ (List.mem_cons_self ..))) inv.reps, inv.nd, fun a z => .inl (gg1.nil p1 (inv.new a z))⟩⟩
end
end DL
set_option maxHeartbeats 4000000
set_option exponentiation.threshold 50000
namespace DL
open PySem PySem.Spec PyProof.Rows L2
variable [Tb]
section
variable {X : Cx} {elt tg iter tg1 iter1 : Expr} {ifs ifs1 : List Expr} {scope : Scope} {own : List (Str × Nat)} {pos : Pos} {it it1 : DTI} {g g1 : G} {tt tt1 : DTT} {te : DT} {k : Nat}
theorem pd_lc2 (vs1 : List Nat) (d : Gd X k) (hi : PIC X tg iter it) (ok : blkC X.N X.env.scope scope own = true) (hsl : ∀ i ∈ g.slots, i ∈ own.map (·.2)) (hv : ∀ i ∈ vs1, i ∈ own.map (·.2)) (hsl1 : ∀ i ∈ g1.slots, i ∈ vs1)
    (hg : Blk X scope fun Y => PDG Y tg g) (ht : Blk X scope fun Y => PDTs Y ifs tt) (hi1 : Blk X scope fun Y => PIC Y tg1 iter1 it1) (hg1 : Blk X scope fun Y => PDG Y tg1 g1) (ht1 : Blk X scope fun Y => PDTs Y ifs1 tt1) (he : Blk X scope fun Y => PD Y elt te)
    (hs : ∀ x, foldedSetIterable iter X.env x = pure x := by intro _; rfl) (hs1 : ∀ env x, foldedSetIterable iter1 env x = pure x := by intro _ _; rfl) :
    PD X (.ListComp elt [⟨tg, iter, ifs, 0⟩, ⟨tg1, iter1, ifs1, 0⟩] scope pos) (dLc2 it (own.map (·.2)) g tt it1 vs1 g1 tt1 te) :=
  mPE (pe_lc2 d.calm d.nd hi (blkOk_by ok) hv hg ht hi1 hg1 ht1 he hs hs1) fun _ _ _ h => lift_lc2 h (fun _ z => z) (fun _ _ _ z => z) (fun _ _ _ z => z) (fun _ _ _ z => z) (fun _ _ _ z => z) hsl hsl1
end
section
variable {α β γ : Type} {ρ : Env} {it it1 : DTI} {vs vs1 : List Nat} {g g1 : G} {tt tt1 : DTT} {te : DT}
theorem ev_lc2 {eX : α → D} {eY : β → D} {eZ : γ → D} {l : List α} {c : α → Bool} {l1 : α → List β} {c1 : α → β → Bool} {f : α → β → γ} (en2 : α → Env) (en3 : α → β → Env) (hi : EvI it ρ (l.map eX)) (hl : ((l.filter c).flatMap l1).length ≤ 1000000)
    (hg : ∀ x (N : Env → Prop), N (en2 x) → G.go g (eX x) (wipeE ρ vs) N) (ht : ∀ x ∈ l, EvT tt (en2 x) (c x)) (hi1 : ∀ x ∈ l, c x = true → EvI it1 (en2 x) ((l1 x).map eY)) (hg1 : ∀ x y (N : Env → Prop), N (en3 x y) → G.go g1 (eY y) (wipeE (en2 x) vs1) N)
    (ht1 : ∀ x ∈ l, c x = true → ∀ y ∈ l1 x, EvT tt1 (en3 x y) (c1 x y)) (he : ∀ x ∈ l, c x = true → ∀ y ∈ l1 x, c1 x y = true → Ev te (en3 x y) (eZ (f x y))) :
    Ev (dLc2 it vs g tt it1 vs1 g1 tt1 te) ρ (eL .o eZ ((l.filter c).flatMap fun x => ((l1 x).filter (c1 x)).map (f x))) := fun Q q => hi _ (by
  have go : ∀ (l' : List α) (acc : List γ) (QA : List D → Prop), (∀ x ∈ l', x ∈ l) → acc.length + ((l'.filter c).flatMap l1).length ≤ 1000000 → QA ((acc ++ (l'.filter c).flatMap fun x => ((l1 x).filter (c1 x)).map (f x)).map eZ) → lc2Go g tt it1 vs1 g1 tt1 te (wipeE ρ vs) (l'.map eX) (acc.map eZ) QA := by
    intro l'
    induction l' with
    | nil =>
      intro acc QA _ _ h
      show QA (acc.map eZ)
      simpa using h
    | cons x l' ih =>
      intro acc QA hm hl h
      show G.go g (eX x) (wipeE ρ vs) _
      refine hg x _ (ht x (hm x (List.mem_cons_self ..)) _ ?_)
      cases ec : c x with
      | false =>
        rw [if_neg (by simp)]
        rw [List.filter_cons, if_neg (by rw [ec]; simp)] at hl h
        exact ih acc QA (fun y hy => hm y (List.mem_cons_of_mem _ hy)) hl h
      | true =>
        rw [if_pos rfl]
        rw [List.filter_cons, if_pos ec, List.flatMap_cons, List.length_append] at hl
        rw [List.filter_cons, if_pos ec, List.flatMap_cons] at h
        have hx := hm x (List.mem_cons_self ..)
        refine hi1 x hx ec _ ⟨by rw [List.length_map, List.length_map]; omega, lc_run (t := c1 x) (h := fun y => eZ (f x y)) (l1 x) (fun y hy K1 K2 kk => ?_) ?_⟩
        · refine hg1 x y _ (ht1 x hx ec y hy _ ?_)
          cases e1 : c1 x y with
          | true => rw [e1] at kk; exact he x hx ec y hy e1 _ kk
          | false => rw [e1] at kk; exact kk
        · have e : acc.map eZ ++ ((l1 x).filter (c1 x)).map (fun y => eZ (f x y)) = (acc ++ ((l1 x).filter (c1 x)).map (f x)).map eZ := by rw [List.map_append, List.map_map]; rfl
          rw [e]
          refine ih _ QA (fun y hy => hm y (List.mem_cons_of_mem _ hy)) ?_ ?_
          · have := List.length_filter_le (c1 x) (l1 x)
            rw [List.length_append, List.length_map]
            omega
          · rw [List.append_assoc]; exact h
  exact go l [] _ (fun _ z => z) (by simpa using hl) (by rw [List.nil_append]; exact q))
theorem ev_lc2M {eX : α → D} {eY : β → D} {eZ : γ → D} {l : List α} {l1 : α → List β} {f : α → β → γ} (en2 : α → Env) (en3 : α → β → Env) (hi : EvI it ρ (l.map eX)) (hl : (l.flatMap l1).length ≤ 1000000)
    (hg : ∀ x (N : Env → Prop), N (en2 x) → G.go g (eX x) (wipeE ρ vs) N) (hi1 : ∀ x ∈ l, EvI it1 (en2 x) ((l1 x).map eY)) (hg1 : ∀ x y (N : Env → Prop), N (en3 x y) → G.go g1 (eY y) (wipeE (en2 x) vs1) N)
    (he : ∀ x ∈ l, ∀ y ∈ l1 x, Ev te (en3 x y) (eZ (f x y))) :
    Ev (dLc2 it vs g dYes it1 vs1 g1 dYes te) ρ (eL .o eZ (l.flatMap fun x => (l1 x).map (f x))) := by
  have := ev_lc2 (tt := dYes) (tt1 := dYes) (c := fun _ => true) (c1 := fun _ _ => true) (eZ := eZ) en2 en3 hi (by rw [filter_all]; exact hl) hg (fun _ _ Q q => q) (fun x hx _ => hi1 x hx) hg1 (fun _ _ _ _ _ Q q => q) (fun x hx _ y hy _ => he x hx y hy)
  simp only [filter_all] at this
  exact this
theorem ev_lc2I {eX : α → D} {eY : β → D} {eZ : γ → D} {l : List α} {l1 : α → List β} {c1 : α → β → Bool} {f : α → β → γ} (en2 : α → Env) (en3 : α → β → Env) (hi : EvI it ρ (l.map eX)) (hl : (l.flatMap l1).length ≤ 1000000)
    (hg : ∀ x (N : Env → Prop), N (en2 x) → G.go g (eX x) (wipeE ρ vs) N) (hi1 : ∀ x ∈ l, EvI it1 (en2 x) ((l1 x).map eY)) (hg1 : ∀ x y (N : Env → Prop), N (en3 x y) → G.go g1 (eY y) (wipeE (en2 x) vs1) N)
    (ht1 : ∀ x ∈ l, ∀ y ∈ l1 x, EvT tt1 (en3 x y) (c1 x y)) (he : ∀ x ∈ l, ∀ y ∈ l1 x, c1 x y = true → Ev te (en3 x y) (eZ (f x y))) :
    Ev (dLc2 it vs g dYes it1 vs1 g1 tt1 te) ρ (eL .o eZ (l.flatMap fun x => ((l1 x).filter (c1 x)).map (f x))) := by
  have := ev_lc2 (tt := dYes) (tt1 := tt1) (c := fun _ => true) (c1 := c1) (eZ := eZ) en2 en3 hi (by rw [filter_all]; exact hl) hg (fun _ _ Q q => q) (fun x hx _ => hi1 x hx) hg1 (fun x hx _ y hy => ht1 x hx y hy) (fun x hx _ y hy hk => he x hx y hy hk)
  simp only [filter_all] at this
  exact this
end
end DL

namespace DL
open PySem PySem.Spec PyProof.Rows L2
variable [Tb]
/-! ### x in range(n) -/
theorem cr_range1 {X : Cx} : CallR X (.type "range") (fun vs H Q => ∃ j, vs = [V.int j] ∧ ∀ p, H p = none → Q (.ref p) (upd H p (.rng 0 j))) := by
  intro pins s σ H vs us Q I r h
  obtain ⟨j, rfl, q⟩ := h
  obtain ⟨u1, rfl, rj⟩ := vals1 r
  obtain ⟨u, rfl⟩ := rj
  refine call_range_1 ⟨.ref s.heap.objs.size, upd H s.heap.objs.size (.rng 0 j), I.laid (t' := s.toks + 1 + 1) (fun b o e => Heap.get?_push_of_some _ e) (Nat.le_refl _) ?_, rfl, q _ (I.hok.fresh (Nat.le_refl _))⟩
  exact ⟨s.toks, u, s.toks + 1, Heap.get?_push_size _ rfl⟩
theorem bo_range : bootBuiltins "range" = some (.type "range") := by decide +kernel
def inRngD (k : Int) : D1
  | .int i, Q => Q (.bl (decide (0 ≤ i ∧ i < k)))
  | _, _ => False
section
variable {X : Cx} {a e i : Expr} {ta te ti : DT} {p p1 p2 q pos px spos : Pos} {k : Int} {j kk : Nat} {x : Str}
theorem pd_inrng (hm : X.mg "range" = none) (ha : PD X a ta) (hg : Gl X "range" := by rfl) (he : starEach [.Constant (.int k) j p1] X.env = (false, eval (.Constant (.int k) j p1) X.env) :: starEach [] X.env := by rfl) (hpl : (backTo p2 (starEach [] X.env)).any (·.1) = false := by rfl)
    (hmk : behindInMarks CmpOp.In (.Call (.Name "range" p) [.Constant (.int k) j p1] [] p2) = false := by first | exact nomark _ | rfl) :
    PD X (.Compare a [.In] [.Call (.Name "range" p) [.Constant (.int k) j p1] [] p2] pos) (dUn (o1 (inRngD k)) ta) :=
  mPE (pe_cmpR op_in_rng ha (pe_callTy cr_range1 hg hm bo_range (pa_cons pe_int pa_nil he) (by decide) (by decide) he hpl) hmk) fun σ H Q h => by
    refine lift_mono (lift_un h) fun v H1 h1 => ?_
    refine to1 h1 fun P M B v' d L Q0 ev A r f k' => ?_
    injection ev with ev _
    subst ev
    unfold inRngD at f
    split at f
    · obtain ⟨rfl, _⟩ := r.int_inv
      refine ⟨_, rfl, fun p hp => ⟨_, p, 0, k, rfl, rfl, upd_same, k' _ _ ⟨_, [], f, Gr.laid hp, A.base.pens.laid hp, .bl, List.nodup_nil, fun _ z => nomatch z⟩⟩⟩
    · exact f.elim
theorem pd_rev {k2 : Nat} {p3 : Pos} (ha : PD X a ta) : PD X (.Subscript a (.Slice none none (some (.UnaryOp .USub (.Constant (.int 1) k2 p1) p2)) p3) pos) (dUn (o1 fun d Q => match d with
    | .lst _ xs => Q (.lst .o xs.reverse)
    | _ => False) ta) := mPE (pe_revL ha) fun σ H Q h => by
  refine lift_mono (lift_un h) fun v H1 h1 => ?_
  refine to1 h1 fun P M B v' d L Q0 ev A r f k' => ?_
  injection ev with ev _
  subst ev
  split at f
  · obtain ⟨a1, vs, L', rfl, hq, rr, c⟩ := r.lst_inv
    obtain ⟨n', s'⟩ := nodup_tl c A.nd
    obtain ⟨L2, r2, pm⟩ := reps_rev rr
    exact ⟨a1, vs, rfl, hq, fun p hp => k' _ _ (A.newl hp r2 (fun b z => s' b (pm.mem_iff.mp z)) (pm.nodup_iff.mpr n') f)⟩
  · exact f.elim
end
/-! ### xs[i] = e -/
def setM : DM := fun xs ds Q => match ds with
  | [d, .int k] => (match ixN xs.length k with
    | some j => Q (xs.set j d) .non
    | none => False)
  | _ => False
def rSetM : V → List V → Hp → VK → Prop := fun x vs H Q => ∃ p xs k j v, x = .ref p ∧ vs = [v, .int k] ∧ H p = some (.lst xs) ∧ ixN xs.length k = some j ∧ Q .non (upd H p (.lst (xs.set j v)))
theorem set_split {α : Type} {xs : List α} {j : Nat} {y : α} (h : j < xs.length) : xs.set j y = xs.take j ++ ([y] ++ xs.drop (j + 1)) := by
  rw [List.set_eq_take_append_cons_drop, if_pos h]
  rfl
theorem mut_set {K : PySem.W.Frag} : MutR K rSetM setM := by
  intro P M B H l us xs Lx vs ds Ld N0 Q hl _ _ rx rd nd bx bd op k
  unfold setM at op
  split at op
  · rename_i d kx
    split at op
    · rename_i j hj
      obtain ⟨v, u, L1, L3, rfl, rfl, r1, r2⟩ := v2 rd
      obtain ⟨rfl, rfl⟩ := r2.int_inv
      have hlen := rx.len
      have hjl : j < xs.length := (ixN_seq hj).2.1
      obtain ⟨La, Lb, ra, rb, rfl⟩ := reps_split j rx
      obtain ⟨Lc, Le, rc, re, rfl⟩ := reps_split 1 rb
      rw [List.drop_drop] at re
      rw [List.drop_drop] at re
      have hm : ∀ a, a ∈ La ++ ((L1 ++ []) ++ Le) → a ∈ (La ++ (Lc ++ Le)) ++ (L1 ++ []) := fun a z => by
        simp only [List.mem_append, List.append_nil] at z ⊢
        rcases z with h | h | h
        · exact .inl (.inl h)
        · exact .inr h
        · exact .inl (.inr (.inr h))
      have e1 : us.set j v = us.take j ++ ([v] ++ us.drop (j + 1)) := set_split (by omega)
      have e2 : xs.set j d = xs.take j ++ ([d] ++ xs.drop (j + 1)) := set_split hjl
      refine ⟨l, us, kx, j, v, rfl, rfl, hl, by rw [hlen]; exact hj, k _ _ (La ++ ((L1 ++ []) ++ Le)) _ _ [] op ?_ .non (fun a z => hm a z) ?_ ?_ rfl⟩
      · rw [e1, e2]
        exact Reps.app ra (Reps.app (.cons r1 .nil) re)
      · rw [List.append_nil] at nd ⊢
        have n1 := List.nodup_append.mp nd
        have n2 := List.nodup_append.mp n1.1
        have n3 := List.nodup_append.mp n2.2.1
        show (La ++ (L1 ++ Le)).Nodup
        refine nodup_app n2.1 (nodup_app n1.2.1 n3.2.1 fun a z q => n1.2.2 a (List.mem_append_right _ (List.mem_append_right _ q)) a z rfl) fun a z q => ?_
        rcases List.mem_append.mp q with q | q
        · exact n1.2.2 a (List.mem_append_left _ z) a q rfl
        · exact n2.2.2 a z a (List.mem_append_right _ q) rfl
      · rw [e2]
        have b1 : d.nb = true := by
          simp only [D.nbs, Bool.and_eq_true] at bd
          exact bd.1
        refine nbs_app (nbs_sub (List.take_sublist ..) bx) ?_
        show (d.nb && D.nbs (xs.drop (j + 1))) = true
        rw [b1, nbs_sub (List.drop_sublist ..) bx]; rfl
    · exact op.elim
  · exact op.elim
section
variable {X : Cx} {e i : Expr} {te ti : DT} {p1 px spos : Pos} {k : Nat} {x : Str}
theorem s_store (n : Nat) (he : PD X e te) (hi : PD X i ti) (hN : X.N[n]? = some x := by rfl) (hv : Vis X.env.scope x := by first | exact Or.inl rfl | exact Or.inr (Or.inl rfl) | exact Or.inr (Or.inr rfl)) (hd : (x == ("__debug__" : Str)) = false := by decide) (hcd : (x == ("__classdict__" : Str)) = false := by decide)
    (ha : ∀ v, assign (.Subscript (.Name x px) i p1) X.env v = (do
      let ov ← holding [v] (eval (.Name x px) X.env)
      let iv ← holding [v, ov] (eval i X.env)
      standAt p1
      holding [v, ov, iv] (setItem ov iv v)
      release [v, ov, iv] []) := by intro _; rfl)
    (hs : swapsWithSole [.Subscript (.Name x px) i p1] e spos.line X.env = pure false := by rfl) (hw : swappedStores [.Subscript (.Name x px) i p1] e X.env = pure none := by rfl) (h1 : (assignEach [.Subscript (.Name x px) i p1] X.env).map (·.2) = [assign (.Subscript (.Name x px) i p1) X.env] := by rfl) :
    PDS X (.Assign [.Subscript (.Name x px) i p1] e spos) (dMut n setM (dCons te (dCons ti dNil)) kDrop) :=
  mPS (ps_asg he (pg_sub (pv n hN hv hd hcd) hi set_list ha) hs hw h1) fun D σ H h => by
    have h0 := lift_mutD (tA := liftA X.K (dCons te (dCons ti dNil))) mut_set h fun _ _ _ z => z
    obtain ⟨v, e1, _, h2⟩ := h0
    refine lift_mono (liftA_cons h2) fun y H1 h3 => ?_
    refine ⟨v, e1, lift_mono (liftA_cons h3) fun z H2 h4 => ?_⟩
    obtain ⟨p, xs, kx, j, y', rfl, ey, hp, hj, q⟩ := liftA_nil h4
    injection ey with ea eb
    injection eb with eb _
    subst ea eb
    exact ⟨p, xs, kx, j, rfl, rfl, hp, hj, q⟩
end
/-! typed -/
section
variable {α : Type} {ρ : Env} {ta te ti : DT} {u : DS} {N : DE} {i k : Int}
theorem o_inrng : Op (o1 (inRngD k)) [eI i] (eB (decide (0 ≤ i ∧ i < k))) := fun _ q => q
theorem ev_rev {e : α → D} {f : Fl} {l : List α} (h : Ev ta ρ (eL f e l)) : Ev (dUn (o1 fun d Q => match d with
    | .lst _ xs => Q (.lst .o xs.reverse)
    | _ => False) ta) ρ (eL .o e l.reverse) := fun Q q => h _ (by
  show Q (.lst .o (l.map e).reverse)
  rw [← List.map_reverse]; exact q)
theorem o_mulL {e : α → D} [Pf e] {l : List α} (h : 0 ≤ k ∧ k < 1000000 ∧ l.length * k.toNat ≤ 1000000) : Op (o2 mulD) [eL .o e l, eI k] (eL .o e (List.replicate k.toNat l).flatten) := fun Q q => by
  have : (1000000 : Nat) < sizeLine := by decide
  refine ⟨pfs_of _ (all_map Pf.h l), h.1, by omega, by rw [List.length_map]; omega, ?_⟩
  have e1 : (List.replicate k.toNat (l.map e)).flatten = ((List.replicate k.toNat l).flatten).map e := by
    rw [List.map_flatten, List.map_replicate]
  rw [e1]; exact q
def setI (l : List α) (k : Int) (v : α) : List α := match ixN l.length k with
  | some j => l.set j v
  | none => l
def SetQ (e : α → D) (l : List α) (ds : List D) (K : List D → Prop) : Prop := D.nbs ds = true ∧ setM (l.map e) ds fun xs' _ => K xs'
theorem m_storeC (n : Nat) {e : α → D} {l : List α} (hi : Env.at ρ n = some (eL .o e l)) (h : te ρ fun d => ti ρ fun k => SetQ e l [d, k] fun xs' => u N (ρ.set n (some (.lst .o xs')))) : dSeq (dMut n setM (dCons te (dCons ti dNil)) kDrop) u N ρ := by
  show dMut n setM (dCons te (dCons ti dNil)) kDrop { N with nx := u N } ρ
  unfold dMut
  rw [hi]
  exact h
theorem set_leaf {e : α → D} {l : List α} {v : α} {K : List D → Prop} (nb : (e v).nb = true) (hk : (ixN l.length k).isSome = true) (q : K ((setI l k v).map e)) : SetQ e l [e v, eI k] K := by
  refine ⟨?_, ?_⟩
  · show ((e v).nb && D.nbs [eI k]) = true
    rw [nb]; rfl
  · show (match ixN (l.map e).length k with
      | some j => K ((l.map e).set j (e v))
      | none => False)
    rw [List.length_map]
    unfold setI at q
    cases ej : ixN l.length k with
    | none => rw [ej] at hk; cases hk
    | some j =>
      rw [ej] at q
      show K ((l.map e).set j (e v))
      rw [← List.map_set]; exact q
theorem m_insertS (n : Nat) {e : α → D} {l : List α} {v : α} {j : Int} (hi : Env.at ρ n = some (eL .o e l)) (e1 : Ev ti ρ (eI j)) (ev : Ev te ρ (e v)) (nb : (e v).nb = true) (hl : l.length < 1000000 ∧ 0 ≤ j ∧ j < 1000000000) (q : u N (ρ.set n (some (eL .o e (l.take j.toNat ++ [v] ++ l.drop j.toNat))))) : dSeq (dMut n insM (dCons ti (dCons te dNil)) kDrop) u N ρ := by
  show dMut n insM (dCons ti (dCons te dNil)) kDrop { N with nx := u N } ρ
  unfold dMut
  rw [hi]
  refine e1 _ (ev _ ⟨?_, ?_, hl.2.1, hl.2.2, ?_⟩)
  · show (true && ((e v).nb && D.nbs [])) = true
    rw [nb]; rfl
  · rw [List.length_map]; exact hl.1
  · show u N _
    have : ((l.map e).take j.toNat ++ [e v] ++ (l.map e).drop j.toNat) = (l.take j.toNat ++ [v] ++ l.drop j.toNat).map e := by simp
    rw [this]; exact q
end
end DL
namespace L2
open PySem PySem.Spec PyProof.Rows
section
variable {X : Cx}
def tLenSetT (K : PySem.W.Frag) (ta : TE) : TE := fun σ H Q => ta σ H fun x H1 => ∃ (l : Addr) (ks : List (Addr × List Int)), x = V.ref l ∧ SqL K H1 l (ks.map fun p => V.ref p.1) ∧ (∀ p ∈ ks, SqT K H1 p.1 (p.2.map V.int)) ∧ ks.length < 64 ∧
  ∀ L : List (List Int), L.Nodup → (∀ k, k ∈ L ↔ k ∈ ks.map (·.2)) → Q (.int L.length) H1
theorem pe_lenSetT {a : Expr} {ta : TE} {p p2 q pos : Pos} (hc : X.calm = true) (hu : X.A.units + 64 < cLine) (hg : Gl X "len") (hm : X.mg "len" = none) (hg2 : Gl X "set") (hm2 : X.mg "set" = none) (ha : PE X a ta)
    (na : starEach [a] X.env = (false, eval a X.env) :: starEach [] X.env := by rfl) : PE X (.Call (.Name "len" p) [.Call (.Name "set" p2) [a] [] q] [] pos) (tLenSetT X.K ta) := by
  refine ⟨fun pins s σ H Q I h => ?_⟩
  refine Call_ (ld_blt I hg hm PySem.boot_len ?_)
  refine PyProof.Rows.callWith_builtin1 (PyProof.Rows.args_cons ?_ rfl) rfl rfl
  refine Call_ (ld_blt I hg2 hm2 PyProof.Rows.boot_set ?_)
  refine PyProof.Rows.callWith_type1 (PyProof.Rows.args_cons (thn (ha.run pins s σ H _ I h) fun v s1 ⟨x, H1, I1, r1, q1⟩ => PyProof.Rows.args_nil ?_) na) na rfl
  obtain ⟨l, ks, rfl, hl, hk, hf, q1⟩ := q1
  cases r1
  obtain ⟨its, rv, pl, hz⟩ := I1.list hl
  refine call_set_tups (P := X.prog) (w := X.w) ks (I1.ok.hd hc) pl.isList (by simpa using refs_of_vals rv) (fun p hp => I1.isT (hk p hp)) hf (by omega) fun h' tk L es ep t R g kp => ?_
  refine PyProof.Rows.args_nil ?_
  obtain ⟨o, ho, hex, hd⟩ := R.ob
  have I2 : Inv X pins σ H1 { s1 with heap := h', toks := tk } := I1.kept fun b o e => kp b o e
  have hn := SetTR.size (s := { s1 with heap := h', toks := tk }) R
  refine call_len_set ho hex hd (SetTR.fits (s := { s1 with heap := h', toks := tk }) R) (by rw [hn]; have := R.few; omega) ⟨.int (L.map (·.2)).length, H1, I2.tok _, ⟨_, by rw [hn, List.length_map]⟩, q1 _ R.nd fun k => ⟨fun hkL => ?_, fun hkk => ?_⟩⟩
  · obtain ⟨p, hp, rfl⟩ := List.mem_map.mp hkL
    exact List.mem_map.mpr ⟨p, List.mem_of_mem_take (g.sub p hp), rfl⟩
  · obtain ⟨p, hp, rfl⟩ := List.mem_map.mp hkk
    exact g.all p (by rw [List.take_length]; exact hp)
end
end L2
namespace DL
open PySem PySem.Spec PyProof.Rows L2
variable [Tb]
def tupI (k : List Int) : D := .tup (k.map D.int)
def lenSetT : D1
  | .lst _ xs, Q => ∃ ks : List (List Int), xs = ks.map tupI ∧ ks.length < 64 ∧ ∀ L : List (List Int), L.Nodup → (∀ k, k ∈ L ↔ k ∈ ks) → Q (.int L.length)
  | _, _ => False
section
variable {X : Cx} {a : Expr} {ta : DT} {p p2 q pos : Pos} {k : Nat}
theorem reps_tupI {K : PySem.W.Frag} {P : Pens} {M B : List Addr} {H : Hp} : ∀ {ks : List (List Int)} {vs : List V} {L : List Addr}, Reps K P M B H vs (ks.map tupI) L → ∃ ps : List (Addr × List Int), vs = ps.map (fun p => V.ref p.1) ∧ ps.map (·.2) = ks ∧ ∀ p ∈ ps, SqT K H p.1 (p.2.map V.int)
  | [], _, _, r => by
    cases r
    exact ⟨[], rfl, rfl, fun _ z => nomatch z⟩
  | k :: ks, _, _, r => by
    cases r with
    | cons h r =>
      obtain ⟨a, us, rfl, hq, rs⟩ := h.tup_inv
      have eu := reps_ints rs
      subst eu
      obtain ⟨ps, rfl, e2, h3⟩ := reps_tupI r
      refine ⟨(a, k) :: ps, rfl, by rw [List.map_cons, e2], fun p hp => ?_⟩
      rcases List.mem_cons.mp hp with e | z
      · rw [e]; exact hq
      · exact h3 p z
theorem pd_lenset (d : Gd X k) (hm : X.mg "len" = none) (hm2 : X.mg "set" = none) (ha : PD X a ta) (hg : Gl X "len" := by rfl) (hg2 : Gl X "set" := by rfl) (na : starEach [a] X.env = (false, eval a X.env) :: starEach [] X.env := by rfl) :
    PD X (.Call (.Name "len" p) [.Call (.Name "set" p2) [a] [] q] [] pos) (dUn (o1 lenSetT) ta) := mPE (pe_lenSetT d.calm d.u' hg hm hg2 hm2 ha na) fun σ H Q h => by
  refine lift_mono (lift_un h) fun v H1 h1 => ?_
  refine to1 h1 fun P M B v' d L Q0 ev A r f k' => ?_
  injection ev with ev _
  subst ev
  unfold lenSetT at f
  split at f
  · obtain ⟨ks, rfl, hl, q⟩ := f
    obtain ⟨a1, vs, L', rfl, hq, rr, c⟩ := r.lst_inv
    obtain ⟨ps, rfl, e2, h3⟩ := reps_tupI rr
    refine ⟨a1, ps, rfl, hq, h3, ?_, fun LL n m => k' _ _ (A.plain (fun {_} => .int) (q LL n fun k => by rw [m, e2]))⟩
    have := congrArg List.length e2
    rw [List.length_map] at this
    omega
  · exact f.elim
end
/-- unlike ones -/
def ddup {α : Type} [DecidableEq α] : List α → List α
  | [] => []
  | x :: l => if x ∈ l then ddup l else x :: ddup l
section
variable {α : Type} [DecidableEq α]
theorem mem_ddup {x : α} : ∀ {l : List α}, x ∈ ddup l ↔ x ∈ l
  | [] => Iff.rfl
  | y :: l => by
    unfold ddup
    split
    · rename_i h
      rw [mem_ddup, List.mem_cons]
      exact ⟨.inr, fun z => z.elim (fun e => e ▸ h) id⟩
    · rw [List.mem_cons, List.mem_cons, mem_ddup]
theorem nodup_ddup : ∀ (l : List α), (ddup l).Nodup
  | [] => List.nodup_nil
  | y :: l => by
    unfold ddup
    split
    · exact nodup_ddup l
    · rename_i h
      exact List.nodup_cons.mpr ⟨fun z => h (mem_ddup.mp z), nodup_ddup l⟩
theorem ddup_self : ∀ {l : List α}, l.Nodup → ddup l = l
  | [], _ => rfl
  | y :: l, h => by
    obtain ⟨h1, h2⟩ := List.nodup_cons.mp h
    unfold ddup
    rw [if_neg h1, ddup_self h2]
theorem ddup_le : ∀ (l : List α), (ddup l).length ≤ l.length
  | [] => Nat.le_refl _
  | y :: l => by
    have := ddup_le l
    unfold ddup
    split
    · rw [List.length_cons]; omega
    · rw [List.length_cons, List.length_cons]; omega
theorem ddup_lt : ∀ {l : List α}, (ddup l).length < l.length ↔ ¬ l.Nodup
  | [] => by simp [ddup]
  | y :: l => by
    have h0 := ddup_le l
    have ih := @ddup_lt l
    unfold ddup
    rw [List.nodup_cons, List.length_cons]
    split
    · rename_i h
      exact ⟨fun _ z => z.1 h, fun _ => by omega⟩
    · rename_i h
      rw [List.length_cons]
      constructor
      · intro z q
        exact ih.mp (by omega) q.2
      · intro z
        have := ih.mpr fun q => z ⟨h, q⟩
        omega
theorem nodup_len_eq {l m : List α} (hl : l.Nodup) (hm : m.Nodup) (h : ∀ x, x ∈ l ↔ x ∈ m) : l.length = m.length := List.Perm.length_eq ((List.perm_ext_iff_of_nodup hl hm).mpr h)
end
/-- tuples of ints -/
class IntsC {α : Type} (e : α → D) (g : outParam (α → List Int)) : Prop where
  h : ∀ x, e x = tupI (g x)
  inj : ∀ x y, g x = g y → x = y
instance : IntsC (eT2 eI eI) (fun p => [p.1, p.2]) := ⟨fun _ => rfl, fun x y h => by
  simp only [List.cons.injEq, and_true] at h
  exact Prod.ext h.1 h.2⟩
theorem o_lenset {α : Type} [DecidableEq α] {e : α → D} {g : α → List Int} [IntsC e g] {f : Fl} {l : List α} (hl : l.length < 64) : Op (o1 lenSetT) [eL f e l] (eI (ddup l).length) := fun Q q => by
  refine ⟨l.map g, ?_, by rw [List.length_map]; exact hl, fun L n m => ?_⟩
  · rw [List.map_map]
    exact List.map_congr_left fun x _ => IntsC.h x
  · have e1 : L.length = ((ddup l).map g).length := by
      refine nodup_len_eq n ?_ fun k => ?_
      · exact (List.pairwise_map).mpr ((nodup_ddup l).imp fun hne he => hne (IntsC.inj (e := e) _ _ he))
      · rw [m, List.mem_map, List.mem_map]
        exact ⟨fun ⟨x, hx, e⟩ => ⟨x, mem_ddup.mpr hx, e⟩, fun ⟨x, hx, e⟩ => ⟨x, mem_ddup.mp hx, e⟩⟩
    rw [e1, List.length_map]
    exact q
end DL
namespace DL
variable [Tb]
section
variable {α : Type} {ρ : Env} {t : DT} {Q : D → Prop} {i : Int}
def int? (d : D) (Q : D → Prop) : Prop := match d with
  | .int i => Q (.int i)
  | _ => False
theorem c_int (h : t ρ fun d => int? d Q) : dSo t ρ Q := h
theorem c_intq (h : Q (eI i)) : int? (eI i) Q := h
theorem o_sl {e : α → D} {f : Fl} {l : List α} {lo hi : Option Int} {d1 d2 : D} (p1 : partD d1 = some lo) (p2 : partD d2 = some hi) : Op (o3 slD) [eL f e l, d1, d2] (eL .o e (cutL l lo hi)) := fun Q q => by
  show slD (.lst f (l.map e)) d1 d2 Q
  unfold slD
  rw [p1, p2]
  show Q (.lst .o (cutL (l.map e) lo hi))
  rw [cut_map]; exact q
theorem c_call0n {β : Type} {S : DSpec} {Q : D → Prop} {ds ds' : List D} {R : β → Prop} {e e' : β → D} [WkC e e'] (hz : D.fzs ds = ds') (hf : D.fls ds = false) (s : ∀ Q : D → Prop, (∀ r, R r → Q (e r)) → S ds' Q) (q : ∀ r, R r → Q (e' r)) : FnQ S ds Q := c_call0 hz hf (s _ fun r hr => c_eq (Q := Q) (WkC.h r) (q r hr))
theorem c_call0d {β : Type} {S : DSpec} {Q : D → Prop} {ds ds' : List D} {v : β} {e e' : β → D} [WkC e e'] (hz : D.fzs ds = ds') (hf : D.fls ds = false) (s : ∀ Q : D → Prop, Q (e v) → S ds' Q) (q : Q (e' v)) : FnQ S ds Q := c_call0 hz hf (s _ (c_eq (Q := Q) (WkC.h v) q))
end
end DL
namespace DL
open PySem PySem.Spec PyProof.Rows L2
variable [Tb]
section
variable {X : Cx} {x : Str} {pos : Pos}
theorem pd_gintX {i : Int} (hm : ∃ t, X.mg x = some (.int i t)) (hg : Gl X x := by rfl) (hd : (x == ("__debug__" : Str)) = false := by decide) : PD X (.Name x pos) (dC (.int i)) := mPE (pe_glob (v := .int i) hg hm.choose_spec ⟨_, rfl⟩ hd) fun _ _ _ => lift_c fun _ _ _ _ => .int
theorem pd_gstrX {i : Str} (hm : ∃ t, X.mg x = some (.str i t)) (hg : Gl X x := by rfl) (hd : (x == ("__debug__" : Str)) = false := by decide) : PD X (.Name x pos) (dC (.str i)) := mPE (pe_glob (v := .str i) hg hm.choose_spec ⟨_, rfl⟩ hd) fun _ _ _ => lift_c fun _ _ _ _ => .str
end
end DL
namespace DL
open PySem PySem.Spec PyProof.Rows L2
variable [Tb]
/-! ### lists of two unlike places -/
section
variable {α β : Type}
def eH2 (k : Fl) (a : α → D) (b : β → D) : α × β → D := fun p => .lst k [a p.1, b p.2]
variable {a a' : α → D} {b b' : β → D}
instance [Pf a] [Pf b] : Pf (eH2 .f a b) := ⟨fun x => by show (true && ((a x.1).pf && ((b x.2).pf && true))) = true; rw [Pf.h, Pf.h]; rfl, fun x => npS (ds := [a x.1, b x.2]) (by simp [Pf.np])⟩
instance [Nb a] [Nb b] : Nb (eH2 .o a b) := ⟨fun x => nbS (ds := [a x.1, b x.2]) (by simp [Nb.h])⟩
instance {k : Fl} [Np a] [Np b] : Np (eH2 k a b) := ⟨fun x => npS (ds := [a x.1, b x.2]) (by simp [Np.h])⟩
instance [Vw a a'] [Vw b b'] : Vw (eH2 .o a b) (eH2 .b a' b') := ⟨fun x => by show D.lst .b [(a x.1).vw, (b x.2).vw] = _; rw [Vw.h (e' := a'), Vw.h (e' := b')]; rfl⟩
instance : Vw (eH2 .b a b) (eH2 .b a b) := ⟨fun _ => rfl⟩
instance : Vw (eH2 .f a b) (eH2 .f a b) := ⟨fun _ => rfl⟩
instance : Fz (eH2 .f a b) (eH2 .f a b) := ⟨fun _ => rfl⟩
instance [Fz a a'] [Fz b b'] : Fz (eH2 .o a b) (eH2 .f a' b') := ⟨fun x => by show D.lst .f [(a x.1).fz, (b x.2).fz] = _; rw [Fz.h (e' := a'), Fz.h (e' := b')]; rfl⟩
instance [Fz a a'] [Fz b b'] : Fz (eH2 .b a b) (eH2 .f a' b') := ⟨fun x => by show D.lst .f [(a x.1).fz, (b x.2).fz] = _; rw [Fz.h (e' := a'), Fz.h (e' := b')]; rfl⟩
instance [Rt a a'] [Rt b b'] : Rt (eH2 .o a b) (eH2 .o a' b') := ⟨fun x => by show D.lst .o [(a x.1).rt, (b x.2).rt] = _; rw [Rt.h (e' := a'), Rt.h (e' := b')]; rfl⟩
instance [WkC a a'] [WkC b b'] : WkC (eH2 .o a b) (eH2 .o a' b') := ⟨fun x => by show D.lst .o [(a x.1).wk, (b x.2).wk] = _; rw [WkC.h (e' := a'), WkC.h (e' := b')]; rfl⟩
instance [WkC a a'] [WkC b b'] : WkC (eH2 .f a b) (eH2 .b a' b') := ⟨fun x => by show D.lst .b [(a x.1).wk, (b x.2).wk] = _; rw [WkC.h (e' := a'), WkC.h (e' := b')]; rfl⟩
instance : FlC true (eH2 .f a b) := ⟨fun _ => rfl⟩
instance : FlC false (eH2 .o a b) := ⟨fun _ => rfl⟩
instance : FlC false (eH2 .b a b) := ⟨fun _ => rfl⟩
instance {n : Nat} {k : Fl} [ShC n a] [ShC n b] : ShC (n + 1) (eH2 k a b) := ⟨fun x => sh_lst (by simp [ShC.h])⟩
instance {k : Fl} : NN (eH2 k a b) := ⟨fun _ => rfl, fun _ => rfl, fun _ => rfl⟩
variable [DecidableEq α] [DecidableEq β]
instance {k k' : Fl} [EqX a a'] [EqX b b'] : EqX (eH2 k a b) (eH2 k' a' b') := ⟨fun x y => by
  show eqD (.lst k [a x.1, b x.2]) (.lst k' [a' y.1, b' y.2]) = _
  rw [eqD_lst, eqA_c, eqA_c, eqA_n, EqX.h, EqX.h, Bool.and_true, ← Bool.decide_and]; exact decide_eq_decide.mpr (by rw [Prod.ext_iff])⟩
instance {k : Fl} [EqC a] [EqC b] : EqC (eH2 k a b) := ⟨fun x y => by
  show eqD (.lst k [a x.1, b x.2]) (.lst k [a y.1, b y.2]) = _
  rw [eqD_lst, eqA_c, eqA_c, eqA_n, EqC.h, EqC.h, Bool.and_true, ← Bool.decide_and]; exact decide_eq_decide.mpr (by rw [Prod.ext_iff])⟩
theorem o_h0 {k : Fl} {x : α × β} : Op (o2 ixD) [eH2 k a b x, eI 0] (a x.1) := fun Q q => by
  show ixD (.lst k [a x.1, b x.2]) (.int 0) Q
  rw [q_ixL, ati0]
  exact q
theorem o_h1 {k : Fl} {x : α × β} : Op (o2 ixD) [eH2 k a b x, eI 1] (b x.2) := fun Q q => by
  show ixD (.lst k [a x.1, b x.2]) (.int 1) Q
  rw [q_ixL, ati1]
  exact q
end
/-! ### what a work lacks: nothing, or a word with up to two numbers -/
inductive Flt where
  | ok
  | w1 (s : OkS)
  | w2 (s : OkS) (i : Int)
  | w3 (s : OkS) (i j : Int)
  deriving DecidableEq
def eF : Flt → D
  | .ok => .non
  | .w1 s => .tup [.str s.1]
  | .w2 s i => .tup [.str s.1, .int i]
  | .w3 s i j => .tup [.str s.1, .int i, .int j]
instance : Pf eF := ⟨fun x => by cases x <;> rfl, fun x => by cases x <;> rfl⟩
instance : WkC eF eF := ⟨fun x => by cases x <;> rfl⟩
instance : FlC true eF := ⟨fun x => by cases x <;> rfl⟩
instance {n : Nat} : ShC (n + 1) eF := ⟨fun x => by
  cases x with
  | ok => exact (inferInstance : ShC (n + 1) eU).h ()
  | w1 s => exact (inferInstance : ShC (n + 1) (eT1 eS)).h s
  | w2 s i => exact (inferInstance : ShC (n + 1) (eT2 eS eI)).h (s, i)
  | w3 s i j => exact (inferInstance : ShC (n + 1) (eT3 eS eI eI)).h (s, i, j)⟩
theorem plF {n : Nat} (x : Flt) : Pl (n + 1) (eF x) := by
  cases x with
  | ok => exact (inferInstance : PlC (n + 1) eU).h ()
  | w1 s => exact (inferInstance : PlC (n + 1) (eT1 eS)).h s
  | w2 s i => exact (inferInstance : PlC (n + 1) (eT2 eS eI)).h (s, i)
  | w3 s i j => exact (inferInstance : PlC (n + 1) (eT3 eS eI eI)).h (s, i, j)
end DL
namespace DL
open PySem PySem.Spec PyProof.Rows L2
variable [Tb]
/-! ### a value that is frozen from now on -/
def dFz (t : DT) : DT := fun ρ Q => t ρ fun d => d.nb = true ∧ Q d.fz
section
variable {K : PySem.W.Frag} {σ : Sg} {H : Hp} {Q : VK} {t : DT}
theorem lift_fz (h : lift K (dFz t) σ H Q) : lift K t σ H Q := by
  obtain ⟨P, M, B, ρ, Q0, s, sl, t, k⟩ := h
  refine ⟨P, M, B, ρ, _, s, sl, t, fun v H' r => k v H' ?_⟩
  obtain ⟨d, L, ⟨nb, q⟩, g, p, r, n, f⟩ := r
  have f : ∀ a ∈ L, H a = none := fun a z => (f a z).elim id fun q => nomatch q
  exact ⟨d.fz, [], q, g, p.grow fun a z => .inl (List.mem_append_right _ z), (Rep.fzn (N := M) (M := L ++ M) (fun a z => List.mem_append_right _ z) r nb fun a z q => s.trk a q (f a z)).1, List.nodup_nil, fun _ z => nomatch z⟩
end
section
variable {X : Cx} {e : Expr} {t : DT} {ρ : Env} {α : Type} {a a' : α → D} {v : α}
theorem pd_fz (h : PD X e t) : PD X e (dFz t) := mPE h fun _ _ _ => lift_fz
theorem ev_fz [Nb a] [Fz a a'] (h : Ev t ρ (a v)) : Ev (dFz t) ρ (a' v) := fun Q q => h _ ⟨Nb.h v, by rw [Fz.h (e' := a')]; exact q⟩
theorem c_fz {Q : D → Prop} (h : t ρ fun d => d.nb = true ∧ Q d.fz) : dFz t ρ Q := h
theorem c_fzQ [Nb a] [Fz a a'] {Q : D → Prop} (q : Q (a' v)) : (a v).nb = true ∧ Q (a v).fz := ⟨Nb.h v, by rw [Fz.h (e' := a')]; exact q⟩
end
end DL
set_option maxHeartbeats 4000000
set_option exponentiation.threshold 50000
namespace DL
open PySem PySem.Spec PyProof.Rows L2
variable [Tb]
/-! ### sorted(set(xs)) of tuples of ints -/
def sortSetT : D1
  | .lst _ xs, Q => ∃ (ks : List (List Int)) (d : Nat) (B : Int), xs = ks.map tupI ∧ ks.length < 64 ∧ 1 ≤ d ∧ (∀ k ∈ ks, k.length = d ∧ TS.Bd B k) ∧
      ∀ L : List (List Int), L.Nodup → (∀ k, k ∈ L ↔ k ∈ ks) → L.Pairwise (fun q r => TS.code B q ≤ TS.code B r) → Q (.lst .o (L.map tupI))
  | _, _ => False
section
variable {K : PySem.W.Frag} {P : Pens} {M B : List Addr} {H : Hp}
theorem reps_tup : ∀ {ps : List (Addr × List Int)}, (∀ p ∈ ps, SqT K H p.1 (p.2.map V.int)) → Reps K P M B H (ps.map fun p => V.ref p.1) ((ps.map (·.2)).map tupI) []
  | [], _ => .nil
  | p :: ps, h => by
    have r := Reps.cons (Rep.tup (K := K) (P := P) (M := M) (B := B) (h p (List.mem_cons_self ..)) (ints_reps p.2)) (reps_tup fun q hq => h q (List.mem_cons_of_mem _ hq))
    exact r
end
section
variable {X : Cx} {a : Expr} {ta : DT} {p p2 q pos : Pos} {k : Nat}
theorem pd_sortset (d : Gd X k) (hm : X.mg "sorted" = none) (hm2 : X.mg "set" = none) (ha : PD X a ta) (hg : Gl X "sorted" := by rfl) (hg2 : Gl X "set" := by rfl) (na : starEach [a] X.env = (false, eval a X.env) :: starEach [] X.env := by rfl) :
    PD X (.Call (.Name "sorted" p) [.Call (.Name "set" p2) [a] [] q] [] pos) (dUn (o1 sortSetT) ta) :=
  mPE (pe_callB (cr_sortedT d.calm) hg hm bo_sorted (pa_cons (pe_callTy (cr_setOfT d.calm d.u') hg2 hm2 bo_set (pa_cons ha pa_nil na) (he := na)) pa_nil)) fun σ H Q h => by
  refine lift_mono (lift_un h) fun v H1 h1 => ?_
  refine to1 h1 fun P M B v' d L Q0 ev A r f k' => ?_
  injection ev with ev _
  subst ev
  unfold sortSetT at f
  split at f
  · obtain ⟨ks, dd, BB, rfl, hl, h1d, hB, q⟩ := f
    obtain ⟨a1, vs, L', rfl, hq, rr, c⟩ := r.lst_inv
    obtain ⟨ps, rfl, e2, h3⟩ := reps_tupI rr
    refine ⟨a1, ps, rfl, hq, h3, ?_, fun b LL hb hsub hall => ?_⟩
    · have := congrArg List.length e2
      rw [List.length_map] at this
      omega
    have g2 : Gr P.as H1 (upd H1 b (SetTO X.prog X.w b LL)) := Gr.laid hb
    have h3' : ∀ p ∈ LL, SqT X.K (upd H1 b (SetTO X.prog X.w b LL)) p.1 (p.2.map V.int) := fun p hp => SqT.gr (h3 p (hsub p hp)) g2 A.stt.lists
    refine ⟨b, LL, dd, BB, rfl, upd_same, h3', h1d, fun p hp => hB p.2 (by rw [← e2]; exact List.mem_map.mpr ⟨p, hsub p hp, rfl⟩), fun L2 c2 pm nd few pw hc2 => k' _ _ ?_⟩
    have p2 : PensOk P (L ++ M) (upd H1 b (SetTO X.prog X.w b LL)) := A.stt.pens.laid hb
    have r2 := Reps.gr g2 A.stt.lists (fun a z => .inl z) (fun a z => .inl z) A.reps
    have A2 : Args X.K P M B (upd H1 b (SetTO X.prog X.w b LL)) [.ref a1] _ L := ⟨A.base.after g2 p2 fun a z => (Reps.own r2 a z).1, r2, A.nd, A.sub, A.out⟩
    have h4 : ∀ p ∈ L2, SqT X.K (upd H1 b (SetTO X.prog X.w b LL)) p.1 (p.2.map V.int) := fun p hp => h3' p (pm.mem_iff.mp hp)
    have q' : Q0 (.lst .o ((L2.map (·.2)).map tupI)) := q _ nd (fun k => by
      rw [← e2]
      constructor
      · intro z
        obtain ⟨p, hp, rfl⟩ := List.mem_map.mp z
        exact List.mem_map.mpr ⟨p, hsub p (pm.mem_iff.mp hp), rfl⟩
      · intro z
        obtain ⟨p, hp, rfl⟩ := List.mem_map.mp z
        obtain ⟨p', hp', e'⟩ := List.mem_map.mp (hall p hp)
        exact List.mem_map.mpr ⟨p', pm.mem_iff.mpr hp', e'⟩) (List.pairwise_map.mpr pw)
    obtain ⟨c, Lr, q0, g', p', r', n', f'⟩ := A2.newl hc2 (reps_tup h4) (fun a z => nomatch z) List.nodup_nil q'
    exact ⟨c, Lr, q0, g2.trans g', p', r', n', fun a z => (f' a z).imp (fun z => g2.nil p2 z) id⟩
  · exact f.elim
end
/-! ### the same of points of the grid, typed -/
def Gq (p : Int × Int) : Prop := 0 ≤ p.1 ∧ p.1 < 64 ∧ 0 ≤ p.2 ∧ p.2 < 64
abbrev leP2 : Int × Int → Int × Int → Bool := leOf (ltT2 ltI ltI)
theorem leP2_iff {p q : Int × Int} (hp : Gq p) (hq : Gq q) : leP2 p q = true ↔ p.1 * 64 + p.2 ≤ q.1 * 64 + q.2 := by
  obtain ⟨h1, h2, h3, h4⟩ := hp
  obtain ⟨g1, g2, g3, g4⟩ := hq
  show (!(decide (q.1 < p.1) || (!decide (p.1 < q.1) && decide (q.2 < p.2)))) = true ↔ _
  rw [Bool.not_eq_true', ← Bool.not_eq_true, Bool.or_eq_true, Bool.and_eq_true, Bool.not_eq_true', decide_eq_true_eq, decide_eq_false_iff_not, decide_eq_true_eq]
  omega
theorem leP2_trans (a b c : Int × Int) (h : leP2 a b = true) (h' : leP2 b c = true) : leP2 a c = true := by
  revert h h'
  show (!(decide (b.1 < a.1) || (!decide (a.1 < b.1) && decide (b.2 < a.2)))) = true → (!(decide (c.1 < b.1) || (!decide (b.1 < c.1) && decide (c.2 < b.2)))) = true → (!(decide (c.1 < a.1) || (!decide (a.1 < c.1) && decide (c.2 < a.2)))) = true
  simp only [Bool.not_eq_true', ← Bool.not_eq_true, Bool.or_eq_true, Bool.and_eq_true, Bool.not_eq_true', decide_eq_true_eq, decide_eq_false_iff_not]
  omega
theorem leP2_total (a b : Int × Int) : (leP2 a b || leP2 b a) = true := by
  show ((!(decide (b.1 < a.1) || (!decide (a.1 < b.1) && decide (b.2 < a.2)))) || (!(decide (a.1 < b.1) || (!decide (b.1 < a.1) && decide (a.2 < b.2))))) = true
  simp only [Bool.or_eq_true, Bool.not_eq_true', ← Bool.not_eq_true, Bool.and_eq_true, decide_eq_true_eq, decide_eq_false_iff_not]
  omega
/-- unlike points in order -/
def srtP (l : List (Int × Int)) : List (Int × Int) := (ddup l).mergeSort leP2
theorem mem_srtP {l : List (Int × Int)} {p : Int × Int} : p ∈ srtP l ↔ p ∈ l := by
  unfold srtP
  rw [(List.mergeSort_perm _ _).mem_iff, mem_ddup]
theorem srtP_nodup (l : List (Int × Int)) : (srtP l).Nodup := (List.mergeSort_perm _ _).nodup_iff.mpr (nodup_ddup l)
theorem srtP_len (l : List (Int × Int)) : (srtP l).length ≤ l.length := by
  unfold srtP
  rw [(List.mergeSort_perm _ _).length_eq]
  exact ddup_le l
theorem srtP_pw (l : List (Int × Int)) : (srtP l).Pairwise fun a b => leP2 a b = true := List.pairwise_mergeSort leP2_trans leP2_total _
/-- what is sorted and unlike, of the same members, is it -/
theorem srtP_of {l m : List (Int × Int)} (hg : ∀ p ∈ l, Gq p) (hn : m.Nodup) (hm : ∀ p, p ∈ m ↔ p ∈ l) (pw : m.Pairwise fun p q => p.1 * 64 + p.2 ≤ q.1 * 64 + q.2) : m = srtP l := by
  have hgm : ∀ p ∈ m, Gq p := fun p hp => hg p ((hm p).mp hp)
  have pw2 : (srtP l).Pairwise fun p q => p.1 * 64 + p.2 ≤ q.1 * 64 + q.2 := by
    refine List.Pairwise.imp_of_mem ?_ (srtP_pw l)
    intro a b ha hb h
    exact (leP2_iff (hg a (mem_srtP.mp ha)) (hg b (mem_srtP.mp hb))).mp h
  refine List.Perm.eq_of_pairwise (fun a b ha hb h1 h2 => ?_) pw pw2 ((List.perm_ext_iff_of_nodup hn (srtP_nodup l)).mpr fun p => by rw [hm, mem_srtP])
  have ga := hgm a ha
  have gb := hg b (mem_srtP.mp hb)
  obtain ⟨x, y⟩ := a
  obtain ⟨x', y'⟩ := b
  unfold Gq at ga gb
  simp only at h1 h2 ga gb
  have e1 : x = x' := by omega
  have e2 : y = y' := by omega
  rw [e1, e2]
theorem o_sortset {f : Fl} {l : List (Int × Int)} (h : l.length < 64 ∧ ∀ p ∈ l, Gq p) : Op (o1 sortSetT) [eL f (eT2 eI eI) l] (eL .o (eT2 eI eI) (srtP l)) := fun Q q => by
  obtain ⟨hl, hg⟩ := h
  refine ⟨l.map fun p => [p.1, p.2], 2, 64, by rw [List.map_map]; rfl, by rw [List.length_map]; exact hl, by decide, fun k hk => ?_, fun L n m pw => ?_⟩
  · obtain ⟨p, hp, rfl⟩ := List.mem_map.mp hk
    obtain ⟨h1, h2, h3, h4⟩ := hg p hp
    refine ⟨rfl, fun i hi => ?_⟩
    simp only [List.mem_cons, List.not_mem_nil, or_false] at hi
    omega
  · have eL1 : L = (L.map fun k => ((k.getD 0 0, k.getD 1 0) : Int × Int)).map fun p => [p.1, p.2] := by
      rw [List.map_map]
      refine (List.map_id L).symm.trans (List.map_congr_left fun k hk => ?_)
      obtain ⟨p, _, rfl⟩ := List.mem_map.mp ((m k).mp hk)
      rfl
    generalize hM : (L.map fun k => ((k.getD 0 0, k.getD 1 0) : Int × Int)) = M at eL1
    subst eL1
    have inj : ∀ p q : Int × Int, [p.1, p.2] = [q.1, q.2] → p = q := fun p q e => by
      injection e with e1 e2
      injection e2 with e2 _
      exact Prod.ext e1 e2
    have eM : M = srtP l := srtP_of hg (List.Pairwise.of_map (fun p : Int × Int => [p.1, p.2]) (fun a b h e => h (by rw [e])) n) (fun p => by
      constructor
      · intro hp
        obtain ⟨p', hp', e'⟩ := List.mem_map.mp ((m [p.1, p.2]).mp (List.mem_map.mpr ⟨p, hp, rfl⟩))
        rw [← inj _ _ e']; exact hp'
      · intro hp
        obtain ⟨p', hp', e'⟩ := List.mem_map.mp ((m [p.1, p.2]).mpr (List.mem_map.mpr ⟨p, hp, rfl⟩))
        rw [← inj _ _ e']; exact hp') (by
      refine (List.pairwise_map.mp pw).imp fun {a b} h => ?_
      rw [code_pair, code_pair] at h
      exact h)
    rw [← eM] at q
    have e2 : (M.map fun p => [p.1, p.2]).map tupI = M.map (eT2 eI eI) := by rw [List.map_map]; rfl
    show Q (.lst .o ((M.map fun p => [p.1, p.2]).map tupI))
    rw [e2]
    exact q
end DL
set_option maxHeartbeats 4000000
namespace DL
open PySem PySem.Spec PyProof.Rows L2
variable [Tb]
section
variable {X : Cx} {elt tg iter tg1 iter1 : Expr} {ifs ifs1 : List Expr} {scope : Scope} {own : List (Str × Nat)} {pos spos py : Pos} {it it1 : DTI} {g g1 : G} {tt tt1 : DTT} {te : DT} {k : Nat} {y : Str}
/-- name = [.. for .. for ..] -/
theorem s_setLc2 (i : Nat) (vs1 : List Nat) (d : Gd X k) (hi : PIC X tg iter it) (ok : blkC X.N X.env.scope scope own = true) (hsl : ∀ i ∈ g.slots, i ∈ own.map (·.2)) (hv : ∀ i ∈ vs1, i ∈ own.map (·.2)) (hsl1 : ∀ i ∈ g1.slots, i ∈ vs1)
    (hg : Blk X scope fun Y => PDG Y tg g) (ht : Blk X scope fun Y => PDTs Y ifs tt) (hi1 : Blk X scope fun Y => PIC Y tg1 iter1 it1) (hg1 : Blk X scope fun Y => PDG Y tg1 g1) (ht1 : Blk X scope fun Y => PDTs Y ifs1 tt1) (he : Blk X scope fun Y => PD Y elt te)
    (hk : X.env.scope.kind = .function := by rfl) (hl : (py.line == pos.line) = true := by rfl)
    (hy : X.N[i]? = some y := by rfl) (hyl : X.env.scope.names.lookup y = some .local := by rfl) (ha : (scope.names.any fun (n, k) => n == y && (k == .local || k == .cell)) = false := by rfl)
    (hs : ∀ x, foldedSetIterable iter X.env x = pure x := by intro _; rfl) (hs1 : ∀ env x, foldedSetIterable iter1 env x = pure x := by intro _ _; rfl) :
    PDS X (.Assign [.Name y py] (.ListComp elt [⟨tg, iter, ifs, 0⟩, ⟨tg1, iter1, ifs1, 0⟩] scope pos) spos) (dAsg (.nm i) (dLc2 it (own.map (·.2)) g tt it1 vs1 g1 tt1 te)) :=
  mPS (ps_setLc2 d.calm d.nd hy hyl (sw_true hk hyl hl ha) hi (blkOk_by ok) hv hg ht hi1 hg1 ht1 he hs hs1) fun _ _ _ h => lift_asg h fun _ _ _ z => lift_lc2 z (fun _ z => z) (fun _ _ _ z => z) (fun _ _ _ z => z) (fun _ _ _ z => z) (fun _ _ _ z => z) hsl hsl1
end
section
variable {α β γ : Type} {a : α → D} {b : β → D} {c : γ → D} {x : α} {y : β × γ} {z : β}
theorem o_addT12 : Op (o2 addD) [eT1 a x, eT2 b c y] (eT3 a b c (x, y)) := fun Q q => by
  show addD (.tup [a x]) (.tup [b y.1, c y.2]) Q
  unfold addD
  exact ⟨by simp, by simp, (by decide : 3 ≤ sizeLine), q⟩
theorem o_addT11 : Op (o2 addD) [eT1 a x, eT1 b z] (eT2 a b (x, z)) := fun Q q => by
  show addD (.tup [a x]) (.tup [b z]) Q
  unfold addD
  exact ⟨by simp, by simp, (by decide : 2 ≤ sizeLine), q⟩
end
section
variable {ρ : Env} {t : DT} {α : Type} {a a' : α → D}
theorem c_fzG [Nb a] [Fz a a'] {Q : D → Prop} (h : ∀ R : D → Prop, (∀ v, Q (a' v) → R (a v)) → t ρ R) : dFz t ρ Q := h _ fun v q => ⟨Nb.h v, by rw [Fz.h (e' := a')]; exact q⟩
end
end DL
set_option maxHeartbeats 4000000
namespace DL
open PySem PySem.Spec PyProof.Rows L2
variable [Tb]
/-! ### x.append(y.pop(..)): what leaves one own list joins another -/
def dMutApp (n i : Nat) (op : DM) (ta : DTA) : DS := fun N ρ => (∃ xs, Env.at ρ n = some (.lst .o xs)) ∧ dMut i op ta (fun c ρ' nx => ∃ xs, Env.at ρ' n = some (.lst .o xs) ∧ c.pf = true ∧ xs.length < 1000000 ∧ nx (ρ'.set n (some (.lst .o (xs ++ [c]))))) N ρ
section
variable {K : PySem.W.Frag} {P : Pens} {M B : List Addr} {H : Hp} {σ : Sg} {ρ : Env} {E : Ends}
theorem Slots.take (h : Slots K P M B H σ ρ) {m n : Nat} (hn : n ≤ m) : Slots K P M B H (σ.take m) (ρ.take n) := by
  obtain ⟨hl, F, h1, h2, h3, h4⟩ := h
  refine ⟨by rw [List.length_take, List.length_take]; omega, F, fun i d e => ?_, h2, h3, h4⟩
  rw [List.getElem?_take] at e
  split at e
  · rename_i hi
    obtain ⟨v, e1, r⟩ := h1 i d e
    exact ⟨v, by rw [List.getElem?_take, if_pos (by omega)]; exact e1, r⟩
  · cases e
theorem EnvNb.take (h : EnvNb ρ) {n : Nat} : EnvNb (ρ.take n) := fun i d e => by
  rw [List.getElem?_take] at e
  split at e
  · exact h i d e
  · cases e
theorem lift_mutApp {n i : Nat} {op : DM} {ta : DTA} {r : V → List V → Hp → VK → Prop} {tA : TA} (hr : MutR K r op) (h : liftS K (dMutApp n i op ta) E σ H) (hA : ∀ σ H Q, liftA K ta σ H Q → tA σ H Q) :
    tDrop (tBM K "list" rAppend (tVar n) (tCons (tBM K "list" r (tVar i) tA) tNil)) E σ H := by
  obtain ⟨P, M, B, ρ, N, s, sl, e, ⟨⟨xs0, e0⟩, t⟩, f⟩ := h
  obtain ⟨v, ev, tv⟩ : ∃ v, σ[n]? = some (some v) ∧ tyV K "list" v H := by
    obtain ⟨hl, F, h1, _⟩ := id sl
    obtain ⟨v, ev, rv⟩ := h1 n _ (Env.at_get e0)
    generalize F n = Fn at rv
    cases rv with
    | @lstO l us _ Lx hl hn rx => exact ⟨_, ev, .inl ⟨rfl, us, SqL.of hl⟩⟩
  refine ⟨v, ev, tv, ?_⟩
  show tBM K "list" r (tVar i) tA σ H fun w H2 => rAppend v [w] H2 fun _ H3 => E.nx σ H3
  refine mut_core (E := E) hr ⟨P, M, B, ρ, N, s, sl, e, t, f⟩ hA fun P M B ρ N H0 c ρ' Mx Hx σ' w Lc s f q a s' sl e rc hc nd bc => ?_
  obtain ⟨xs, en, pc, hx, q⟩ := q
  obtain ⟨rfl, rc'⟩ := rc.pf pc
  obtain ⟨hl, F, h1, h2, h3, h4, _⟩ := sl
  have en' := Env.at_get en
  have hn : n < ρ'.length := (List.getElem?_eq_some_iff.mp en').1
  have hns : n < σ.length := by omega
  let pad : Env := List.replicate (σ.length - ρ'.length) none ++ [some c]
  have lastE : (ρ' ++ pad)[σ.length]? = some (some c) := by
    rw [List.getElem?_append_right hl, List.getElem?_append_right (by rw [List.length_replicate]; omega), List.length_replicate, Nat.sub_self]
    rfl
  have mid : ∀ (j : Nat) (d : D), (ρ' ++ pad)[j]? = some (some d) → (j < ρ'.length ∧ ρ'[j]? = some (some d)) ∨ (j = σ.length ∧ d = c) := fun j d ej => by
    by_cases hj : j < ρ'.length
    · rw [List.getElem?_append_left hj] at ej
      exact .inl ⟨hj, ej⟩
    · rw [List.getElem?_append_right (by omega)] at ej
      by_cases hk : j - ρ'.length < σ.length - ρ'.length
      · rw [List.getElem?_append_left (by rw [List.length_replicate]; exact hk), List.getElem?_replicate, if_pos hk] at ej
        cases ej
      · rw [List.getElem?_append_right (by rw [List.length_replicate]; omega), List.length_replicate] at ej
        cases z : j - ρ'.length - (σ.length - ρ'.length) with
        | zero =>
          rw [z] at ej
          cases ej
          exact .inr ⟨by omega, rfl⟩
        | succ z' =>
          rw [z] at ej
          cases ej
  have sl2 : Slots K P Mx B Hx (σ ++ [some w]) (ρ' ++ pad) := by
    refine ⟨?_, fun j => if j < ρ'.length then F j else [], fun j d ej => ?_, fun j a z => ?_, fun j => ?_, fun j k a z z' => ?_⟩
    · show (ρ' ++ (List.replicate (σ.length - ρ'.length) none ++ [some c])).length ≤ _
      simp only [List.length_append, List.length_replicate, List.length_cons, List.length_nil]
      omega
    · rcases mid j d ej with ⟨hj, ej⟩ | ⟨rfl, rfl⟩
      · obtain ⟨v', e', r'⟩ := h1 j d ej
        simp only [if_pos hj]
        exact ⟨v', by rw [List.getElem?_append_left (by omega)]; exact e', r'⟩
      · simp only [if_neg (show ¬ σ.length < ρ'.length by omega)]
        exact ⟨w, by rw [List.getElem?_append_right (Nat.le_refl _), Nat.sub_self]; rfl, rc'⟩
    · dsimp only at z
      split at z
      · exact h2 j a z
      · cases z
    · dsimp only
      split
      · exact h3 j
      · exact List.nodup_nil
    · dsimp only at z z'
      split at z
      · split at z'
        · exact h4 j k a z z'
        · cases z'
      · cases z
  have eb2 : EnvNb (ρ' ++ pad) := fun j d ej => by
    rcases mid j d ej with ⟨_, ej⟩ | ⟨_, rfl⟩
    · exact e j d ej
    · exact bc
  let N2 : DE := ⟨fun ρ2 => N.nx (ρ2.take ρ'.length), N.rt, fun _ => False, fun _ => False⟩
  let E2 : Ends := ⟨fun σ2 H2 => E.nx (σ2.take σ.length) H2, E.rt, fun _ _ => False, fun _ _ => False⟩
  have f' := f.after a
  have f2 : Fits K P Mx B Hx N2 E2 := ⟨fun P' M' H' σ2 ρ2 q a s sl e => f'.nx P' M' H' _ _ q a s (sl.take hl) e.take, fun _ _ _ _ _ q => q.elim, fun _ _ _ _ _ q => q.elim, f'.rt⟩
  have at_n : Env.at (ρ' ++ pad) n = some (.lst .o xs) := by
    unfold Env.at at en ⊢
    rw [List.getElem?_append_left hn]; exact en
  have at_l : Env.at (ρ' ++ pad) σ.length = some c := by
    unfold Env.at
    rw [lastE]; rfl
  have t2 : dMut n appM (dCons (dVar σ.length) dNil) kDrop N2 (ρ' ++ pad) := by
    unfold dMut
    rw [at_n]
    show dVar σ.length (ρ' ++ pad) _
    unfold dVar
    rw [at_l]
    show _ ∧ _
    rw [D.vw_pf c pc]
    refine ⟨?_, hx, ?_⟩
    · show (c.nb && true) = true
      rw [bc]; rfl
    · show N.nx (((ρ' ++ pad).set n (some (.lst .o (xs ++ [c])))).take ρ'.length)
      rw [List.set_append_left _ _ hn, List.take_append_of_le_length (by rw [List.length_set]; exact Nat.le_refl _), List.take_of_length_le (by rw [List.length_set]; exact Nat.le_refl _)]
      exact q
  have z : tBM K "list" rAppend (tVar n) (tCons (tVar σ.length) tNil) (σ ++ [some w]) Hx fun _ H3 => E.nx σ H3 :=
    mut_core (E := E2) mut_append ⟨P, Mx, B, _, N2, s', sl2, eb2, t2, f2⟩ (fun σ H Q h => by
      have h := liftA_cons h
      obtain h := h
      exact lift_var (lift_mono h fun v H' z => liftA_nil z)) fun P M B ρ N H0 c ρ' Mx Hx σ' w' Lc s f q a s' sl e _ _ _ _ => by
        have := f.nx _ _ _ _ _ q a s' sl.s e
        have e2 : ((σ ++ [some w]).take σ.length) = σ := by rw [List.take_append_of_le_length (Nat.le_refl _), List.take_of_length_le (Nat.le_refl _)]
        have this : E.nx ((σ ++ [some w]).take σ.length) Hx := this
        rw [e2] at this
        exact this
  obtain ⟨v2, ev2, _, z⟩ := z
  rw [List.getElem?_append_left hns, ev] at ev2
  injection ev2 with ev2
  injection ev2 with ev2
  subst ev2
  obtain ⟨w2, ew2, z⟩ := z
  rw [List.getElem?_append_right (Nat.le_refl _), Nat.sub_self] at ew2
  injection ew2 with ew2
  injection ew2 with ew2
  subst ew2
  exact z
end
end DL
set_option maxHeartbeats 4000000
namespace DL
open PySem PySem.Spec PyProof.Rows L2
variable [Tb]
section
variable {X : Cx} {e : Expr} {es : List Expr} {tr : DTA} {px py apos cpos apos2 cpos2 spos : Pos} {x y : Str}
theorem s_mutApp {name : Str} {id : String} {r : V → List V → Hp → VK → Prop} {op : DM} (hr : MutR X.K r op) (slot : Slot "list" name id) (hty : typeOf (.builtin id) = pure (.type "method_descriptor")) (hm : MtR X id r) (n i : Nat) (ha : PDA X (e :: es) tr)
    (hN : X.N[i]? = some x := by rfl) (hv : Vis X.env.scope x := by first | exact Or.inl rfl | exact Or.inr (Or.inl rfl) | exact Or.inr (Or.inr rfl)) (hd : (x == ("__debug__" : Str)) = false := by decide) (hcd : (x == ("__classdict__" : Str)) = false := by decide)
    (hN2 : X.N[n]? = some y := by rfl) (hv2 : Vis X.env.scope y := by first | exact Or.inl rfl | exact Or.inr (Or.inl rfl) | exact Or.inr (Or.inr rfl)) (hd2 : (y == ("__debug__" : Str)) = false := by decide) (hcd2 : (y == ("__classdict__" : Str)) = false := by decide)
    (hbase : attributeBase (.Name x px) name X.env (eval (.Name x px) X.env) = eval (.Name x px) X.env := by rfl)
    (hbase2 : attributeBase (.Name y py) "append" X.env (eval (.Name y py) X.env) = eval (.Name y py) X.env := by rfl)
    (hfew : ((backTo cpos (starEach (e :: es) X.env)).all (fun x => !x.1) && (backToKw cpos (keywordEach [] X.env)).all (fun x => x.1.isSome)
      && decide ((e :: es).length + ([] : List Keyword).length + (if ([] : List Keyword).isEmpty then 0 else 1) < 30)) = true := by rfl)
    (hline : (apos.endLine == cpos.line) = true := by rfl) (hline2 : (apos2.endLine == cpos2.line) = true := by rfl) (hs : starEach (e :: es) X.env = (false, eval e X.env) :: starEach es X.env := by rfl) (hplain : (backTo cpos (starEach es X.env)).any (·.1) = false := by rfl)
    (hsw : swapsWith (.Call (.Attribute (.Name y py) "append" apos2) [.Call (.Attribute (.Name x px) name apos) (e :: es) [] cpos] [] cpos2) none spos.line X.env = pure false := by rfl) :
    PDS X (.Expr (.Call (.Attribute (.Name y py) "append" apos2) [.Call (.Attribute (.Name x px) name apos) (e :: es) [] cpos] [] cpos2) spos) (dMutApp n i op tr) :=
  mPS (ps_expr (pe_bm PySem.F.plainAttrs_list PySem.F.slot_list_append PySem.F.type_list_append mt_append (pv n hN2 hv2 hd2 hcd2) (pa_cons (pe_bm PySem.F.plainAttrs_list slot hty hm (pv i hN hv hd hcd) ha hbase hfew hline hs hplain) pa_nil) hbase2 rfl hline2) hsw) fun _ _ _ h => lift_mutApp hr h fun _ _ _ z => z
end
section
variable {α : Type} {ρ : Env} {te : DT} {u : DS} {N : DE}
def PopAppQ (n i : Nat) (e : α → D) (l : List α) (ρ : Env) (K : Env → Prop) (ds : List D) : Prop := D.nbs ds = true ∧ (ds ≠ [] ∧ popM (l.map e) ds fun xs' c => ∃ xs, Env.at (ρ.set i (some (.lst .o xs'))) n = some (.lst .o xs) ∧ c.pf = true ∧ xs.length < 1000000 ∧ K ((ρ.set i (some (.lst .o xs'))).set n (some (.lst .o (xs ++ [c])))))
theorem m_popAppC (n i : Nat) {e : α → D} {m l : List α} (hn : Env.at ρ n = some (eL .o e m)) (hi : Env.at ρ i = some (eL .o e l)) (h : te ρ fun d => PopAppQ n i e l ρ (u N) [d]) :
    dSeq (dMutApp n i (fun xs ds Q => ds ≠ [] ∧ popM xs ds Q) (dCons te dNil)) u N ρ := by
  show dMutApp n i _ (dCons te dNil) { N with nx := u N } ρ
  refine ⟨⟨_, hn⟩, ?_⟩
  unfold dMut
  rw [hi]
  exact h
theorem popapp_leaf {n i : Nat} {e : α → D} [Pf e] [Inhabited α] {m l : List α} {j : Int} {K : Env → Prop} (hni : n ≠ i) (hn : Env.at ρ n = some (eL .o e m)) (hj : 0 ≤ j ∧ j < l.length ∧ l.length < 1000000 ∧ m.length < 1000000)
    (q : K ((ρ.set i (some (eL .o e (l.eraseIdx j.toNat)))).set n (some (eL .o e (m ++ [gI l j]))))) : PopAppQ n i e l ρ K [eI j] := by
  obtain ⟨h0, h1, h2, h3⟩ := hj
  refine ⟨rfl, (fun z => nomatch z), h0, by rw [List.length_map]; exact h1, by rw [List.length_map]; exact h2, ?_⟩
  have hjl : j.toNat < l.length := by omega
  have eg : gI l j = l[j.toNat] := by
    have := gi_nat (l := l) hjl
    rwa [show ((j.toNat : Nat) : Int) = j by omega] at this
  rw [List.getElem?_map, List.getElem?_eq_getElem hjl]
  show ∃ xs, _
  refine ⟨m.map e, ?_, Pf.h _, by rw [List.length_map]; exact h3, ?_⟩
  · unfold Env.at at hn ⊢
    rw [List.getElem?_set_ne (fun z => hni z.symm)]
    exact hn
  · rw [eg] at q
    have e1 : (l.map e).eraseIdx j.toNat = (l.eraseIdx j.toNat).map e := by
      rw [List.eraseIdx_eq_take_drop_succ, List.eraseIdx_eq_take_drop_succ, List.map_append, List.map_take, List.map_drop]
    have e2 : m.map e ++ [e l[j.toNat]] = (m ++ [l[j.toNat]]).map e := by simp
    rw [e1, e2]
    exact q
end
section
variable {ρ : Env} {ta te : DT} {vs : List Nat} {g : G} {Q : D → Prop}
theorem c_lcR (h : ta ρ fun d => dLc (dRng1 (dC d)) vs g dYes te ρ Q) : dLc (dRng1 ta) vs g dYes te ρ Q := h
end
theorem o_isF {v : Flt} : Op (o2 (isO id)) [eF v, eU ()] (eB (decide (v = .ok))) := fun Q q => by
  show isO id (eF v) .non Q
  rw [q_isn]
  cases v <;> exact q
theorem o_isnF {v : Flt} : Op (o2 (isO not)) [eF v, eU ()] (eB (!decide (v = .ok))) := fun Q q => by
  show isO not (eF v) .non Q
  rw [q_isn]
  cases v <;> exact q
section
variable {ρ : Env} {te : DT} {vs : List Nat} {g : G} {Q : D → Prop} {β : Type}
theorem lcr_leaf {eY : β → D} {j : Int} {f : Int → β} (en2 : Int → Env) (hj : -1000000000000 ≤ j ∧ j ≤ 1000000000000) (hl : (rngL 0 j).length ≤ 1000000)
    (hg : ∀ x (N : Env → Prop), N (en2 x) → G.go g (eI x) (wipeE ρ vs) N) (he : ∀ x ∈ rngL 0 j, Ev te (en2 x) (eY (f x))) (q : Q (eL .o eY ((rngL 0 j).map f))) : dLc (dRng1 (dC (eI j))) vs g dYes te ρ Q :=
  ev_lcM (eX := eI) (eY := eY) (l := rngL 0 j) (f := f) en2 (ei_r1 (ev_c (d := eI j)) hj) hl hg he Q q
end
end DL
set_option maxHeartbeats 4000000
set_option exponentiation.threshold 50000
namespace DL
open PySem PySem.Spec PyProof.Rows L2
variable [Tb]
open Sem (wp)
/-! ### min(xs) of a list of pairs of ints: the comparison looks at what stands -/
section
variable {pg : Program} {wo : World} {A : Around} {Z : Result → Shared → Prop} {it : Addr} {own wrt : List Addr} {m : Nat} {Ps : Nat → Value → Prop} {Sg : Nat → Heap → Prop}
def LtIn (pg : Program) (wo : World) (A : Around) (C : Heap → Prop) (Ps : Nat → Value → Prop) (lt : Nat → Nat → Bool) : Prop :=
  ∀ i j x y (s : Shared) (Q E : Value → Shared → Prop), C s.heap → Ps i x → Ps j y → Q (.bool (lt i j)) s → wpAny (model pg wo) A (richCompare .Lt x y) Q E s
theorem least_loop (W : Walks pg wo A.in1 it own wrt m Ps Sg) (lt : Nat → Nat → Bool) (C : Heap → Prop) (box : Addr) (far : box ∉ own)
    (keep : ∀ h h', C h → (∀ b o, b ∉ wrt → b ≠ box → h.get? b = some o → h'.get? b = some o) → C h') (cmp : LtIn pg wo A.in1 C Ps lt) :
    ∀ (left at_ : Nat) (s : Shared) (best : Value) (c : Nat), m - (at_ + 1) = left → at_ + 1 ≤ m → Sg (at_ + 1) s.heap → C s.heap → Ps (argBest lt at_) best →
    s.heap.get? box = some { cls := .type "list", dict := none, data := .seq #[best, best] c, slots := #[] } →
    (∀ v g tk, Ps (argBest lt (m - 1)) v → (∀ b o, b ∉ wrt → b ≠ box → s.heap.get? b = some o → g.get? b = some o) → Z (.ok (.ret v)) { s with heap := g, toks := tk }) →
    codeAny (model pg wo) A (.builtin "min.loop" ⟨[.ref it, .none, .ref box], []⟩) Z s := by
  have off : box ∉ wrt := fun z => far (W.sub _ z)
  have nm : (toString "min" ++ toString ".loop" : String) = "min.loop" := by decide
  intro left
  induction left with
  | zero =>
    intro at_ s best c e0 le st cc pb hb k
    have all : at_ + 1 = m := by omega
    refine codeAny_builtin F.entry_min_loop ?_
    rw [Around.under_plainId F.plain_min_loop _]
    show wpAny _ A.in1 (seqItems? (.ref box) >>= _) _ _ s
    refine wpAny_bind (wpAny_seqItems hb rfl ?_); show wpAny _ A.in1 (tryCatch (pyNext (.ref it)) _ >>= _) _ _ s
    refine wpAny_bind (wpAny_tryCatch (W.done s _ _ (all ▸ st) fun g tk kp => ?_))
    have hb' := kp box _ off hb
    show wpAny _ A.in1 (updateSeq box (fun _ => #[]) >>= _) _ _ _
    refine wpAny_bind (wpAny_updateSeq hb' rfl (wpAny_bind (wpAny_letGo (wpAny_pure ?_))))
    exact k best _ tk (by rw [← all]; exact pb) fun b o bw bs e => (Heap.get?_update_other _ _ (Ne.symm bs)).trans (kp b o bw e)
  | succ left again =>
    intro at_ s best c e0 le st cc pb hb k
    have more : at_ + 1 < m := by omega
    refine codeAny_builtin F.entry_min_loop ?_
    rw [Around.under_plainId F.plain_min_loop _]
    show wpAny _ A.in1 (seqItems? (.ref box) >>= _) _ _ s
    refine wpAny_bind (wpAny_seqItems hb rfl ?_); show wpAny _ A.in1 (tryCatch (pyNext (.ref it)) _ >>= _) _ _ s
    refine wpAny_bind (wpAny_tryCatch (W.item (at_ + 1) s _ _ more st fun v g tk pv st' kp => ?_))
    have hb' := kp box _ off hb
    have cc' : C g := keep _ _ cc fun b o bw _ e => kp b o bw e
    show wpAny _ A.in1 (tryCatch (holding [v, v] (richCompare .Lt v best >>= _)) _ >>= _) _ _ _
    refine wpAny_bind (wpAny_tryCatch (wpAny_holding (wpAny_bind (cmp (at_ + 1) (argBest lt at_) v best _ _ _ cc' pv pb ?_))))
    refine wpAny_bind (wpAny_holding (wpAny_truthy_bool ?_)); refine wpAny_bind (wpAny_letGo (wpAny_pure ?_))
    cases hb2 : lt (at_ + 1) (argBest lt at_) with
    | true =>
      simp only [if_true]
      refine wpAny_bind (wpAny_updateSeq hb' rfl (wpAny_bind (wpAny_letGo ?_)))
      rw [nm]
      refine wpAny_pure ⟨plainId_quiet F.plain_min_loop _, again (at_ + 1) _ v _ (by omega) more (W.frame _ _ _ st' fun b bo o e => ?_) (keep _ _ cc' fun b o _ bs e => (Heap.get?_update_other _ _ (Ne.symm bs)).trans e)
        (by simp only [argBest, hb2, if_true]; exact pv) (Heap.get?_update_self _ hb' rfl) fun v' g2 tk2 pv' kp2 => ?_⟩
      · exact (Heap.get?_update_other _ _ (fun z : box = b => far (by rw [z]; exact bo))).trans e
      · exact k v' g2 tk2 pv' fun b o bw bs e => kp2 b o bw bs ((Heap.get?_update_other _ _ (Ne.symm bs)).trans (kp b o bw e))
    | false =>
      simp only [Bool.false_eq_true, if_false]
      refine wpAny_bind (wpAny_letGo ?_); rw [nm]
      refine wpAny_pure ⟨plainId_quiet F.plain_min_loop _, again (at_ + 1) _ best c (by omega) more st' cc' (by simp only [argBest, hb2, Bool.false_eq_true, if_false]; exact pb) hb' fun v' g2 tk2 pv' kp2 => ?_⟩
      exact k v' g2 tk2 pv' fun b o bw bs e => kp2 b o bw bs (kp b o bw e)
theorem least_first (W : Walks pg wo A.in1 it own wrt m Ps Sg) (lt : Nat → Nat → Bool) (C : Heap → Prop) (box : Addr) (far : box ∉ own)
    (keep : ∀ h h', C h → (∀ b o, b ∉ wrt → b ≠ box → h.get? b = some o → h'.get? b = some o) → C h') (cmp : LtIn pg wo A.in1 C Ps lt) (pos : 0 < m) {s : Shared} {c : Nat} (st : Sg 0 s.heap) (cc : C s.heap)
    (hb : s.heap.get? box = some { cls := .type "list", dict := none, data := .seq #[] c, slots := #[] })
    (k : ∀ v g tk, Ps (argBest lt (m - 1)) v → (∀ b o, b ∉ wrt → b ≠ box → s.heap.get? b = some o → g.get? b = some o) → Z (.ok (.ret v)) { s with heap := g, toks := tk }) :
    codeAny (model pg wo) A (.builtin "min.loop" ⟨[.ref it, .none, .ref box], []⟩) Z s := by
  have off : box ∉ wrt := fun z => far (W.sub _ z)
  have nm : (toString "min" ++ toString ".loop" : String) = "min.loop" := by decide
  refine codeAny_builtin F.entry_min_loop ?_
  rw [Around.under_plainId F.plain_min_loop _]; show wpAny _ A.in1 (seqItems? (.ref box) >>= _) _ _ s
  refine wpAny_bind (wpAny_seqItems hb rfl ?_); show wpAny _ A.in1 (tryCatch (pyNext (.ref it)) _ >>= _) _ _ s
  refine wpAny_bind (wpAny_tryCatch (W.item 0 s _ _ pos st fun v g tk pv st' kp => ?_))
  have hb' := kp box _ off hb
  have cc' : C g := keep _ _ cc fun b o bw _ e => kp b o bw e
  show wpAny _ A.in1 (updateSeq box (fun _ => #[v, v]) >>= _) _ _ _
  refine wpAny_bind (wpAny_updateSeq hb' rfl ?_); rw [nm]
  refine wpAny_pure ⟨plainId_quiet F.plain_min_loop _, least_loop W lt C box far keep cmp _ 0 _ v _ rfl pos (W.frame _ _ _ st' fun b bo o e => ?_) (keep _ _ cc' fun b o _ bs e => (Heap.get?_update_other _ _ (Ne.symm bs)).trans e) pv (Heap.get?_update_self _ hb' rfl) fun v' g2 tk2 pv' kp2 => ?_⟩
  · exact (Heap.get?_update_other _ _ (fun z : box = b => far (by rw [z]; exact bo))).trans e
  · exact k v' g2 tk2 pv' fun b o bw bs e => kp2 b o bw bs ((Heap.get?_update_other _ _ (Ne.symm bs)).trans (kp b o bw e))
end
/-- the best one of a strict order: nothing is less -/
theorem argBest_spec (lt : Nat → Nat → Bool) (tr : ∀ a b c, lt a b = true → lt c b = false → lt c a = false) (ir : ∀ a, lt a a = false) : ∀ n, argBest lt n ≤ n ∧ ∀ j, j ≤ n → lt j (argBest lt n) = false
  | 0 => ⟨Nat.le_refl _, fun j hj => by rw [Nat.le_zero.mp hj]; exact ir _⟩
  | n + 1 => by
    obtain ⟨h1, h2⟩ := argBest_spec lt tr ir n
    unfold argBest
    cases hb : lt (n + 1) (argBest lt n) with
    | true =>
      rw [if_pos rfl]
      refine ⟨Nat.le_refl _, fun j hj => ?_⟩
      by_cases z : j = n + 1
      · rw [z]; exact ir _
      · exact tr _ _ _ hb (h2 j (by omega))
    | false =>
      rw [if_neg (by decide)]
      refine ⟨by omega, fun j hj => ?_⟩
      by_cases z : j = n + 1
      · rw [z]; exact hb
      · exact h2 j (by omega)
theorem ltP2_tr (a b c : Int × Int) (h : ltT2 ltI ltI a b = true) (h' : ltT2 ltI ltI c b = false) : ltT2 ltI ltI c a = false := by
  revert h h'
  show (decide (a.1 < b.1) || (!decide (b.1 < a.1) && decide (a.2 < b.2))) = true → (decide (c.1 < b.1) || (!decide (b.1 < c.1) && decide (c.2 < b.2))) = false → (decide (c.1 < a.1) || (!decide (a.1 < c.1) && decide (c.2 < a.2))) = false
  simp only [← Bool.not_eq_true, Bool.or_eq_true, Bool.not_eq_true', Bool.and_eq_true, decide_eq_true_eq, decide_eq_false_iff_not]
  omega
theorem ltP2_ir (a : Int × Int) : ltT2 ltI ltI a a = false := by
  show (decide (a.1 < a.1) || (!decide (a.1 < a.1) && decide (a.2 < a.2))) = false
  simp
section
variable {X : Cx}
def rLeast (K : PySem.W.Frag) : List V → Hp → VK → Prop := fun vs H Q => ∃ (a : Addr) (ps : List (Addr × (Int × Int))), vs = [V.ref a] ∧ SqL K H a (ps.map fun p => V.ref p.1) ∧ 0 < ps.length ∧
  (∀ p ∈ ps, SqT K H p.1 [V.int p.2.1, V.int p.2.2]) ∧ ∀ p ∈ ps, (∀ q ∈ ps, ltT2 ltI ltI q.2 p.2 = false) → Q (V.ref p.1) H
theorem cr_least {k : Nat} (d : Gd X k) : CallR X (.builtin "min") (rLeast X.K) := by
  intro pins s σ H vs us Q I r h
  obtain ⟨a, ps, rfl, hs, pos, ht, q⟩ := h
  obtain ⟨its, rv, hl, _⟩ := I.list hs
  rw [Vals.ref1 r]
  have hits : ∀ (i : Nat) (v : Value), its.toArray[i]? = some v → ∃ p : Addr × (Int × Int), ps[i]? = some p ∧ v = Value.ref p.1 := fun i v hv => by
    rw [List.getElem?_toArray] at hv
    have hi : i < ps.length := by
      have := rv.length
      rw [List.length_map] at this
      rw [this]
      exact (List.getElem?_eq_some_iff.mp hv).1
    obtain ⟨u, hu, ru⟩ := Vals.get rv (i := i) (x := V.ref ps[i].1) (by rw [List.getElem?_map, List.getElem?_eq_getElem hi]; rfl)
    rw [hu] at hv
    cases hv
    cases ru
    exact ⟨ps[i], List.getElem?_eq_getElem hi, rfl⟩
  have szs : its.toArray.size = ps.length := by rw [List.size_toArray, ← rv.length, List.length_map]
  have hd := I.ok.hd d.calm
  let val : Nat → Int × Int := fun i => ((ps[i]?).map (·.2)).getD (0, 0)
  let box := s.heap.objs.size + 1
  let C : Heap → Prop := fun h => ∀ p ∈ ps, ∃ t u, h.IsTuple p.1 #[.int p.2.1 t, .int p.2.2 u]
  have old : ∀ p ∈ ps, ∃ t u, s.heap.IsTuple p.1 #[.int p.2.1 t, .int p.2.2 u] := fun p hp => by
    obtain ⟨is, r1, p1, _⟩ := I.tuple (ht p hp)
    cases r1 with
    | cons x r1 => cases r1 with
      | cons y r1 =>
        cases r1
        obtain ⟨t, rfl⟩ := x
        obtain ⟨u, rfl⟩ := y
        exact ⟨t, u, p1⟩
  have lt_s : ∀ p ∈ ps, p.1 < s.heap.objs.size := fun p hp => by
    obtain ⟨t, u, o, e, _⟩ := old p hp
    exact Heap.lt_size e
  have hL : s.heap.IsList a its.toArray := hl.isList
  have alt : a < s.heap.objs.size := by
    obtain ⟨_, e, _⟩ := hL
    exact Heap.lt_size e
  refine call_function_tree F.kind_min F.plain_min F.entry_min (F.args_min1 _) ?_
  show wpAny _ X.A.in1 (Builtin.Builtins.bindParams "min" ["key", "default"] 0 ⟨[], []⟩ >>= _) _ _ s
  refine wpAny_bind (wpAny_of_eq (show Builtin.Builtins.bindParams "min" ["key", "default"] 0 ⟨[], []⟩ = pure [none, none] from rfl) (wpAny_bind (wpAny_pure ?_)))
  refine wpAny_bind (wpAny_pyIter_list hL (wpAny_bind (wpAny_newObj_type ?_)))
  rw [show (toString "min" ++ toString ".loop" : String) = "min.loop" by decide]
  have sz1 : ∀ o, (s.heap.push o).objs.size = s.heap.objs.size + 1 := fun o => Heap.size_push ..
  refine wpAny_pure ⟨plainId_quiet F.plain_min_loop _, ?_⟩
  have ne1 : a ≠ s.heap.objs.size := Nat.ne_of_lt alt
  refine least_first (Walks.list (A := X.A.in1) hd _ a ne1 its.toArray) (fun i j => ltT2 ltI ltI (val i) (val j)) C _ ?_ ?_ ?_ (by rw [szs]; exact pos) ?_ ?_ (Heap.get?_push_size _ rfl) ?_
  · show (s.heap.push _).objs.size ∉ [_, _]
    rw [sz1]
    intro z
    rcases List.mem_cons.mp z with z | z
    · exact absurd z (Nat.succ_ne_self _)
    · rcases List.mem_cons.mp z with z | z
      · exact absurd z (Nat.ne_of_gt (Nat.lt_succ_of_lt alt))
      · cases z
  · intro h h' c kp p hp
    obtain ⟨t, u, x⟩ := c p hp
    refine ⟨t, u, x.at fun o e => kp _ o ?_ ?_ e⟩
    · intro z
      rcases List.mem_cons.mp z with z | z
      · exact absurd z (Nat.ne_of_lt (lt_s p hp))
      · cases z
    · show p.1 ≠ (s.heap.push _).objs.size
      rw [sz1]
      exact Nat.ne_of_lt (Nat.lt_succ_of_lt (lt_s p hp))
  · intro i j x y s1 Q1 E1 c hx hy hq
    obtain ⟨p, e1, rfl⟩ := hits i x hx
    obtain ⟨p', e2, rfl⟩ := hits j y hy
    obtain ⟨t1, u1, g1⟩ := c p (List.mem_of_getElem? e1)
    obtain ⟨t2, u2, g2⟩ := c p' (List.mem_of_getElem? e2)
    have v1 : val i = p.2 := by show ((ps[i]?).map (·.2)).getD (0, 0) = _; rw [e1]; rfl
    have v2 : val j = p'.2 := by show ((ps[j]?).map (·.2)).getD (0, 0) = _; rw [e2]; rfl
    simp only [v1, v2] at hq
    have hu : X.A.in1.units < cLine := by
      have := d.u
      show X.A.units + 1 < cLine; omega
    refine Ob.RcOp.tuples_lt (A := X.A.in1) (s := s1) (e := fun n => if n = 0 then (p.2.1 == p'.2.1) else (p.2.2 == p'.2.2)) (r := fun n => if n = 0 then decide (p.2.1 < p'.2.1) else decide (p.2.2 < p'.2.2)) g1 g2 hu ?_ ?_ X.prog X.w E1 Q1 ?_
    · intro n h1 h2
      match n, h1, h2 with
      | 0, _, _ => exact SeqAt.EqAt.int_int _ _ _ _
      | 1, _, _ => exact SeqAt.EqAt.int_int _ _ _ _
      | n + 2, h1, _ => exact absurd h1 (by show ¬ n + 2 < 2; omega)
    · intro n h1 h2 _
      match n, h1, h2 with
      | 0, _, _ => exact Ob.RcOp.lt_int _ _ _ _
      | 1, _, _ => exact Ob.RcOp.lt_int _ _ _ _
      | n + 2, h1, _ => exact absurd h1 (by show ¬ n + 2 < 2; omega)
    · have e : Ob.lexAt (fun n => if n = 0 then (p.2.1 == p'.2.1) else (p.2.2 == p'.2.2)) (fun n => if n = 0 then decide (p.2.1 < p'.2.1) else decide (p.2.2 < p'.2.2)) (decide ((#[Value.int p.2.1 t1, Value.int p.2.2 u1] : Array Value).size < (#[Value.int p'.2.1 t2, Value.int p'.2.2 u2] : Array Value).size)) 0 (min (#[Value.int p.2.1 t1, Value.int p.2.2 u1] : Array Value).size (#[Value.int p'.2.1 t2, Value.int p'.2.2 u2] : Array Value).size) = ltT2 ltI ltI p.2 p'.2 := by
        show (if (p.2.1 == p'.2.1) = true then (if (p.2.2 == p'.2.2) = true then false else decide (p.2.2 < p'.2.2)) else decide (p.2.1 < p'.2.1)) = (decide (p.2.1 < p'.2.1) || (!decide (p'.2.1 < p.2.1) && decide (p.2.2 < p'.2.2)))
        by_cases z1 : p.2.1 = p'.2.1
        · rw [if_pos (beq_iff_eq.mpr z1), z1]
          by_cases z2 : p.2.2 = p'.2.2
          · rw [if_pos (beq_iff_eq.mpr z2), z2]; simp
          · rw [if_neg (fun z => z2 (beq_iff_eq.mp z))]; simp
        · rw [if_neg (fun z => z1 (beq_iff_eq.mp z))]
          by_cases z2 : p.2.1 < p'.2.1
          · rw [decide_eq_true z2]; rfl
          · rw [decide_eq_false z2, decide_eq_true (show p'.2.1 < p.2.1 by omega)]; rfl
      rw [e]
      exact hq
  · exact ⟨(⟨_, Heap.get?_push_of_some _ (Heap.get?_push_size _ rfl), rfl, rfl⟩ : Heap.IsListIter _ _ _ _), (hL.push _).push _⟩
  · intro p hp
    obtain ⟨t, u, x⟩ := old p hp
    exact ⟨t, u, (x.push _).push _⟩
  · intro v g tk pv kp
    obtain ⟨h1, h2⟩ := argBest_spec (fun i j => ltT2 ltI ltI (val i) (val j)) (fun a b c => ltP2_tr _ _ _) (fun a => ltP2_ir _) (its.toArray.size - 1)
    generalize argBest (fun i j => ltT2 ltI ltI (val i) (val j)) (its.toArray.size - 1) = best at pv h1 h2
    obtain ⟨p, ep, rfl⟩ := hits best v pv
    have vb : val best = p.2 := by show ((ps[best]?).map (·.2)).getD (0, 0) = _; rw [ep]; rfl
    have fr : ∀ b o, s.heap.get? b = some o → g.get? b = some o := fun b o e => kp b o (fun z => by
      rcases List.mem_cons.mp z with z | z
      · exact absurd z (Nat.ne_of_lt (Heap.lt_size e))
      · cases z) (by
      show b ≠ (s.heap.push _).objs.size
      rw [sz1]
      exact Nat.ne_of_lt (Nat.lt_succ_of_lt (Heap.lt_size e))) (Heap.get?_push_of_some _ (Heap.get?_push_of_some _ e))
    refine ⟨.ref p.1, H, I.kept fr, rfl, q p (List.mem_of_getElem? ep) fun p' hp' => ?_⟩
    obtain ⟨j, hj, ej⟩ := List.getElem_of_mem hp'
    have e' : ps[j]? = some p' := by rw [List.getElem?_eq_getElem hj, ej]
    have vj : val j = p'.2 := by show ((ps[j]?).map (·.2)).getD (0, 0) = _; rw [e']; rfl
    have := h2 j (by omega)
    simp only [vb, vj] at this
    exact this
end
/-- at the data -/
def leastD : D1
  | .lst _ xs, Q => ∃ ps : List (Int × Int), xs = ps.map (eT2 eI eI) ∧ 0 < ps.length ∧ ∀ p ∈ ps, (∀ q ∈ ps, ltT2 ltI ltI q p = false) → Q (eT2 eI eI p)
  | _, _ => False
theorem cr_leastD {X : Cx} {k : Nat} (d : Gd X k) : CallR X (.builtin "min") (rC X.K (o1 leastD)) := cal (cr_least d) fun H Q P M B v e L Q0 A r1 q k => by
  unfold leastD at q
  split at q
  · obtain ⟨a, vs, L', rfl, h1, r, _⟩ := r1.lst_inv
    obtain ⟨ps, rfl, pos, q⟩ := q
    rw [show ps.map (eT2 eI eI) = (ps.map fun p => [p.1, p.2]).map tupI by rw [List.map_map]; rfl] at r
    obtain ⟨qs, rfl, e2, h3⟩ := reps_tupI r
    have two : ∀ p ∈ qs, ∃ x y, p.2 = [x, y] := fun p hp => by
      have := List.mem_map_of_mem (f := fun p : Addr × List Int => p.2) hp
      rw [e2] at this
      obtain ⟨z, _, e⟩ := List.mem_map.mp this
      exact ⟨_, _, e.symm⟩
    have eq : qs.map (fun p => (p.2.getD 0 0, p.2.getD 1 0)) = ps := by
      rw [show (fun p : Addr × List Int => (p.2.getD 0 0, p.2.getD 1 0)) = (fun l : List Int => (l.getD 0 0, l.getD 1 0)) ∘ (·.2) from rfl, ← List.map_map, e2, List.map_map]
      exact List.map_id _
    refine ⟨a, qs.map fun p => (p.1, (p.2.getD 0 0, p.2.getD 1 0)), rfl, by rw [List.map_map]; exact h1, ?_, ?_, ?_⟩
    · rw [List.length_map, ← List.length_map (f := fun p : Addr × List Int => (p.2.getD 0 0, p.2.getD 1 0)), eq]; exact pos
    · intro p hp
      obtain ⟨p', hp', rfl⟩ := List.mem_map.mp hp
      obtain ⟨x, y, e⟩ := two p' hp'
      have := h3 p' hp'
      rw [e] at this
      simp only [e]
      exact this
    · intro p hp hall
      obtain ⟨p', hp', rfl⟩ := List.mem_map.mp hp
      have hs : SqT X.K H p'.1 [V.int (p'.2.getD 0 0), V.int (p'.2.getD 1 0)] := by
        obtain ⟨x, y, e⟩ := two p' hp'
        have := h3 p' hp'
        rw [e] at this
        rw [e]
        exact this
      refine k _ _ (A.plain (fun {N} => Rep.tup (L := []) hs (.cons (L1 := []) .int (.cons (L1 := []) .int .nil))) (q (p'.2.getD 0 0, p'.2.getD 1 0) ?_ ?_))
      · rw [← eq]; exact List.mem_map.mpr ⟨p', hp', rfl⟩
      · intro z hz
        rw [← eq] at hz
        obtain ⟨z', hz', rfl⟩ := List.mem_map.mp hz
        exact hall _ (List.mem_map.mpr ⟨z', hz', rfl⟩)
  · exact q.elim
/-- the least one, typed -/
def leastP (l : List (Int × Int)) : Int × Int := (l.mergeSort leP2).headD (0, 0)
theorem leastP_spec {l : List (Int × Int)} (h : l ≠ []) : leastP l ∈ l ∧ ∀ q ∈ l, ltT2 ltI ltI q (leastP l) = false := by
  have pm := List.mergeSort_perm l leP2
  have pw : (l.mergeSort leP2).Pairwise fun a b => leP2 a b = true := List.pairwise_mergeSort leP2_trans leP2_total _
  unfold leastP
  generalize l.mergeSort leP2 = m at pm pw
  cases m with
  | nil => exact absurd (List.nil_perm.mp pm) h
  | cons x r =>
    refine ⟨pm.mem_iff.mp (List.mem_cons_self ..), fun q hq => ?_⟩
    rcases List.mem_cons.mp (pm.mem_iff.mpr hq) with z | z
    · rw [z]; exact ltP2_ir _
    · have := (List.pairwise_cons.mp pw).1 q z
      show ltT2 ltI ltI q x = false
      exact (by simpa [leP2, leOf] using this)
theorem leastP_of {l : List (Int × Int)} {p : Int × Int} (hp : p ∈ l) (h : ∀ q ∈ l, ltT2 ltI ltI q p = false) : p = leastP l := by
  obtain ⟨h1, h2⟩ := leastP_spec (List.ne_nil_of_mem hp)
  have a := h _ h1
  have b := h2 _ hp
  revert a b
  show (decide ((leastP l).1 < p.1) || (!decide (p.1 < (leastP l).1) && decide ((leastP l).2 < p.2))) = false → (decide (p.1 < (leastP l).1) || (!decide ((leastP l).1 < p.1) && decide (p.2 < (leastP l).2))) = false → _
  generalize leastP l = m
  obtain ⟨x, y⟩ := p
  obtain ⟨x', y'⟩ := m
  simp only [← Bool.not_eq_true, Bool.or_eq_true, Bool.not_eq_true', Bool.and_eq_true, decide_eq_true_eq, decide_eq_false_iff_not]
  intro a b
  exact Prod.ext (by show x = x'; omega) (by show y = y'; omega)
theorem o_leastP {f : Fl} {l : List (Int × Int)} (h : l ≠ []) : Op (o1 leastD) [eL f (eT2 eI eI) l] (eT2 eI eI (leastP l)) := fun Q q => by
  refine ⟨l, rfl, List.length_pos_iff.mpr h, fun p hp hall => ?_⟩
  rw [leastP_of hp hall]; exact q
end DL
set_option maxHeartbeats 4000000
set_option exponentiation.threshold 50000
namespace DL
open PySem PySem.Spec PyProof.Rows L2
variable [Tb]
/-! ### xs * n of any list that stands, with whatever slots -/
theorem mul_any (l : Addr) (its : Array Value) (n : Nat) (sl : Array (Option Value)) (k : Int) (t : Tok) (c0 : ¬(!Builtin.List.listFitsIndex k) = true) (c1 : ¬its.size * k.toNat > (2 ^ 63 - 1) / 8) (c2 : ¬Builtin.List.listTooLong (its.size * k.toNat) = true) :
    Meets (Builtin.«list.__mul__» ⟨[.ref l, .int k t], []⟩) (fun _ Z s => s.heap.get? l = some { cls := .type "list", dict := none, data := .seq its n, slots := sl } ∧
      Z (.ok (.ret (Value.ref s.heap.objs.size))) { s with heap := s.heap.push { cls := Value.type "list", data := Data.seq (List.foldl (fun x1 x2 => x1 ++ x2) #[] (List.replicate (if its.isEmpty = true then 0 else k.toNat) its)) }, toks := s.toks }) :=
  .of_wp fun pg wo A Z s hz => by
    obtain ⟨hp, ge, de, tk, os⟩ := s
    obtain ⟨hl, hz⟩ := hz
    have few := AutoListH.joined_fits c2
    wp_walk
    refine wpAny_ite_false (decide_eq_false (Nat.not_lt.mpr few)) ?_
    wp_walk
    exact ⟨_, rfl, hz⟩
theorem rmul_any (a : Int) (t : Tok) (l : Addr) (its : Array Value) (n : Nat) (sl : Array (Option Value)) :
    Meets (Builtin.«int.__rmul__» ⟨[.int a t, .ref l], []⟩) (fun _ Z s => s.heap.get? l = some { cls := .type "list", dict := none, data := .seq its n, slots := sl } ∧ Z (.ok (.ret Value.notImplemented)) s) :=
  .of_wp fun pg wo A Z s hz => by
    obtain ⟨hp, ge, de, tk, os⟩ := s
    obtain ⟨hl, hz⟩ := hz
    wp_walk
    exact ⟨_, rfl, hz⟩
def rRepF (K : PySem.W.Frag) : R2 := fun x y H Q => ∃ l k xs, x = .ref l ∧ y = .int k ∧ SqL K H l xs ∧ -(2 ^ 63) ≤ k ∧ k < 2 ^ 63 ∧ xs.length * k.toNat ≤ sizeLine ∧
  ∀ p, H p = none → Q (.ref p) (upd H p (.lst (List.replicate k.toNat xs).flatten))
theorem op_repF {X : Cx} : OpR X (binaryOp .Mult) (rRepF X.K) := by
  intro pins s σ H x y v u Q I rx ry h
  obtain ⟨l, k, xs, rfl, rfl, hS, b1, b2, hz, q⟩ := h
  cases rx
  obtain ⟨t, rfl⟩ := ry
  obtain ⟨its, r, ⟨⟨cls, dd, data, sl⟩, n, e, ec, ed, ea⟩, _⟩ := I.list hS
  simp only at ec ed ea
  subst ec ed ea
  have few : its.toArray.size * k.toNat ≤ sizeLine := by rw [List.size_toArray, ← r.length]; exact hz
  have c1 : ¬ its.toArray.size * k.toNat > (2 ^ 63 - 1) / 8 := by
    have z : (sizeLine : Nat) ≤ (2 ^ 63 - 1) / 8 := by decide
    omega
  have c0 : ¬ (!Builtin.List.listFitsIndex k) = true := by
    rw [fitsIndex_both b1 b2]; exact Bool.false_ne_true
  have c2 : ¬ Builtin.List.listTooLong (its.toArray.size * k.toNat) = true := by
    rw [notLongL few]; exact Bool.false_ne_true
  have one : ∀ m : Nat, List.foldl (fun x1 x2 => x1 ++ x2) #[] (List.replicate m its.toArray) = (List.replicate m its).flatten.toArray := fun m => by
    have z := foldl_rep its m []
    rw [List.nil_append] at z
    exact z
  have all : List.foldl (fun x1 x2 => x1 ++ x2) #[] (List.replicate (if its.toArray.isEmpty = true then 0 else k.toNat) its.toArray) = (List.replicate k.toNat its).flatten.toArray := by
    rw [one]
    cases its with
    | nil => simp
    | cons a r' => rw [if_neg (by simp)]
  have ty : s.TypeIs (.ref l) "list" := ⟨_, e, rfl⟩
  refine wpAny_binaryOp_repeat_ref (T := "list") (U := "int") (by decide) ty (fun s' => typeIs_int s' k t) noFill_list_mul F.fills_int_mul F.slot_int_rmul repeat_list F.slot_int_index.lookup ?_
  refine call_meets F.slot_int_rmul (typeIs_int s k t) F.entry_int_rmul (F.args_int_rmul_2 _ _) (rmul_any k t l its.toArray n sl) ⟨e, rfl, ty, ?_⟩
  refine call_meets F.slot_list_mul ty F.entry_list_mul (F.args_list_mul_2 _ _) (mul_any l its.toArray n sl k t c0 c1 c2) ⟨e, ?_⟩
  rw [all]
  exact ⟨.ref _, _, I.lnew (t' := s.toks) (r.rep k.toNat) (by rw [PyProof.Rows.lm_len_rep_flat, Nat.mul_comm]; exact hz), rfl, q _ I.fresh⟩
/-- at the data: a list that nothing owns within -/
def repD : D2
  | .lst .f xs, .int k, Q => D.pfs xs = true ∧ 0 ≤ k ∧ k < 2 ^ 63 ∧ xs.length * k.toNat ≤ sizeLine ∧ Q (.lst .o (List.replicate k.toNat xs).flatten)
  | _, _, _ => False
theorem op_repD {X : Cx} : OpR X (binaryOp .Mult) (rD X.K (o2 repD)) := by
  intro pins s σ H x y v u Q I rx ry h0
  refine to2 h0 fun P M B d e L1 L3 Q0 A r1 r2 o k => ?_
  unfold repD at o
  split at o
  · obtain ⟨rfl, rfl⟩ := r2.int_inv
    obtain ⟨p0, p1, p2, p3, p4⟩ := o
    cases r1 with
    | lstF h r pf =>
      exact op_repF pins s σ H _ _ v u Q I rx ry ⟨_, _, _, rfl, rfl, h.sq, by omega, p2, by rw [r.len]; exact p3, fun p hp => k _ _ (A.newl hp (reps_rep r _) (fun _ z => nomatch z) List.nodup_nil p4)⟩
  · exact o.elim
theorem o_repF {α : Type} {e : α → D} [Pf e] {l : List α} {k : Int} (h : 0 ≤ k ∧ k < 1000000 ∧ l.length * k.toNat ≤ 1000000) : Op (o2 repD) [eL .f e l, eI k] (eL .o e (List.replicate k.toNat l).flatten) := fun Q q => by
  have big : (1000000 : Nat) < sizeLine := by decide
  refine ⟨pfs_of _ (all_map Pf.h l), h.1, by omega, by rw [List.length_map]; omega, ?_⟩
  have e1 : ((List.replicate k.toNat l).flatten).map e = (List.replicate k.toNat (l.map e)).flatten := by rw [List.map_flatten, List.map_replicate]
  show Q (.lst .o _)
  rw [← e1]; exact q
end DL
set_option maxHeartbeats 4000000
set_option exponentiation.threshold 50000
namespace DL
open PySem PySem.Spec PyProof.Rows L2
variable [Tb]
/-! ### x[k].m(..): an own list within an own list is changed -/
def dMutP (i k : Nat) (op : DM) (ta : DTA) : DS := fun N ρ => match Env.at ρ i with
  | some (.lst .o xs) => (match xs[k]? with
    | some (.lst .o ys) => ta ρ fun ds => D.nbs ds = true ∧ D.pfs ds = true ∧ op ys ds fun ys' _ => N.nx (ρ.set i (some (.lst .o (xs.set k (.lst .o ys')))))
    | _ => False)
  | _ => False
section
variable {K : PySem.W.Frag} {P : Pens} {M B : List Addr} {H : Hp} {σ : Sg} {ρ : Env} {E : Ends}
theorem Reps.split : ∀ {vs : List V} {ds : List D} {L : List Addr} {k : Nat} {d : D}, Reps K P M B H vs ds L → ds[k]? = some d →
    ∃ vs1 v vs2 ds1 ds2 L1 Lk L2, vs = vs1 ++ v :: vs2 ∧ ds = ds1 ++ d :: ds2 ∧ ds1.length = k ∧ vs1.length = k ∧ L = L1 ++ (Lk ++ L2) ∧ Reps K P M B H vs1 ds1 L1 ∧ Rep K P M B H v d Lk ∧ Reps K P M B H vs2 ds2 L2
  | _, _, _, _, _, .nil, e => by cases e
  | _, _, _, 0, d, .cons (v := v) (d := d') (vs := vs) (ds := ds) (L1 := L1) (L2 := L2) r rs, e => by
    have e : d' = d := by simpa using e
    subst e
    exact ⟨[], v, vs, [], ds, [], L1, L2, rfl, rfl, rfl, rfl, rfl, .nil, r, rs⟩
  | _, _, _, k + 1, d, .cons (v := v) (d := d') (vs := vs) (ds := ds) (L1 := L1) (L2 := L2) r rs, e => by
    have e : ds[k]? = some d := by simpa using e
    obtain ⟨vs1, w, vs2, ds1, ds2, M1, Lk, M2, rfl, rfl, h1, h2, rfl, r1, rk, r2⟩ := Reps.split rs e
    exact ⟨v :: vs1, w, vs2, d' :: ds1, ds2, L1 ++ M1, Lk, M2, rfl, rfl, by rw [List.length_cons, h1], by rw [List.length_cons, h2], by rw [List.append_assoc], .cons r r1, rk, r2⟩
theorem nbs_get : ∀ {xs : List D} {k : Nat} {d : D}, D.nbs xs = true → xs[k]? = some d → d.nb = true
  | [], _, _, _, e => by cases e
  | x :: xs, 0, d, h, e => by
    have e : x = d := by simpa using e
    subst e
    simp only [D.nbs, Bool.and_eq_true] at h
    exact h.1
  | x :: xs, k + 1, d, h, e => by
    simp only [D.nbs, Bool.and_eq_true] at h
    exact nbs_get h.2 (by simpa using e)
theorem nbs_set : ∀ {xs : List D} {k : Nat} {d : D}, D.nbs xs = true → d.nb = true → D.nbs (xs.set k d) = true
  | [], _, _, h, _ => h
  | x :: xs, 0, d, h, h' => by
    simp only [D.nbs, Bool.and_eq_true] at h
    show (d.nb && D.nbs xs) = true
    rw [h', h.2]; rfl
  | x :: xs, k + 1, d, h, h' => by
    simp only [D.nbs, Bool.and_eq_true] at h
    show (x.nb && D.nbs (xs.set k d)) = true
    rw [h.1, nbs_set h.2 h']; rfl
theorem lift_mutP {i k : Nat} {op : DM} {ta : DTA} {r : V → List V → Hp → VK → Prop} {tA : TA} {tx : TE} (hr : MutR K r op) (h : liftS K (dMutP i k op ta) E σ H) (hA : ∀ σ H Q, liftA K ta σ H Q → tA σ H Q)
    (hx : ∀ (l : Addr) (us : List V) (v : V) (Q : VK), σ[i]? = some (some (.ref l)) → SqL K H l us → us[k]? = some v → Q v H → tx σ H Q) : tDrop (tBM K "list" r tx tA) E σ H := by
  obtain ⟨P, M, B, ρ, N, s, sl, e, t, f⟩ := h
  unfold dMutP at t
  split at t
  · rename_i xs ed
    split at t
    · rename_i ys ek
      have ed := Env.at_get ed
      obtain ⟨hlen, F, h1, h2, h3, h4⟩ := sl
      obtain ⟨v, e1, rv⟩ := h1 i _ ed
      have bx : D.nbs xs = true := by simpa [D.nb] using e i _ ed
      have by_ : D.nbs ys = true := by simpa [D.nb] using nbs_get bx ek
      generalize hF : F i = Fi at rv
      cases rv with
      | @lstO l us _ Lx hl hn rx =>
        obtain ⟨vs1, v, vs2, ds1, ds2, L1, Lk, L2, rfl, rfl, k1, k2, rfl, r1, rk, r2⟩ := Reps.split rx ek
        cases rk with
        | @lstO b ws _ Lb hb hbn rb =>
          have kb : (vs1 ++ V.ref b :: vs2)[k]? = some (V.ref b) := by
            rw [List.getElem?_append_right (by omega), k2, Nat.sub_self]; rfl
          refine hx l _ _ _ e1 (SqL.of hl) kb ⟨.inl ⟨rfl, ws, SqL.of hb⟩, hA _ _ _ ⟨P, M, B, ρ, _, s, ⟨hlen, F, h1, h2, h3, h4⟩, t, fun vs H2 ra => ?_⟩⟩
          obtain ⟨ds, Ld, ⟨bd, pd, q⟩, g, p, rd, nd, fd⟩ := ra
          have hFi : ∀ a ∈ l :: (L1 ++ ((b :: Lb) ++ L2)), a ∈ M ∧ a ∉ B := fun a z => h2 i a (by rw [hF]; exact z)
          have nFi : (l :: (L1 ++ ((b :: Lb) ++ L2))).Nodup := by rw [← hF]; exact h3 i
          have pb := Reps.pf rd pd
          obtain ⟨rfl, rd0⟩ := pb
          have hl2 : H2 l = some (.lst (vs1 ++ V.ref b :: vs2)) := g _ _ hl hn
          have hb2 : H2 b = some (.lst ws) := g _ _ hb hbn
          have bm : b ∈ l :: (L1 ++ ((b :: Lb) ++ L2)) := List.mem_cons_of_mem _ (in_r b (List.mem_append_left _ (List.mem_cons_self ..)))
          have lb : ∀ a ∈ Lb, a ∈ l :: (L1 ++ ((b :: Lb) ++ L2)) := fun a z => List.mem_cons_of_mem _ (in_r a (List.mem_append_left _ (List.mem_cons_of_mem _ z)))
          have nL := (List.nodup_cons.mp nFi).2
          have nK := (List.nodup_append.mp (List.nodup_append.mp nL).2.1).1
          have bNot : b ∉ Lb := (List.nodup_cons.mp nK).1
          have gr : ∀ {vs : List V} {ds : List D} {L : List Addr}, Reps K P M B H vs ds L → Reps K P M B H2 vs ds L := fun x => Reps.gr g s.lists (fun _ z => .inl z) (fun _ z => .inl z) x
          have hbM : b ∈ M := (hFi b bm).1
          have hbB : b ∉ B := (hFi b bm).2
          refine hr P M B H2 b ws ys Lb vs ds [] _ _ hb2 hbM (by rw [List.append_nil]; exact bNot) (gr rb) rd0 (by rw [List.append_nil]; exact (List.nodup_cons.mp nK).2) by_ bd q fun us' ys' L' w c Lc n0 r' rc sub n2 by2 bc => ?_
          have subL : ∀ a ∈ L', a ∈ Lb := fun a z => by
            have := sub a (List.mem_append_right _ z)
            rwa [List.append_nil] at this
          have nL' : L'.Nodup := (List.nodup_append.mp n2).2.1
          have bL' : b ∉ L' := fun z => bNot (subL b z)
          have lne : l ≠ b := fun z => (List.nodup_cons.mp nFi).1 (by rw [z]; exact in_r b (List.mem_append_left _ (List.mem_cons_self ..)))
          have s2 : Stt P M B H2 := by
            have := s.after g p fun a z => (Reps.own rd a z).1
            exact ⟨p, s.sub, this.ls, this.tabs⟩
          have s3 : Stt P M B (upd H2 b (.lst us')) := ⟨s2.pens.mut hbM, s2.sub, fun a z => by
            by_cases q : a = b
            · subst q; exact ⟨_, upd_same⟩
            · rw [upd_ne q]; exact s2.ls a z, fun x z => (s2.tabs x z).lst hb2⟩
          have a3 : StAft P M B H P M (upd H2 b (.lst us')) := by
            refine ⟨fun c o hc n1 n2 => ?_, fun _ z => z, fun _ z => .inl z, fun _ z => .inl z, fun c hc => ?_, fun x q mT t => (g.tab x q mT t).lst hb2⟩
            · have ne : c ≠ b := fun q => by
                subst q
                exact n2.elim (fun w => w hbM) fun w => hbB w
              rw [upd_ne ne]
              exact g c o hc n1
            · by_cases q : c = b
              · subst q; rw [upd_same]; intro z; cases z
              · rw [upd_ne q]; exact Gr.trk g p hc
          have bxs := bx
          have b1 : b ∉ L1 := fun z => (List.nodup_append.mp nL).2.2 b z b (List.mem_append_left _ (List.mem_cons_self ..)) rfl
          have b2 : b ∉ L2 := fun z => (List.nodup_append.mp (List.nodup_append.mp nL).2.1).2.2 b (List.mem_cons_self ..) b z rfl
          have nb1 : D.nbs ds1 = true := nbs_sub (List.sublist_append_left ..) bx
          have nb2 : D.nbs ds2 = true := nbs_sub ((List.sublist_cons_self ..).trans (List.sublist_append_right ..)) bx
          have q1 : Reps K P M B (upd H2 b (.lst us')) vs1 ds1 L1 := Reps.mut hb2 hbM (gr r1) nb1 b1
          have q2 : Reps K P M B (upd H2 b (.lst us')) vs2 ds2 L2 := Reps.mut hb2 hbM (gr r2) nb2 b2
          have qk : Rep K P M B (upd H2 b (.lst us')) (V.ref b) (.lst .o ys') (b :: L') := .lstO upd_same hbn (Reps.mut hb2 hbM r' by2 bL')
          have eset : (ds1 ++ D.lst .o ys :: ds2).set k (.lst .o ys') = ds1 ++ D.lst .o ys' :: ds2 := by
            rw [List.set_append_right _ _ (by omega), k1, Nat.sub_self]; rfl
          have sub2 : ∀ a ∈ L1 ++ ((b :: L') ++ L2), a ∈ L1 ++ ((b :: Lb) ++ L2) := fun a z => by
            rcases List.mem_append.mp z with z | z
            · exact List.mem_append_left _ z
            · rcases List.mem_append.mp z with z | z
              · rcases List.mem_cons.mp z with z | z
                · rw [z]; exact in_r b (List.mem_append_left _ (List.mem_cons_self ..))
                · exact in_r a (List.mem_append_left _ (List.mem_cons_of_mem _ (subL a z)))
              · exact in_r a (List.mem_append_right _ z)
          have nd2 : (L1 ++ ((b :: L') ++ L2)).Nodup := by
            obtain ⟨x1, x2, x3⟩ := List.nodup_append.mp nL
            obtain ⟨y1, y2, y3⟩ := List.nodup_append.mp x2
            have up : ∀ a ∈ b :: L', a ∈ b :: Lb := fun a z => (List.mem_cons.mp z).elim (fun z => by rw [z]; exact List.mem_cons_self ..) fun z => List.mem_cons_of_mem _ (subL a z)
            refine List.nodup_append.mpr ⟨x1, List.nodup_append.mpr ⟨List.nodup_cons.mpr ⟨bL', nL'⟩, y2, fun a z c z' => y3 a (up a z) c z'⟩, fun a z c z' => x3 a z c ?_⟩
            rcases List.mem_append.mp z' with z' | z'
            · exact List.mem_append_left _ (up c z')
            · exact List.mem_append_right _ z'
          have hi : i < ρ.length := (List.getElem?_eq_some_iff.mp ed).1
          refine f.nx _ _ _ _ _ n0 a3 s3 ⟨by rw [List.length_set]; exact hlen, fun j => if j = i then l :: (L1 ++ ((b :: L') ++ L2)) else F j, fun j d ej => ?_, fun j a z => ?_, fun j => ?_, fun j m a z z' => ?_⟩ fun j d ej => ?_
          · rw [List.getElem?_set] at ej
            by_cases hj : i = j
            · subst hj
              rw [if_pos rfl, if_pos hi] at ej
              cases ej
              refine ⟨.ref l, e1, ?_⟩
              simp only [if_true]
              rw [eset]
              exact .lstO (by rw [upd_ne lne]; exact hl2) hn (Reps.app q1 (.cons qk q2))
            · rw [if_neg hj] at ej
              obtain ⟨v, e2, rr⟩ := h1 j d ej
              have hji : ¬ j = i := fun q => hj q.symm
              refine ⟨v, e2, ?_⟩
              simp only [if_neg hji]
              exact Rep.mut hb2 hbM (Rep.gr g s.lists (fun _ z => .inl z) (fun _ z => .inl z) rr) (e j d ej) fun z => hji (h4 j i b z (by rw [hF]; exact bm))
          · dsimp only at z
            split at z
            · rcases List.mem_cons.mp z with q | q
              · rw [q]; exact hFi l (List.mem_cons_self ..)
              · exact hFi a (List.mem_cons_of_mem _ (sub2 a q))
            · exact h2 j a z
          · dsimp only
            split
            · exact List.nodup_cons.mpr ⟨fun z => (List.nodup_cons.mp nFi).1 (sub2 l z), nd2⟩
            · exact h3 j
          · have up : ∀ j a, a ∈ (if j = i then l :: (L1 ++ ((b :: L') ++ L2)) else F j) → a ∈ F j := fun j a z => by
              split at z
              · rename_i q
                rw [q, hF]
                rcases List.mem_cons.mp z with q | q
                · rw [q]; exact List.mem_cons_self ..
                · exact List.mem_cons_of_mem _ (sub2 a q)
              · exact z
            exact h4 j m a (up j a z) (up m a z')
          · rw [List.getElem?_set] at ej
            by_cases hj : i = j
            · subst hj
              rw [if_pos rfl, if_pos hi] at ej
              cases ej
              show D.nbs _ = true
              exact nbs_set bx (by simpa [D.nb] using by2)
            · rw [if_neg hj] at ej
              exact e j d ej
    · exact t.elim
  · exact t.elim
end

def tP (K : PySem.W.Frag) (i k : Nat) : TE := tOp (rIxL K) (tVar i) (tC (.int (k : Int)))
theorem tP_ok {K : PySem.W.Frag} {σ : Sg} {H : Hp} {i k : Nat} (l : Addr) (us : List V) (v : V) (Q : VK) (e : σ[i]? = some (some (.ref l))) (h : SqL K H l us) (hk : us[k]? = some v) (q : Q v H) : tP K i k σ H Q :=
  ⟨_, e, l, us, k, v, rfl, rfl, h, atI_nat hk, q⟩
section
variable {X : Cx} {x : Str} {e : Expr} {es : List Expr} {apos cpos px spos bpos ipos : Pos} {jj : Nat} {tr : DTA} {te : DT}
theorem tP_mono {K : PySem.W.Frag} {i k : Nat} {σ : Sg} {H : Hp} {Q Q' : VK} (h : tP K i k σ H Q) (q : ∀ v H', Q v H' → Q' v H') : tP K i k σ H Q' := by
  obtain ⟨v, e, p, xs, j, w, h1, h2, h3, h4, h5⟩ := h
  exact ⟨v, e, p, xs, j, w, h1, h2, h3, h4, q _ _ h5⟩
theorem s_mutP1 {name : Str} {id : String} {r : V → List V → Hp → VK → Prop} {op : DM} (hr : MutR X.K r op) (slot : Slot "list" name id) (hty : typeOf (.builtin id) = pure (.type "method_descriptor")) (hm : MtR X id r) (i k : Nat) (ha : PDA X (e :: es) tr)
    (hN : X.N[i]? = some x := by rfl) (hv : Vis X.env.scope x := by first | exact Or.inl rfl | exact Or.inr (Or.inl rfl) | exact Or.inr (Or.inr rfl)) (hd : (x == ("__debug__" : Str)) = false := by decide) (hcd : (x == ("__classdict__" : Str)) = false := by decide)
    (hbase : attributeBase (.Subscript (.Name x px) (.Constant (.int (k : Int)) jj ipos) bpos) name X.env (eval (.Subscript (.Name x px) (.Constant (.int (k : Int)) jj ipos) bpos) X.env) = eval (.Subscript (.Name x px) (.Constant (.int (k : Int)) jj ipos) bpos) X.env := by rfl)
    (hfew : ((backTo cpos (starEach (e :: es) X.env)).all (fun x => !x.1) && (backToKw cpos (keywordEach [] X.env)).all (fun x => x.1.isSome)
      && decide ((e :: es).length + ([] : List Keyword).length + (if ([] : List Keyword).isEmpty then 0 else 1) < 30)) = true := by rfl)
    (hline : (apos.endLine == cpos.line) = true := by rfl) (hs : starEach (e :: es) X.env = (false, eval e X.env) :: starEach es X.env := by rfl) (hplain : (backTo cpos (starEach es X.env)).any (·.1) = false := by rfl)
    (hsw : swapsWith (.Call (.Attribute (.Subscript (.Name x px) (.Constant (.int (k : Int)) jj ipos) bpos) name apos) (e :: es) [] cpos) none spos.line X.env = pure false := by rfl) :
    PDS X (.Expr (.Call (.Attribute (.Subscript (.Name x px) (.Constant (.int (k : Int)) jj ipos) bpos) name apos) (e :: es) [] cpos) spos) (dMutP i k op tr) :=
  mPS (ps_expr (pe_bm (to := tP X.K i k) PySem.F.plainAttrs_list slot hty hm (pe_ix ix_list (pv i hN hv hd hcd) pe_int (by intro _ _; rfl)) ha hbase hfew hline hs hplain) hsw) fun _ _ _ h => lift_mutP hr h (fun _ _ _ z => z) fun l us v Q a b c d => tP_ok l us v Q a b c d
theorem tBMP_nil {K : PySem.W.Frag} {r : V → List V → Hp → VK → Prop} {i k : Nat} {σ : Sg} {H : Hp} {Q : VK} (h : tBM K "list" r (tP K i k) tNil σ H Q) : tBM0 K "list" r (tP K i k) σ H Q := tP_mono h fun _ _ q => ⟨q.1, q.2⟩
theorem s_mutP0 {name : Str} {id : String} {r : V → List V → Hp → VK → Prop} {op : DM} (hr : MutR X.K r op) (slot : Slot "list" name id) (hty : typeOf (.builtin id) = pure (.type "method_descriptor")) (hm : MtR X id r) (i k : Nat)
    (hN : X.N[i]? = some x := by rfl) (hv : Vis X.env.scope x := by first | exact Or.inl rfl | exact Or.inr (Or.inl rfl) | exact Or.inr (Or.inr rfl)) (hd : (x == ("__debug__" : Str)) = false := by decide) (hcd : (x == ("__classdict__" : Str)) = false := by decide)
    (hbase : attributeBase (.Subscript (.Name x px) (.Constant (.int (k : Int)) jj ipos) bpos) name X.env (eval (.Subscript (.Name x px) (.Constant (.int (k : Int)) jj ipos) bpos) X.env) = eval (.Subscript (.Name x px) (.Constant (.int (k : Int)) jj ipos) bpos) X.env := by rfl)
    (hline : (apos.endLine == cpos.line) = true := by rfl)
    (hsw : swapsWith (.Call (.Attribute (.Subscript (.Name x px) (.Constant (.int (k : Int)) jj ipos) bpos) name apos) [] [] cpos) none spos.line X.env = pure false := by rfl) :
    PDS X (.Expr (.Call (.Attribute (.Subscript (.Name x px) (.Constant (.int (k : Int)) jj ipos) bpos) name apos) [] [] cpos) spos) (dMutP i k op dNil) :=
  mPS (ps_expr (pe_bm0 (to := tP X.K i k) PySem.F.plainAttrs_list slot hty hm (pe_ix ix_list (pv i hN hv hd hcd) pe_int (by intro _ _; rfl)) hbase hline) hsw) fun _ _ _ h => tBMP_nil (lift_mutP (tA := tNil) hr h (fun _ _ _ z => liftA_nil z) fun l us v Q a b c d => tP_ok l us v Q a b c d)
end
section
variable {α : Type} {ρ : Env} {te : DT} {u : DS} {N : DE}
theorem pathget {e : α → D} {l : List (List α)} {k : Nat} (hk : k < l.length) : (l.map (eL .o e))[k]? = some (.lst .o ((l.getD k []).map e)) := by
  rw [List.getElem?_map, List.getElem?_eq_getElem hk, List.getD_eq_getElem?_getD, List.getElem?_eq_getElem hk]; rfl
theorem pathset {e : α → D} {l : List (List α)} {k : Nat} {m : List α} : (l.map (eL .o e)).set k (.lst .o (m.map e)) = (l.set k m).map (eL .o e) := by
  rw [List.map_set]; rfl
theorem m_appP (i k : Nat) {e : α → D} {l : List (List α)} {v : α} (hi : Env.at ρ i = some (eL .o (eL .o e) l)) (h : k < l.length ∧ (l.getD k []).length < 1000000) (ev : Ev te ρ (e v)) (nb : (e v).nb = true) (pf : (e v).pf = true) (q : u N (ρ.set i (some (eL .o (eL .o e) (l.set k (l.getD k [] ++ [v])))))) :
    dSeq (dMutP i k appM (dCons te dNil)) u N ρ := by
  show dMutP i k appM (dCons te dNil) { N with nx := u N } ρ
  unfold dMutP
  rw [hi]
  show (match (l.map (eL .o e))[k]? with
    | some (.lst .o ys) => _
    | _ => False)
  rw [pathget h.1]
  show dCons te dNil ρ _
  refine ev _ ⟨?_, ?_, ?_, ?_⟩
  · show ((e v).nb && D.nbs []) = true
    rw [nb]; rfl
  · show ((e v).pf && D.pfs []) = true
    rw [pf]; rfl
  · rw [List.length_map]; exact h.2
  · show u N _
    rw [show ((l.getD k []).map e ++ [e v]) = (l.getD k [] ++ [v]).map e by simp, pathset]
    exact q
theorem m_clrP (i k : Nat) {e : α → D} {l : List (List α)} (hi : Env.at ρ i = some (eL .o (eL .o e) l)) (h : k < l.length) (q : u N (ρ.set i (some (eL .o (eL .o e) (l.set k []))))) : dSeq (dMutP i k clrM dNil) u N ρ := by
  show dMutP i k clrM dNil { N with nx := u N } ρ
  unfold dMutP
  rw [hi]
  show (match (l.map (eL .o e))[k]? with
    | some (.lst .o ys) => _
    | _ => False)
  rw [pathget h]
  refine ⟨rfl, rfl, ?_⟩
  show u N _
  rw [show ([] : List D) = ([] : List α).map e from rfl, pathset]
  exact q
theorem m_revP (i k : Nat) {e : α → D} {l : List (List α)} (hi : Env.at ρ i = some (eL .o (eL .o e) l)) (h : k < l.length) (q : u N (ρ.set i (some (eL .o (eL .o e) (l.set k (l.getD k []).reverse))))) : dSeq (dMutP i k revM dNil) u N ρ := by
  show dMutP i k revM dNil { N with nx := u N } ρ
  unfold dMutP
  rw [hi]
  show (match (l.map (eL .o e))[k]? with
    | some (.lst .o ys) => _
    | _ => False)
  rw [pathget h]
  refine ⟨rfl, rfl, ?_⟩
  show u N _
  rw [← List.map_reverse, pathset]
  exact q
end
end DL
set_option maxHeartbeats 4000000
set_option exponentiation.threshold 50000
namespace DL
open PySem PySem.Spec PyProof.Rows L2
variable [Tb]
/-! ### [e for x in l if t] where e or t choose -/
section
variable {α β : Type} {ρ : Env} {it : DTI} {ta te : DT} {tt : DTT} {vs : List Nat} {g : G} {Q : D → Prop}
theorem lcn_run {eX : α → D} {eY : β → D} {body : α → (Option β → Prop) → Prop} {K : List β → Prop} {ρw : Env} (en2 : α → Env) (hg : ∀ x (N : Env → Prop), N (en2 x) → G.go g (eX x) ρw N)
    (hb : ∀ x (KK : Option β → Prop) (G1 : D → Prop) (G0 : Prop), (∀ z, KK (some z) → G1 (eY z)) → (KK none → G0) → body x KK → tt (en2 x) fun b => if b = true then te (en2 x) G1 else G0) (q : ∀ r, K r → Q (eL .o eY r)) :
    ∀ (l : List α) (acc : List β), forW (fun x s nx _ => body x fun r => nx (s ++ r.toList)) K l acc → lcGo g tt te ρw (l.map eX) (acc.map eY) fun ys => Q (.lst .o ys)
  | [], acc, h => q acc h
  | x :: l, acc, h => by
    refine hg x _ (hb x _ _ _ (fun z hz => ?_) (fun hz => ?_) h)
    · have := lcn_run en2 hg hb q l (acc ++ [z]) hz
      rw [List.map_append] at this
      exact this
    · have := lcn_run en2 hg hb q l (acc ++ []) hz
      rw [List.append_nil] at this
      exact this
theorem lcn_leaf {eX : α → D} {eY : β → D} {body : α → (Option β → Prop) → Prop} {K : List β → Prop} {l : List α} (en2 : α → Env) (hi : EvI it ρ (l.map eX)) (hl : l.length ≤ 1000000) (h : forW (fun x s nx _ => body x fun r => nx (s ++ r.toList)) K l [])
    (hg : ∀ x (N : Env → Prop), N (en2 x) → G.go g (eX x) (wipeE ρ vs) N)
    (hb : ∀ x (KK : Option β → Prop) (G1 : D → Prop) (G0 : Prop), (∀ z, KK (some z) → G1 (eY z)) → (KK none → G0) → body x KK → tt (en2 x) fun b => if b = true then te (en2 x) G1 else G0) (q : ∀ r, K r → Q (eL .o eY r)) : dLc it vs g tt te ρ Q :=
  hi _ ⟨by rw [List.length_map]; exact hl, lcn_run en2 hg hb q l [] h⟩
theorem c_lcI (h : ta ρ fun d => dLc (dIter itemsC (dC d)) vs g tt te ρ Q) : dLc (dIter itemsC ta) vs g tt te ρ Q := h
end
/-! ### xs[::k], k one or minus one -/
def rStep (K : PySem.W.Frag) : R2 := fun x y H Q => ∃ a xs, x = .ref a ∧ SqL K H a xs ∧ ((y = .int (-1) ∧ ∀ p, H p = none → Q (.ref p) (upd H p (.lst xs.reverse))) ∨ (y = .int 1 ∧ ∀ p, H p = none → Q (.ref p) (upd H p (.lst xs))))
theorem pick_all (items : Array Value) : slicePick items none none (some 1) = items := by
  have e := slicePick_cut items.toList none none
  rw [HT.sIx_none, HT.sIx_none, List.drop_zero, Nat.sub_zero, List.take_length] at e
  exact e
def tStep (K : PySem.W.Frag) (te tb : TE) : TE := fun σ H Q => te σ H fun x H1 => tPart tb σ H1 fun o H2 => ∃ i, o = some i ∧ rStep K x (.int i) H2 Q
theorem pe_stepL {X : Cx} {e b : Expr} {te tb : TE} {p3 pos : Pos} (he : PE X e te) (hb : PE X b tb) : PE X (.Subscript e (.Slice none none (some b) p3) pos) (tStep X.K te tb) := by
  refine ⟨fun pins s σ H Q I h => ?_⟩
  refine Subscript_ (thn (he.run pins s σ H _ I h) fun v s1 ⟨x, H1, I1, r1, q1⟩ => ?_)
  have hst : PO X (some b) (tPart tb) := po_some hb
  refine wpAny_Slice (thn (po_none.run pins s1 σ H1 (fun o H2 => o = none ∧ H2 = H1) I1 ⟨rfl, rfl⟩) fun vl s2 ⟨l, H2, I2, pl, el, e2⟩ => ?_)
  subst el e2
  refine thn (po_none.run pins s2 σ H2 (fun o H3 => o = none ∧ H3 = H2) I2 ⟨rfl, rfl⟩) fun vu s3 ⟨u, H3, I3, pu, eu, e3⟩ => ?_
  subst eu e3
  refine thn (hst.run pins s3 σ H3 (fun o H4 => ∃ i, o = some i ∧ rStep X.K x (.int i) H4 Q) I3 q1) fun vs s4 ⟨o, H4, I4, ps, eo⟩ => ?_
  obtain ⟨i, rfl, a, xs, rfl, hx, q⟩ := eo
  cases r1
  have I5 : Inv X pins σ H4 { s4 with heap := s4.heap.push { cls := .type "slice", data := .fields #[vl, vu, vs] } } := I4.kept (t' := s4.toks) fun b ob q => Heap.get?_push_of_some _ q
  obtain ⟨its, r, ht, hz⟩ := I5.list hx
  have hlen := r.length
  show wpAny (model X.prog X.w) X.A (subscriptTail e (.Slice none none (some b) p3) (.ref a) (.ref s4.heap.objs.size)) (EP X pins σ Q) X.xe { s4 with heap := s4.heap.push { cls := .type "slice", data := .fields #[vl, vu, vs] } }
  refine tail_any (ops := [.ref a, .ref s4.heap.objs.size]) ht.isList.typeIs (PySem.slot_list_getitem.lookup) ?_ (by with_unfolding_all rfl)
  rcases q with ⟨ei, q⟩ | ⟨ei, q⟩
  · injection ei with ei
    subst ei
    refine wpAny_getItem_list_slice ht.isList (Heap.IsSliceOf.new _ vl vu vs) pl pu ps (by decide) ?_ (by rw [List.size_toArray]; omega)
    rw [PySem.W.krv_pick]
    refine ⟨.ref _, _, I5.laid (t' := s4.toks) (o := .lst xs.reverse) (fun b ob q => Heap.get?_push_of_some _ q) (Nat.le_refl _) ?_, rfl, q _ (I5.hok.fresh (Nat.le_refl _))⟩
    exact ⟨by rw [List.length_reverse]; exact hz, _, 0, r.reverse, Heap.get?_push_size _ rfl⟩
  · injection ei with ei
    subst ei
    refine wpAny_getItem_list_slice ht.isList (Heap.IsSliceOf.new _ vl vu vs) pl pu ps (by decide) ?_ (by rw [List.size_toArray]; omega)
    rw [pick_all]
    refine ⟨.ref _, _, I5.laid (t' := s4.toks) (o := .lst xs) (fun b ob q => Heap.get?_push_of_some _ q) (Nat.le_refl _) ?_, rfl, q _ (I5.hok.fresh (Nat.le_refl _))⟩
    exact ⟨hz, _, 0, r, Heap.get?_push_size _ rfl⟩

def stepD : D2
  | .lst _ xs, .int i, Q => (i = -1 ∧ Q (.lst .o xs.reverse)) ∨ (i = 1 ∧ Q (.lst .o xs))
  | _, _, _ => False
section
variable {X : Cx} {a b : Expr} {ta tb : DT} {p3 pos : Pos}
theorem pd_step (ha : PD X a ta) (hb : PD X b tb) : PD X (.Subscript a (.Slice none none (some b) p3) pos) (dBin (o2 stepD) ta tb) :=
  mPE (pe_stepL ha hb) fun σ H Q h => by
    refine lift_mono (lift_bin h) fun x H1 h1 => ?_
    refine lift_mono h1 fun y H2 h2 => ?_
    refine to2 h2 fun P M B d e L1 L3 Q0 A r1 r2 f k' => ?_
    unfold stepD at f
    split at f
    · obtain ⟨rfl, rfl⟩ := r2.int_inv
      obtain ⟨a1, vs, L', rfl, hq, rr, c⟩ := r1.lst_inv
      have nd : L1.Nodup := by
        have := A.nd
        rw [List.append_nil] at this
        exact this
      obtain ⟨n', s'⟩ := nodup_tl c nd
      refine ⟨_, rfl, _, rfl, a1, vs, rfl, hq, ?_⟩
      rcases f with ⟨rfl, f⟩ | ⟨rfl, f⟩
      · obtain ⟨L2, r2, pm⟩ := reps_rev rr
        exact .inl ⟨rfl, fun p hp => k' _ _ (A.newl hp r2 (fun b z => List.mem_append_left _ (s' b (pm.mem_iff.mp z))) (pm.nodup_iff.mpr n') f)⟩
      · exact .inr ⟨rfl, fun p hp => k' _ _ (A.newl hp rr (fun b z => List.mem_append_left _ (s' b z)) n' f)⟩
    · exact f.elim
end
theorem o_step {α : Type} {e : α → D} {f : Fl} {l : List α} {i : Int} (h : i = -1 ∨ i = 1) : Op (o2 stepD) [eL f e l, eI i] (eL .o e (if i = 1 then l else l.reverse)) := fun Q q => by
  rcases h with rfl | rfl
  · refine .inl ⟨rfl, ?_⟩
    rw [if_neg (by decide)] at q
    rw [← List.map_reverse]; exact q
  · refine .inr ⟨rfl, ?_⟩
    rw [if_pos rfl] at q
    exact q
end DL
set_option maxHeartbeats 4000000
set_option exponentiation.threshold 50000
namespace DL
open PySem PySem.Spec PyProof.Rows L2
variable [Tb]
/-! ### any data that nothing owns, for defs that take rows of any kind -/
abbrev XD := {d : D // d.pf = true ∧ d.np = true}
def eX : XD → D := fun x => x.1
instance : Inhabited XD := ⟨⟨.non, rfl, rfl⟩⟩
instance : Pf eX := ⟨fun x => x.2.1, fun x => x.2.2⟩
theorem perm_map {α β : Type} {f : α → β} : ∀ {l m : List β}, l.Perm m → ∀ {x : List α}, m = x.map f → ∃ r : List α, l = r.map f ∧ r.Perm x := by
  intro l m h
  induction h with
  | nil => intro x e; exact ⟨[], rfl, by cases x with | nil => exact .nil | cons => cases e⟩
  | cons a h ih =>
    intro x e
    cases x with
    | nil => cases e
    | cons b x =>
      rw [List.map_cons] at e
      injection e with e1 e2
      obtain ⟨r, rfl, p⟩ := ih e2
      exact ⟨b :: r, by rw [List.map_cons, e1], p.cons b⟩
  | swap a b l =>
    intro x e
    match x, e with
    | c :: d :: x, e =>
      rw [List.map_cons, List.map_cons] at e
      injection e with e1 e2
      injection e2 with e2 e3
      exact ⟨d :: c :: x, by rw [List.map_cons, List.map_cons, e1, e2, e3], .swap ..⟩
  | trans _ _ ih1 ih2 =>
    intro x e
    obtain ⟨r, e1, p1⟩ := ih2 e
    obtain ⟨r', e2, p2⟩ := ih1 e1
    exact ⟨r', e2, p2.trans p1⟩
def toX {α : Type} {e : α → D} [Pf e] (a : α) : XD := ⟨e a, Pf.h a, Pf.np a⟩
theorem toX_map {α : Type} {e : α → D} [Pf e] (f : Fl) (l : List α) : eL f eX (l.map (toX (e := e))) = eL f e l := by
  show D.lst f _ = D.lst f _
  rw [List.map_map]; rfl
/-! ### the parts of what a work lacks -/
def fltW : Flt → OkS
  | .ok => ⟨"", by decide +kernel⟩
  | .w1 s => s
  | .w2 s _ => s
  | .w3 s _ _ => s
def flt2 : Flt → Int
  | .w3 _ _ j => j
  | _ => 0
def fltN : Flt → Int
  | .ok => 0
  | .w1 _ => 1
  | .w2 _ _ => 2
  | .w3 _ _ _ => 3
theorem o_F0 {x : Flt} (h : x ≠ .ok) : Op (o2 ixD) [eF x, eI 0] (eS (fltW x)) := fun Q q => by
  cases x with
  | ok => exact absurd rfl h
  | w1 s => exact q
  | w2 s i => exact q
  | w3 s i j => exact q
theorem o_F2 {x : Flt} (h : fltN x = 3) : Op (o2 ixD) [eF x, eI 2] (eI (flt2 x)) := fun Q q => by
  cases x with
  | ok => cases h
  | w1 s => cases h
  | w2 s i => cases h
  | w3 s i j => exact q
theorem ifl {b : Bool} {A B : Prop} (h1 : b = true → A) (h0 : b = false → B) : if b = true then A else B := by
  cases b with
  | true => exact h1 rfl
  | false => exact h0 rfl
theorem c_dYes {ρ : Env} {Q : Bool → Prop} (h : Q true) : dYes ρ Q := h
theorem o_isiL {α : Type} {e : α → D} {f : Fl} {l : List α} : Op (o1 (isiD ["list"])) [eL f e l] (eB true) := fun Q q => by
  show isiD ["list"] (.lst f (l.map e)) Q
  unfold isiD
  have h : isiB (tyD (.lst f (l.map e))) ["list"] = some true := rfl
  rw [h]
  exact q
/-! ### sorted(set(points)), points far out -/
def Gb (p : Int × Int) : Prop := 0 ≤ p.1 ∧ p.1 < 2 ^ 40 ∧ 0 ≤ p.2 ∧ p.2 < 2 ^ 40
theorem code_pairB (x y : Int) : TS.code (2 ^ 40) [x, y] = x * 2 ^ 40 + y := by
  have e1 : ((2 : Int) ^ 40) ^ 1 = 2 ^ 40 := by decide
  have e0 : ((2 : Int) ^ 40) ^ 0 = 1 := by decide
  show x * (2 ^ 40) ^ 1 + (y * (2 ^ 40) ^ 0 + 0) = x * 2 ^ 40 + y
  rw [e1, e0, Int.mul_one, Int.add_zero]
theorem leP2_iffB {p q : Int × Int} (hp : Gb p) (hq : Gb q) : leP2 p q = true ↔ p.1 * 2 ^ 40 + p.2 ≤ q.1 * 2 ^ 40 + q.2 := by
  obtain ⟨h1, h2, h3, h4⟩ := hp
  obtain ⟨g1, g2, g3, g4⟩ := hq
  show (!(decide (q.1 < p.1) || (!decide (p.1 < q.1) && decide (q.2 < p.2)))) = true ↔ _
  rw [Bool.not_eq_true', ← Bool.not_eq_true, Bool.or_eq_true, Bool.and_eq_true, Bool.not_eq_true', decide_eq_true_eq, decide_eq_false_iff_not, decide_eq_true_eq]
  omega
theorem srtP_ofB {l m : List (Int × Int)} (hg : ∀ p ∈ l, Gb p) (hn : m.Nodup) (hm : ∀ p, p ∈ m ↔ p ∈ l) (pw : m.Pairwise fun p q => p.1 * 2 ^ 40 + p.2 ≤ q.1 * 2 ^ 40 + q.2) : m = srtP l := by
  have hgm : ∀ p ∈ m, Gb p := fun p hp => hg p ((hm p).mp hp)
  have pw2 : (srtP l).Pairwise fun p q => p.1 * 2 ^ 40 + p.2 ≤ q.1 * 2 ^ 40 + q.2 := by
    refine List.Pairwise.imp_of_mem ?_ (srtP_pw l)
    intro a b ha hb h
    exact (leP2_iffB (hg a (mem_srtP.mp ha)) (hg b (mem_srtP.mp hb))).mp h
  refine List.Perm.eq_of_pairwise (fun a b ha hb h1 h2 => ?_) pw pw2 ((List.perm_ext_iff_of_nodup hn (srtP_nodup l)).mpr fun p => by rw [hm, mem_srtP])
  have ga := hgm a ha
  have gb := hg b (mem_srtP.mp hb)
  obtain ⟨x, y⟩ := a
  obtain ⟨x', y'⟩ := b
  unfold Gb at ga gb
  simp only at h1 h2 ga gb
  have e1 : x = x' := by omega
  have e2 : y = y' := by omega
  rw [e1, e2]
theorem o_sortsetB {f : Fl} {l : List (Int × Int)} (h : l.length < 64 ∧ ∀ p ∈ l, Gb p) : Op (o1 sortSetT) [eL f (eT2 eI eI) l] (eL .o (eT2 eI eI) (srtP l)) := fun Q q => by
  obtain ⟨hl, hg⟩ := h
  refine ⟨l.map fun p => [p.1, p.2], 2, 2 ^ 40, by rw [List.map_map]; rfl, by rw [List.length_map]; exact hl, by decide, fun k hk => ?_, fun L n m pw => ?_⟩
  · obtain ⟨p, hp, rfl⟩ := List.mem_map.mp hk
    obtain ⟨h1, h2, h3, h4⟩ := hg p hp
    refine ⟨rfl, fun i hi => ?_⟩
    simp only [List.mem_cons, List.not_mem_nil, or_false] at hi
    rcases hi with e | e <;> rw [e]
    · exact ⟨h1, h2⟩
    · exact ⟨h3, h4⟩
  · have eL1 : L = (L.map fun k => ((k.getD 0 0, k.getD 1 0) : Int × Int)).map fun p => [p.1, p.2] := by
      rw [List.map_map]
      refine (List.map_id L).symm.trans (List.map_congr_left fun k hk => ?_)
      obtain ⟨p, _, rfl⟩ := List.mem_map.mp ((m k).mp hk)
      rfl
    generalize hM : (L.map fun k => ((k.getD 0 0, k.getD 1 0) : Int × Int)) = M at eL1
    subst eL1
    have inj : ∀ p q : Int × Int, [p.1, p.2] = [q.1, q.2] → p = q := fun p q e => by
      injection e with e1 e2
      injection e2 with e2 _
      exact Prod.ext e1 e2
    have eM : M = srtP l := srtP_ofB hg (List.Pairwise.of_map (fun p : Int × Int => [p.1, p.2]) (fun a b h e => h (by rw [e])) n) (fun p => by
      constructor
      · intro hp
        obtain ⟨p', hp', e'⟩ := List.mem_map.mp ((m [p.1, p.2]).mp (List.mem_map.mpr ⟨p, hp, rfl⟩))
        rw [← inj _ _ e']; exact hp'
      · intro hp
        obtain ⟨p', hp', e'⟩ := List.mem_map.mp ((m [p.1, p.2]).mpr (List.mem_map.mpr ⟨p, hp, rfl⟩))
        rw [← inj _ _ e']; exact hp') (by
      refine (List.pairwise_map.mp pw).imp fun {a b} h => ?_
      rw [code_pairB, code_pairB] at h
      exact h)
    rw [← eM] at q
    have e2 : (M.map fun p => [p.1, p.2]).map tupI = M.map (eT2 eI eI) := by rw [List.map_map]; rfl
    show Q (.lst .o ((M.map fun p => [p.1, p.2]).map tupI))
    rw [e2]
    exact q
end DL
set_option maxHeartbeats 4000000
set_option exponentiation.threshold 50000
/-! ### sorted of a set of tuples, of whatever size their ints are -/
namespace PySem.W
open PySem PySem.Calls PyProof.Rows
section
variable {prog : Program} {w : World} {A : Around} {E : Value → Shared → Prop} {s : Shared} {enc : Addr × List Int → PyData}
theorem sorted_setV {a : Addr} {L : List (Addr × List Int)} {es : Array (Int × Value)} {ep : Nat} {t : SetTable} {Q : Value → Shared → Prop} (R : L2.SetTR prog w s.heap a L es ep t) (hh : A.handled = none)
    (rd : ∀ q ∈ L, ∃ as, Reads s.heap (.ref q.1) (enc q) as) (hal : ∀ L1 : List (Addr × List Int), (∀ q ∈ L1, q ∈ L) → AllAlike (L1.map enc)) (hk : ∀ L1 : List (Addr × List Int), (∀ q ∈ L1, q ∈ L) → Sortable (L1.map enc))
    (hu : ∀ b, b ∈ L → A.units + 2 + (enc b).depth < cLine)
    (h : ∀ (s1 : Shared) (h' : Heap) (p : Addr) (c : Nat) (L1 : List (Addr × List Int)), L1.Perm L → s1.gens = s.gens → s1.os = s.os → (∀ b u, s.heap.get? b = some u → h'.get? b = some u) → s.heap.objs.size ≤ p →
      h'.get? p = some (seqObj "list" (List.toArray ((L1.mergeSort (dataLe false enc)).map fun q => Value.ref q.1)) c) → Q (.ref p) { s1 with heap := h' }) :
    wpAny (model prog w) A (call (.builtin "sorted") [.ref a]) Q E s := by
  obtain ⟨ob, hob, hex, hdt⟩ := R.ob
  have few := R.few
  have hsz := R.size
  refine call_function_entry_kw kind_sorted plain_sorted
    entry_sorted (args_sorted1 _) ?_
  unfold Builtin.«sorted»
  refine wpAny_bind (m := checkCount "sorted" 1 1 _)
    (wpAny_pure ?_)
  refine wpAny_bind (L2.collect_set (A := A.in1) hh ⟨ob, hob, hex.1, hdt⟩ R.fits (by unfold scanBound; omega) R.tab.ris R.led fun s1 vs k1 sz g1 o1 pm => ?_)
  have hes : es.toList.map (·.2) = L.map fun q => Value.ref q.1 := by
    rw [R.rows]
    unfold L2.rowsOf
    rw [List.map_map]
    rfl
  haveI : DL.Tb := ⟨[]⟩
  obtain ⟨L1, rfl, pL⟩ := DL.perm_map pm hes
  have sub : ∀ q ∈ L1, q ∈ L := fun q hq => pL.mem_iff.mp hq
  have hL : (L1.map fun q => Value.ref q.1).length ≤ sizeLine := by
    rw [List.length_map, pL.length_eq, sizeLine_eq]; omega
  refine wpAny_bind (wpAny_newList ?_ (by simpa using hL))
  generalize hvs : (L1.map fun q => Value.ref q.1) = vs at hL ⊢
  have hoL : (s1.heap.push (seqObj "list" vs.toArray 0)).get? s1.heap.objs.size = some (seqObj "list" vs.toArray 0) := Heap.get?_push_size _ rfl
  have old : ∀ {b : Addr} {u : Obj}, s.heap.get? b = some u → (sortingHeap (s1.heap.push (seqObj "list" vs.toArray 0)) s1.heap.objs.size vs).get? b = some u := fun {b u} z =>
    sortingHeap_old (Nat.ne_of_lt (Heap.lt_size (k1 _ _ z))) (Heap.get?_push_of_some _ (k1 _ _ z))
  have e : EachIs (fun v q => v = Value.ref q.1) vs L1 := by
    rw [← hvs]
    clear hvs hoL old hL pm pL sub
    induction L1 with
    | nil => exact .nil
    | cons q L1 ih => exact .cons rfl ih
  have er' : EachIs (fun v b => ∃ as, Reads (sortingHeap (s1.heap.push (seqObj "list" vs.toArray 0)) s1.heap.objs.size vs) v (enc b) as) vs L1 := by
    have : ∀ {vs2 : List Value} {L2 : List (Addr × List Int)}, EachIs (fun v q => v = Value.ref q.1) vs2 L2 → (∀ q ∈ L2, q ∈ L) → EachIs (fun v b => ∃ as, Reads (sortingHeap (s1.heap.push (seqObj "list" vs.toArray 0)) s1.heap.objs.size vs) v (enc b) as) vs2 L2 := by
      intro vs2 L2 h
      induction h with
      | nil => intro _; exact .nil
      | cons hq _ ih =>
        intro hs
        subst hq
        obtain ⟨as, r⟩ := rd _ (hs _ (List.mem_cons_self ..))
        exact .cons ⟨as, PyProof.Rows.Reads.keeps (fun _ _ => old) r⟩ (ih fun q z => hs q (List.mem_cons_of_mem _ z))
    exact this e sub
  refine wpAny_bind (wpAny_holding (wpAny_call_entry_kw slot_list_sort ⟨_, hoL, rfl⟩ entry_list_sort ?body (args_list_sort _)))
  case body =>
    refine wpAny_mono (list_sort_vals (κ := dataKind (sortingHeap (s1.heap.push (seqObj "list" vs.toArray 0)) s1.heap.objs.size vs) (L1.map enc)) (P := fun f s' => f = .done (.ret .none) ∧ s' = { s1 with heap := sortedHeap (s1.heap.push (seqObj "list" vs.toArray 0)) s1.heap.objs.size vs (sortVals (dataKind (sortingHeap (s1.heap.push (seqObj "list" vs.toArray 0)) s1.heap.objs.size vs) (L1.map enc)) false vs vs).toArray }) hoL
      (SortsAt.data (s := { s1 with heap := sortingHeap (s1.heap.push (seqObj "list" vs.toArray 0)) s1.heap.objs.size vs }) (each_map (R := fun v d => ∃ as, Reads (sortingHeap (s1.heap.push (seqObj "list" vs.toArray 0)) s1.heap.objs.size vs) v d as) enc er') (hal L1 sub) (hk L1 sub) (bound_map fun b hb => hu b (sub b hb))) hL ⟨rfl, rfl⟩) (fun f s' hf => ?_) fun _ _ z => z
    obtain ⟨rfl, rfl⟩ := hf
    obtain ⟨c, hc'⟩ := sortedHeap_at (vs := vs) (out := (sortVals (dataKind (sortingHeap (s1.heap.push (seqObj "list" vs.toArray 0)) s1.heap.objs.size vs) (L1.map enc)) false vs vs).toArray) hoL
    have eo := sortVals_data false e er' (hal L1 sub)
    have outs : ∀ {vs2 : List Value} {L2 : List (Addr × List Int)}, EachIs (fun v (q : Addr × List Int) => v = Value.ref q.1) vs2 L2 → vs2 = L2.map fun q => Value.ref q.1 := by
      intro vs2 L2 h
      induction h with
      | nil => rfl
      | cons hq _ ih => rw [hq, ih]; rfl
    rw [outs eo] at hc' ⊢
    refine ⟨_, rfl, wpAny_pure ⟨_, rfl, h s1 _ _ c L1 pL g1 o1 (fun b u z => ?_) sz hc'⟩⟩
    have z1 := k1 b u z
    have hlt := Heap.lt_size z1
    rw [sortedHeap_old (Nat.ne_of_lt hlt) (by rw [size_push']; exact Nat.lt_succ_of_lt hlt)]
    exact Heap.get?_push_of_some _ z1
end
end PySem.W
namespace DL
open PySem PySem.Spec PyProof.Rows L2
variable [Tb]
section
variable {X : Cx}
def rSortedV (K : PySem.W.Frag) (P : Program) (w : World) : List V → Hp → VK → Prop := fun vs H Q => ∃ (a : Addr) (L : List (Addr × List Int)), vs = [V.ref a] ∧ H a = some (SetTO P w a L) ∧ (∀ p ∈ L, SqT K H p.1 (p.2.map V.int)) ∧ (∀ p ∈ L, ∃ x y, p.2 = [x, y]) ∧
  ∀ (L' : List (Addr × List Int)) (p : Addr), L'.Perm L → (L'.map (·.2)).Nodup → L'.length < 64 → L'.Pairwise (fun q r => leD (tupI q.2) (tupI r.2) = true) → H p = none → Q (.ref p) (upd H p (.lst (L'.map fun q => V.ref q.1)))
theorem leD_pair (x y x' y' : Int) : leD (tupI [x, y]) (tupI [x', y']) = leP2 (x, y) (x', y') := by
  have := OrdC.h (e := eT2 eI eI) (x, y) (x', y')
  exact this
theorem cr_sortedV {k : Nat} (d : Gd X k) : CallR X (.builtin "sorted") (rSortedV X.K X.prog X.w) := by
  intro pins s σ H vs us Q I r h
  obtain ⟨a, L, rfl, ha, ht, h2, q⟩ := h
  have R0 : SetT0 X.prog X.w s.heap a L := (I.hok a _ ha).1
  obtain ⟨es, ep, t, R⟩ := R0.full fun p hp => I.isT (ht p hp)
  rw [Vals.ref1 r]
  have pair : ∀ q ∈ L, ∃ x y, q.2 = [x, y] := h2
  have sh : ∀ q ∈ L, Sh 50 (tupI q.2) := fun q hq => by
    obtain ⟨x, y, e⟩ := pair q hq
    rw [e]
    exact ShC.h (n := 50) (e := eT2 eI eI) (x, y)
  have hu := d.u'
  refine PySem.W.sorted_setV (enc := fun q => (tupI q.2).py) R (I.ok.hd d.calm) (fun q hq => ?_) (fun L1 hs => ?_) (fun L1 hs => ?_) (fun b hb => ?_) fun s1 h' p c L1 pm g o kp hp hg => ?_
  · exact Dp.reads I _ _ _ ((Rep.tup (P := []) (M := []) (B := []) (L := []) (ht q hq) (ints_reps q.2)).dp (sh q hq)) rfl
  · intro d1 hd1 d2 hd2
    obtain ⟨q1, m1, rfl⟩ := List.mem_map.mp hd1
    obtain ⟨q2, m2, rfl⟩ := List.mem_map.mp hd2
    obtain ⟨x, y, e⟩ := pair q1 (hs q1 m1)
    obtain ⟨x', y', e'⟩ := pair q2 (hs q2 m2)
    have := OrdC.al (e := eT2 eI eI) (x, y) (x', y')
    simp only [e, e']
    exact this
  · refine .inl fun d1 hd1 => ?_
    obtain ⟨q1, m1, rfl⟩ := List.mem_map.mp hd1
    obtain ⟨x, y, e⟩ := pair q1 (hs q1 m1)
    simp only [e]
    exact ⟨(D.int x).py, D.pys [D.int y], by simp [tupI, D.py, D.pys]⟩
  · have := (Sh.lay (sh b hb)).2
    omega
  · have few : (L1.mergeSort (PySem.W.dataLe false fun q : Addr × List Int => (tupI q.2).py)).length < 64 := by
      rw [List.length_mergeSort, pm.length_eq]; exact R.few
    generalize hS : L1.mergeSort (PySem.W.dataLe false fun q : Addr × List Int => (tupI q.2).py) = L' at hg few
    have pmS : L'.Perm L := by
      rw [← hS]; exact (List.mergeSort_perm _ _).trans pm
    have leE : ∀ q r : Addr × List Int, PySem.W.dataLe false (fun q : Addr × List Int => (tupI q.2).py) q r = leD (tupI q.2) (tupI r.2) := fun q r => rfl
    have pw : L'.Pairwise (fun q r => leD (tupI q.2) (tupI r.2) = true) := by
      have lef : ∀ q ∈ L, ∀ r ∈ L, leD (tupI q.2) (tupI r.2) = leP2 (q.2.getD 0 0, q.2.getD 1 0) (r.2.getD 0 0, r.2.getD 1 0) := fun q hq r hr => by
        obtain ⟨x, y, e⟩ := pair q hq
        obtain ⟨x', y', e'⟩ := pair r hr
        rw [e, e']
        exact leD_pair x y x' y'
      have mm := List.map_mergeSort (r := PySem.W.dataLe false fun q : Addr × List Int => (tupI q.2).py) (s := leP2) (f := fun q : Addr × List Int => (q.2.getD 0 0, q.2.getD 1 0)) (l := L1) (fun q hq r hr => (leE q r).trans (lef q (pm.mem_iff.mp hq) r (pm.mem_iff.mp hr)))
      rw [hS] at mm
      have p1 : (L'.map fun q : Addr × List Int => (q.2.getD 0 0, q.2.getD 1 0)).Pairwise fun a b => leP2 a b = true := by
        rw [mm]; exact List.pairwise_mergeSort leP2_trans leP2_total _
      refine List.Pairwise.imp_of_mem (fun {q r} hq hr z => ?_) (List.pairwise_map.mp p1)
      rw [lef q (pmS.mem_iff.mp hq) r (pmS.mem_iff.mp hr)]; exact z
    have hpn : H p = none := I.hok.fresh hp
    have hlen : (L'.map fun q => V.ref q.1).length ≤ sizeLine := by
      rw [List.length_map, sizeLine_eq]; omega
    have J : Inv X pins σ (upd H p (.lst (L'.map fun q => V.ref q.1))) { s with heap := h', gens := s1.gens, drawn := s1.drawn, toks := s1.toks } :=
      I.call (ch := []) (Un.laid kp hp hpn) (I.hok.laid kp hp ⟨hlen, L'.map fun q => Value.ref q.1, c, vals_of_refs L', hg⟩) (by rw [g]; exact I.bare) (fun _ z => nomatch z)
    have e : ({ s1 with heap := h' } : Shared) = { s with heap := h', gens := s1.gens, drawn := s1.drawn, toks := s1.toks } := by
      cases s1
      cases s
      cases o
      rfl
    rw [e]
    exact ⟨.ref p, _, J, rfl, q L' p pmS ((pmS.map (·.2)).nodup_iff.mpr R.nd) few pw hpn⟩
end
/-- at the data: what is unlike in a list of points, in order -/
def sortSetV : D1
  | .lst _ xs, Q => ∃ ps : List (Int × Int), xs = ps.map (eT2 eI eI) ∧ ps.length < 64 ∧ Q (.lst .o ((srtP ps).map (eT2 eI eI)))
  | _, _ => False
theorem srtP_ofV {l m : List (Int × Int)} (hn : m.Nodup) (hm : ∀ p, p ∈ m ↔ p ∈ l) (pw : m.Pairwise fun a b => leP2 a b = true) : m = srtP l := by
  refine List.Perm.eq_of_pairwise (le := fun a b => leP2 a b = true) (fun a b _ _ h1 h2 => ?_) pw (srtP_pw l) ((List.perm_ext_iff_of_nodup hn (srtP_nodup l)).mpr fun p => by rw [hm, mem_srtP])
  revert h1 h2
  show (!(decide (b.1 < a.1) || (!decide (a.1 < b.1) && decide (b.2 < a.2)))) = true → (!(decide (a.1 < b.1) || (!decide (b.1 < a.1) && decide (a.2 < b.2)))) = true → a = b
  obtain ⟨x, y⟩ := a
  obtain ⟨x', y'⟩ := b
  simp only [Bool.not_eq_true', ← Bool.not_eq_true, Bool.or_eq_true, Bool.and_eq_true, decide_eq_true_eq, decide_eq_false_iff_not]
  intro h1 h2
  exact Prod.ext (by show x = x'; omega) (by show y = y'; omega)
section
variable {X : Cx} {a : Expr} {ta : DT} {p p2 q pos : Pos} {k : Nat}
theorem pd_sortsetV (d : Gd X k) (hm : X.mg "sorted" = none) (hm2 : X.mg "set" = none) (ha : PD X a ta) (hg : Gl X "sorted" := by rfl) (hg2 : Gl X "set" := by rfl) (na : starEach [a] X.env = (false, eval a X.env) :: starEach [] X.env := by rfl) :
    PD X (.Call (.Name "sorted" p) [.Call (.Name "set" p2) [a] [] q] [] pos) (dUn (o1 sortSetV) ta) :=
  mPE (pe_callB (cr_sortedV d) hg hm bo_sorted (pa_cons (pe_callTy (cr_setOfT d.calm d.u') hg2 hm2 bo_set (pa_cons ha pa_nil na) (he := na)) pa_nil)) fun σ H Q h => by
  refine lift_mono (lift_un h) fun v H1 h1 => ?_
  refine to1 h1 fun P M B v' d L Q0 ev A r f k' => ?_
  injection ev with ev _
  subst ev
  unfold sortSetV at f
  split at f
  · obtain ⟨ws, rfl, hl, q⟩ := f
    obtain ⟨a1, vs, L', rfl, hq, rr, c⟩ := r.lst_inv
    rw [show ws.map (eT2 eI eI) = (ws.map fun p => [p.1, p.2]).map tupI by rw [List.map_map]; rfl] at rr
    obtain ⟨ps, rfl, e2, h3⟩ := reps_tupI rr
    have two : ∀ p ∈ ps, ∃ x y, p.2 = [x, y] := fun p hp => by
      have := List.mem_map_of_mem (f := fun p : Addr × List Int => p.2) hp
      rw [e2] at this
      obtain ⟨z, _, e⟩ := List.mem_map.mp this
      exact ⟨_, _, e.symm⟩
    refine ⟨a1, ps, rfl, hq, h3, ?_, fun b LL hb hsub hall => ?_⟩
    · have := congrArg List.length e2
      rw [List.length_map, List.length_map] at this
      omega
    have g2 : Gr P.as H1 (upd H1 b (SetTO X.prog X.w b LL)) := Gr.laid hb
    have h3' : ∀ p ∈ LL, SqT X.K (upd H1 b (SetTO X.prog X.w b LL)) p.1 (p.2.map V.int) := fun p hp => SqT.gr (h3 p (hsub p hp)) g2 A.stt.lists
    refine ⟨b, LL, rfl, upd_same, h3', fun p hp => two p (hsub p hp), fun L2 c2 pm nd few pw hc2 => k' _ _ ?_⟩
    have p2 : PensOk P (L ++ M) (upd H1 b (SetTO X.prog X.w b LL)) := A.stt.pens.laid hb
    have r2 := Reps.gr g2 A.stt.lists (fun a z => .inl z) (fun a z => .inl z) A.reps
    have A2 : Args X.K P M B (upd H1 b (SetTO X.prog X.w b LL)) [.ref a1] _ L := ⟨A.base.after g2 p2 fun a z => (Reps.own r2 a z).1, r2, A.nd, A.sub, A.out⟩
    have h4 : ∀ p ∈ L2, SqT X.K (upd H1 b (SetTO X.prog X.w b LL)) p.1 (p.2.map V.int) := fun p hp => h3' p (pm.mem_iff.mp hp)
    have two2 : ∀ p ∈ L2, ∃ x y, p.2 = [x, y] := fun p hp => two p (hsub p (pm.mem_iff.mp hp))
    -- the rows as points
    have back : ∀ p ∈ L2, p.2 = [p.2.getD 0 0, p.2.getD 1 0] := fun p hp => by
      obtain ⟨x, y, e⟩ := two2 p hp
      rw [e]; rfl
    have eL : (L2.map (·.2)).map tupI = (L2.map fun p => ((p.2.getD 0 0, p.2.getD 1 0) : Int × Int)).map (eT2 eI eI) := by
      rw [List.map_map, List.map_map]
      refine List.map_congr_left fun p hp => ?_
      show tupI p.2 = _
      rw [back p hp]; rfl
    have same : (L2.map fun p => ((p.2.getD 0 0, p.2.getD 1 0) : Int × Int)) = srtP ws := by
      refine srtP_ofV ?_ (fun z => ?_) ?_
      · have : (L2.map (·.2)) = (L2.map fun p => ((p.2.getD 0 0, p.2.getD 1 0) : Int × Int)).map fun z => [z.1, z.2] := by
          rw [List.map_map]
          exact List.map_congr_left fun p hp => back p hp
        rw [this] at nd
        exact List.Pairwise.of_map (fun z : Int × Int => [z.1, z.2]) (fun a b h e => h (by rw [e])) nd
      · have mem2 : ∀ k : List Int, k ∈ L2.map (·.2) ↔ k ∈ ws.map fun p => [p.1, p.2] := fun k => by
          rw [← e2]
          constructor
          · intro z
            obtain ⟨p, hp, rfl⟩ := List.mem_map.mp z
            exact List.mem_map.mpr ⟨p, hsub p (pm.mem_iff.mp hp), rfl⟩
          · intro z
            obtain ⟨p, hp, rfl⟩ := List.mem_map.mp z
            obtain ⟨p', hp', e'⟩ := List.mem_map.mp (hall p hp)
            exact List.mem_map.mpr ⟨p', pm.mem_iff.mpr hp', e'⟩
        constructor
        · intro h
          obtain ⟨p, hp, rfl⟩ := List.mem_map.mp h
          obtain ⟨y, hy, e⟩ := List.mem_map.mp ((mem2 p.2).mp (List.mem_map.mpr ⟨p, hp, rfl⟩))
          rw [← e]; exact hy
        · intro h
          obtain ⟨p, hp, e⟩ := List.mem_map.mp ((mem2 [z.1, z.2]).mpr (List.mem_map.mpr ⟨z, h, rfl⟩))
          refine List.mem_map.mpr ⟨p, hp, ?_⟩
          have e : p.2 = [z.1, z.2] := e
          rw [e]; rfl
      · refine List.pairwise_map.mpr (List.Pairwise.imp_of_mem (fun {q r} hq hr z => ?_) pw)
        rw [back q hq, back r hr, leD_pair] at z
        exact z
    have q' : Q0 (.lst .o ((L2.map (·.2)).map tupI)) := by
      rw [eL, same]; exact q
    obtain ⟨c, Lr, q0, g', p', r', n', f'⟩ := A2.newl hc2 (reps_tup h4) (fun a z => nomatch z) List.nodup_nil q'
    exact ⟨c, Lr, q0, g2.trans g', p', r', n', fun a z => (f' a z).imp (fun z => g2.nil p2 z) id⟩
  · exact f.elim
end
theorem o_sortsetV {f : Fl} {l : List (Int × Int)} (h : l.length < 64) : Op (o1 sortSetV) [eL f (eT2 eI eI) l] (eL .o (eT2 eI eI) (srtP l)) := fun Q q => ⟨l, rfl, h, q⟩
end DL
set_option maxHeartbeats 4000000
set_option exponentiation.threshold 50000
namespace DL
open PySem PySem.Spec PyProof.Rows L2
variable [Tb]
/-! ### one clause of a comprehension: items, target, tests, and what is then done -/
/-- the turn of a clause as the loops want it -/
def TurnAt (P : Program) (w : World) (A : Around) (tg : Expr) (ifs : List Expr) (env : PySem.Env) (it : Addr) (E : Value → Shared → Prop) (stop : Shared → Prop) (Do : (Shared → Prop) → Shared → Prop) (I : Nat → Shared → Prop) (n : Nat) (s : Shared) : Prop :=
  wpAny (model P w) A (pyNext (.ref it)) (fun r s1 => match r with
    | none => stop s1
    | some v => wpAny (model P w) A (letOwnedTupleGo tg (.ref it) v) (fun _ s2 => wpAny (model P w) A (assign tg env v) (fun _ s3 =>
        wpAny (model P w) A (forIn ifs true fun c r => if r = true then do let ok ← isTrue c env (eval c env); pure (ForInStep.yield ok) else pure (ForInStep.yield r)) (fun ok s4 =>
          if ok = true then Do (fun z => ∃ m, m < n ∧ I m z) s4 else ∃ m, m < n ∧ I m s4) E s3) E s2) E s1) E s
/-- a clause's turns -/
def Turns (J : It) (g : TG) (tt : TT) (vs : List Nat) (τ : L2.St) (act : L2.St → Hp → (Hp → Prop) → Prop) (Fin : Hp → Prop) (W : Nat → Nat → Hp → Prop) : Prop :=
  ∀ i m H, W i m H → (J.stop i H ∧ Fin H) ∨ (J.go i H ∧ ∃ Nx : Hp → Prop, (∀ H', Nx H' → ∃ m', m' < m ∧ W (i + 1) m' H') ∧
    ∀ x H', J.yld i H x H' → g x τ H' fun ρ H2 => wipe ρ vs = τ ∧ tt ρ H2 fun b H3 => if b = true then act ρ H3 Nx else Nx H3)
theorem clause {Y : Cx} (hE : Y.xe = fun _ _ => False) (hc : Y.calm = true) {tg : Expr} {ifs : List Expr} {g : TG} {tt : TT} (pg : PG Y tg g) (pt : PTs Y ifs tt) {J : It} {fp : List Addr} {it : Addr} {tn : Nat → Heap → Prop}
    (T : Turn Y.prog Y.w Y.K tg J fp it tn) {pins : List (Addr × Obj)} {τ : L2.St} (vs : List Nat)
    (hp : ∀ (H : Hp) (s : Shared), Inv Y pins τ H s → (∀ b ∈ fp, H b = none) → ∀ b ∈ fp, FpOk Y pins H b)
    {Do : (Shared → Prop) → Shared → Prop} {act : L2.St → Hp → (Hp → Prop) → Prop}
    (hdo : ∀ (G : Shared → Prop) (ρ : L2.St) (s : Shared) (ps : List (Addr × Obj)) (H : Hp) (Nx : Hp → Prop), Inv Y ps ρ H s → act ρ H Nx →
      (∀ (ρ' : L2.St) (z : Shared) (H' : Hp), Inv Y ps ρ' H' z → ρ'.length = ρ.length → (∀ (j : Nat) v, (wipe ρ vs)[j]? = some (some v) → ρ'[j]? = some (some v)) → Nx H' → G z) → Do G s)
    {Fin : Hp → Prop} {stop : Shared → Prop} {W : Nat → Nat → Hp → Prop}
    (turn : Turns J g tt vs τ act Fin W)
    (hfin : ∀ (s : Shared) (H : Hp), Inv Y pins τ H s → Fin H → stop s) {E : Value → Shared → Prop} {Goal : Shared → Prop}
    (loop : ∀ (I : Nat → Shared → Prop), (∀ n s, I n s → TurnAt Y.prog Y.w Y.A tg ifs Y.env it E stop Do I n s) → ∀ n s, I n s → Goal s) :
    ∀ (m : Nat) (s : Shared) (H : Hp), Inv Y pins τ H s → tn 0 s.heap → (∀ b ∈ fp, H b = none) → W 0 m H → Goal s := by
  intro m s H I0 t0 n0 w0
  refine loop (fun n z => ∃ i H', Inv Y pins τ H' z ∧ tn i z.heap ∧ (∀ b ∈ fp, H' b = none) ∧ W i n H') ?_ m s ⟨0, H, I0, t0, n0, w0⟩
  rintro n z ⟨i, H1, I1, t1, n1, w1⟩
  rcases turn i n H1 w1 with ⟨st, fn⟩ | ⟨go, Nx, hNx, step⟩
  · refine thnF (T.done Y rfl rfl rfl hc i pins z τ H1 _ I1 (hp H1 z I1 n1) t1 st) fun r z2 h => ?_
    obtain ⟨rfl, I2⟩ := h
    exact hfin z2 H1 I2 fn
  · refine thnF (T.item Y rfl rfl rfl hc i pins z τ H1 _ I1 (hp H1 z I1 n1) t1 go) fun r z2 h => ?_
    obtain ⟨u, rfl, h⟩ := h
    refine thnF h fun _ z3 h => ?_
    obtain ⟨x, H3, I3, rx, yx, t3, n3⟩ := h
    have K3 := I3.pinned (hp H3 z3 I3 n3) (T.obj _ _ t3)
    have run1 := pg.run _ z3 τ H3 x u _ K3 rx (step x H3 yx)
    rw [hE] at run1
    refine thnF run1 fun _ z4 h => ?_
    obtain ⟨ρ, H4, I4, hw, q4⟩ := h
    have run2 := pt.run _ z4 ρ H4 _ I4 q4
    -- whatever follows, the clause stands again as at its beginning
    have back : ∀ (ρ' : L2.St) (y : Shared) (H' : Hp), Inv Y (pins ++ pinsAt fp z3.heap) ρ' H' y → ρ'.length = ρ.length → (∀ (j : Nat) v, (wipe ρ vs)[j]? = some (some v) → ρ'[j]? = some (some v)) → Nx H' →
        ∃ m, m < n ∧ ∃ i H', Inv Y pins τ H' y ∧ tn i y.heap ∧ (∀ b ∈ fp, H' b = none) ∧ W i m H' := fun ρ' y H' J' hl hk nx => by
      obtain ⟨m', lt, w'⟩ := hNx H' nx
      have held : ∀ b ∈ fp, ∀ o, z3.heap.get? b = some o → y.heap.get? b = some o ∧ H' b = none := fun b hb o e => by
        have := J'.pin (b, o) (List.mem_append_right _ (List.mem_append_right _ (mem_pinsAt hb e)))
        exact ⟨this.1, this.2.1⟩
      have lenτ : τ.length = ρ'.length := by rw [hl, ← hw, wipe_length]
      refine ⟨m', lt, i + 1, H', J'.unpinned.weak lenτ (fun j v e => hk j v (by rw [hw]; exact e)), T.keep _ _ _ t3 (fun b hb o e => (held b hb o e).1), fun b hb => ?_, w'⟩
      obtain ⟨o, e, _⟩ := T.obj _ _ t3 b hb
      exact (held b hb o e).2
    have E2 : ∀ {α : Type} {t : Sem α} {Q : α → Shared → Prop} {s : Shared}, wpAny (model Y.prog Y.w) Y.A t Q Y.xe s → wpAny (model Y.prog Y.w) Y.A t Q (fun _ _ => False) s := fun h => by rw [hE] at h; exact h
    refine thnF (E2 run2) fun b z5 h => ?_
    obtain ⟨H5, I5, q5⟩ := h
    cases b with
    | false =>
      simp only [Bool.false_eq_true, if_false] at q5 ⊢
      exact back ρ z5 H5 I5 rfl (fun j v e => (wipe_some e).1) q5
    | true =>
      simp only [if_true] at q5 ⊢
      exact hdo _ ρ z5 _ H5 Nx I5 q5 back
/-! ### set comprehensions with one and with two fors: their loops -/
section
variable {P : Program} {w : World} {A : Around} {R : Result → Shared → Prop} {elt ta ia tb ib : Expr} {fa fb : List Expr} {scope : Scope} {pos : Pos} {it : Addr} {acc : Value} {env : PySem.Env} {s : Shared}
abbrev sc2 (elt ta ia tb ib : Expr) (fa fb : List Expr) (scope : Scope) (pos : Pos) : Expr := .SetComp elt [⟨ta, ia, fa, 0⟩, ⟨tb, ib, fb, 0⟩] scope pos
/-- an item is put into the set -/
def DoAdd (P : Program) (w : World) (A : Around) (E : Value → Shared → Prop) (elt : Expr) (acc : Value) (env : PySem.Env) : (Shared → Prop) → Shared → Prop := fun G s => wpAny (model P w) A (eval elt env) (fun x s1 => wpAny (model P w) A (call (.builtin "set.add") [acc, x]) (fun _ s2 => G s2) E s1) E s
/-- the second clause is gone through -/
def DoIn (P : Program) (w : World) (A : Around) (E : Value → Shared → Prop) (cx ib : Expr) (acc : Value) (env : PySem.Env) : (Shared → Prop) → Shared → Prop := fun G s => wpAny (model P w) A (eval ib env) (fun x s1 => wpAny (model P w) A (pyIter x) (fun i1 s2 =>
  codeAny (model P w) A (.compStart cx 1 i1 acc env) (fun r z => match r with
    | .ok _ => G z
    | .error _ => False) s2) E s1) E s
abbrev ntd (P : Program) (w : World) (A : Around) (R : Result → Shared → Prop) (env : PySem.Env) : Value → Shared → Prop := notedBy (model P w) A env fun e z => R (.error e) z
theorem sloop1 (I : Nat → Shared → Prop) (turn : ∀ n s, I n s → TurnAt P w A ta fa env it (ntd P w A R env) (R (.ok .next)) (DoAdd P w A (ntd P w A R env) elt acc env) I n s) (n : Nat) (s : Shared) (h : I n s) :
    codeAny (model P w) A (.compLoop (.SetComp elt [⟨ta, ia, fa, 0⟩] scope pos) 0 (.ref it) acc env) R s := PpSet.compLoopS_any I turn n h
theorem sturn_a : compTurn (sc2 elt ta ia tb ib fa fb scope pos) 0 (.ref it) acc env = (do
    standAt ia.pos
    match ← pyNext (.ref it) with
    | none => pure (.done .next)
    | some x =>
      letOwnedTupleGo ta (.ref it) x
      assign ta env x
      let mut go := true
      for c in fa do
        if go then go ← isTrue c env (eval c env)
      if go then
        let y ← eval ib env
        standAt ib.pos
        let y ← foldedSetIterable ib env y
        let _ ← runOwn (.compStart (sc2 elt ta ia tb ib fa fb scope pos) 1 (← holding [y] (pyIter y)) acc env) env
      again (.compLoop (sc2 elt ta ia tb ib fa fb scope pos) 0 (.ref it) acc env)) := by rfl
theorem sturn_b : compTurn (sc2 elt ta ia tb ib fa fb scope pos) 1 (.ref it) acc env = (do
    standAt ib.pos
    match ← pyNext (.ref it) with
    | none => pure (.done .next)
    | some x =>
      letOwnedTupleGo tb (.ref it) x
      assign tb env x
      let mut go := true
      for c in fb do
        if go then go ← isTrue c env (eval c env)
      if go then
        (do let y ← eval elt env; standAt elt.pos; let _ ← call (.builtin "set.add") [acc, y])
      again (.compLoop (sc2 elt ta ia tb ib fa fb scope pos) 1 (.ref it) acc env)) := by rfl
theorem sloop_a (hs : ∀ x, foldedSetIterable ib env x = pure x) (I : Nat → Shared → Prop) (turn : ∀ n s, I n s → TurnAt P w A ta fa env it (ntd P w A R env) (R (.ok .next)) (DoIn P w A (ntd P w A R env) (sc2 elt ta ia tb ib fa fb scope pos) ib acc env) I n s)
    (n : Nat) (s : Shared) (h : I n s) : codeAny (model P w) A (.compLoop (sc2 elt ta ia tb ib fa fb scope pos) 0 (.ref it) acc env) R s := by
  refine codeAny_loop rfl I (fun n s hI => ?_) n h
  refine (?_ : wpAny _ A ((compTurn (sc2 elt ta ia tb ib fa fb scope pos) 0 (.ref it) acc env).onRaise (fun x => do noteFrame x env; theTreesLotGoes x)) _ _ s)
  refine wpAny_noted ?_
  rw [sturn_a]
  have t := turn n s hI
  unfold TurnAt at t
  refine wpAny_bind (wpAny_standAt (wpAny_bind (wpAny_mono t (fun r z hz => ?_) fun _ _ e => e)))
  cases r with
  | none => exact wpAny_pure hz
  | some v =>
    refine wpAny_bind (wpAny_mono hz (fun _ z1 h1 => wpAny_bind (wpAny_mono h1 (fun _ z2 h2 => wpAny_bind (wpAny_mono h2 (fun go z3 h3 => ?_) fun _ _ e => e)) fun _ _ e => e)) fun _ _ e => e)
    cases go with
    | false => exact wpAny_pure ⟨rfl, h3⟩
    | true =>
      refine wpAny_bind (wpAny_mono h3 (fun y z4 h4 => wpAny_bind (wpAny_standAt (wpAny_bind (wpAny_of_eq (hs y) (wpAny_bind (wpAny_holding (wpAny_mono h4 (fun i1 z5 h5 => ?_) fun _ _ e => e))))))) fun _ _ e => e)
      refine wpAny_bind (wpAny_runOwn ?_)
      rw [Around.mark_none]
      refine codeAny_mono h5 fun r z6 h6 => ?_
      cases r with
      | ok f =>
        first
          | exact wpAny_pure ⟨rfl, h6⟩
          | exact wpAny_bind (wpAny_pure (wpAny_pure ⟨rfl, h6⟩))
      | error e => exact h6.elim
theorem sloop_b (I : Nat → Shared → Prop) (turn : ∀ n s, I n s → TurnAt P w A tb fb env it (ntd P w A R env) (R (.ok .next)) (DoAdd P w A (ntd P w A R env) elt acc env) I n s)
    (n : Nat) (s : Shared) (h : I n s) : codeAny (model P w) A (.compLoop (sc2 elt ta ia tb ib fa fb scope pos) 1 (.ref it) acc env) R s := by
  refine codeAny_loop rfl I (fun n s hI => ?_) n h
  refine (?_ : wpAny _ A ((compTurn (sc2 elt ta ia tb ib fa fb scope pos) 1 (.ref it) acc env).onRaise (fun x => do noteFrame x env; theTreesLotGoes x)) _ _ s)
  refine wpAny_noted ?_
  rw [sturn_b]
  have t := turn n s hI
  unfold TurnAt at t
  refine wpAny_bind (wpAny_standAt (wpAny_bind (wpAny_mono t (fun r z hz => ?_) fun _ _ e => e)))
  cases r with
  | none => exact wpAny_pure hz
  | some v =>
    refine wpAny_bind (wpAny_mono hz (fun _ z1 h1 => wpAny_bind (wpAny_mono h1 (fun _ z2 h2 => wpAny_bind (wpAny_mono h2 (fun go z3 h3 => ?_) fun _ _ e => e)) fun _ _ e => e)) fun _ _ e => e)
    cases go with
    | false => exact wpAny_pure ⟨rfl, h3⟩
    | true => exact wpAny_bind (wpAny_bind (wpAny_mono h3 (fun y z4 h4 => wpAny_bind (wpAny_standAt (wpAny_bind (wpAny_mono h4 (fun _ z5 h5 => wpAny_pure (wpAny_pure ⟨rfl, h5⟩)) fun _ _ e => e)))) fun _ _ e => e))
/-- the second clause begins -/
theorem sstart_b {i1 : Value} (h : wpAny (model P w) A (pyIter i1) (fun i2 z => codeAny (model P w) A (.compLoop (sc2 elt ta ia tb ib fa fb scope pos) 1 i2 acc env) R z) (ntd P w A R env) s)
    (h0 : codeAny (model P w) A (.compLoop (sc2 elt ta ia tb ib fa fb scope pos) 1 i1 acc env) R s) : codeAny (model P w) A (.compStart (sc2 elt ta ia tb ib fa fb scope pos) 1 i1 acc env) R s := by
  refine codeAny_of_tree ?_
  refine (?_ : wpAny _ _ ((compStart (sc2 elt ta ia tb ib fa fb scope pos) 1 i1 acc env).onRaise (fun x => do noteFrame x env; standAt theWindowsPlace)) _ _ s)
  refine wpAny_notedAt ?_
  unfold compStart
  refine (?_ : wpAny _ _ (ask >>= _) _ _ s)
  refine wpAny_bind (wpAny_askSetting (wpAny_ite ?_))
  split
  · first
      | exact wpAny_bind (wpAny_pure (wpAny_pure (And.intro rfl h0)))
      | exact wpAny_pure (And.intro rfl h0)
  · first
      | exact wpAny_bind (wpAny_rule (wpAny_bind (wpAny_standAt (wpAny_bind (wpAny_mono h (fun i2 z hz => wpAny_pure (And.intro rfl hz)) fun _ _ e => e)))))
      | (refine wpAny_bind (wpAny_rule ?_); refine (?_ : wpAny _ _ (standAt ib.pos >>= _) _ _ s)
         exact wpAny_bind (wpAny_standAt (wpAny_bind (wpAny_mono h (fun i2 z hz => wpAny_pure (And.intro rfl hz)) fun _ _ e => e))))
end
/-! ### a tuple is put into a set -/
section
variable {P : Program} {w : World} {A : Around} {E : Value → Shared → Prop} {s : Shared}
theorem set_addT {a x : Addr} {k : List Int} {L : List (Addr × List Int)} {es : Array (Int × Value)} {ep : Nat} {t : SetTable} {Q : Value → Shared → Prop} (R : SetTR P w s.heap a L es ep t) (hx : IsT P w s.heap k x) (hu : A.units + 64 < cLine) (few : L.length + 1 < 64)
    (h : ∀ h' L' es' ep' t' tk, Heap.SameBut a s.heap h' → SetTR P w h' a L' es' ep' t' → (k ∈ L.map (·.2) → L' = L) → (k ∉ L.map (·.2) → L'.Perm ((x, k) :: L)) → Q .none { s with heap := h', toks := tk }) :
    wpAny (model P w) A (call (.builtin "set.add") [.ref a, .ref x]) Q E s := by
  obtain ⟨o, ho, hex, hd⟩ := R.ob
  refine wpAny_call_entry F.slot_set_add ⟨o, ho, hex.1⟩ F.entry_set_add ?_ (F.args_set_add_2 _ _)
  unfold Builtin.«set.add» Builtin.Frozenset.oneOther
  simp only [List.isEmpty_nil, bind_assoc]
  unfold Builtin.Frozenset.addrOf setAdd
  refine wpAny_bind (wpAny_pure ?_)
  try dsimp only
  refine wpAny_bind (wpAny_pure ?_)
  try dsimp only
  refine wpAny_bind (wpAny_holding (wpAny_bind (wpAny_pyHash_tuple (by show A.units + 1 < cLine; omega) hx ?_)))
  refine add_at (s := { s with toks := s.toks + (k.length + 1) }) R hx (by show A.units + 1 < cLine; omega) few fun b h' L' es' ep' t' sb R' c1 c2 => ?_
  refine (?_ : wpAny _ _ (ret Value.none) _ _ _)
  exact wpAny_pure ⟨_, rfl, h h' L' es' ep' t' _ sb R' c1 c2⟩
end
section
variable {X : Cx}
/-- into a tracked set -/
theorem addT_ok {pins : List (Addr × Obj)} {σ : L2.St} {H : Hp} {s : Shared} {E : Value → Shared → Prop} {D b : Addr} {k : List Int} {L : List (Addr × List Int)} {Q : Value → Shared → Prop} (hu : X.A.units + 64 < cLine) (I : Inv X pins σ H s) (hD : H D = some (SetTO X.prog X.w D L))
    (hb : SqT X.K H b (k.map V.int)) (hL : ∀ p ∈ L, SqT X.K H p.1 (p.2.map V.int)) (few : L.length + 1 < 64)
    (h : ∀ z L', (k ∈ L.map (·.2) → L' = L) → (k ∉ L.map (·.2) → L'.Perm ((b, k) :: L)) → Inv X pins σ (upd H D (SetTO X.prog X.w D L')) z → Q .none z) : wpAny (model X.prog X.w) X.A (call (.builtin "set.add") [.ref D, .ref b]) Q E s := by
  have R0 : SetT0 X.prog X.w s.heap D L := (I.hok D _ hD).1
  obtain ⟨es, ep, t, R⟩ := R0.full fun p hp => I.isT (hL p hp)
  refine set_addT R (I.isT hb) hu few fun h' L' es' ep' t' tk sb R' c1 c2 => ?_
  refine h _ L' c1 c2 (I.write (e := D) (t' := tk) (by rw [hD]; trivial) (.inl rfl) (fun b u hb hu => (sb.2 b hb).trans hu) ?_ (setTO_new R'.t0))
  obtain ⟨o, ho, _⟩ := R'.ob
  exact ⟨o, ho⟩
end
/-! ### a set comprehension's beginning: its block, its new set -/
section
variable {X : Cx}
abbrev FG (X : Cx) (scope : Scope) (tg : Expr) (g : TG) : Prop := ∀ (s : Shared) (H : Hp) (C : Addr) (cl : List (PySem.Str × Addr)) (fp : List Addr), PG (X.blk s H scope (compEnvC scope cl C X.env) fp) tg g
abbrev FT (X : Cx) (scope : Scope) (fs : List Expr) (tt : TT) : Prop := ∀ (s : Shared) (H : Hp) (C : Addr) (cl : List (PySem.Str × Addr)) (fp : List Addr), PTs (X.blk s H scope (compEnvC scope cl C X.env) fp) fs tt
abbrev FE (X : Cx) (scope : Scope) (e : Expr) (te : TE) : Prop := ∀ (s : Shared) (H : Hp) (C : Addr) (cl : List (PySem.Str × Addr)) (fp : List Addr), PE (X.blk s H scope (compEnvC scope cl C X.env) fp) e te
abbrev FI (X : Cx) (scope : Scope) (tg it : Expr) (wi : TI) : Prop := ∀ (s : Shared) (H : Hp) (C : Addr) (cl : List (PySem.Str × Addr)) (fp : List Addr), PI (X.blk s H scope (compEnvC scope cl C X.env) fp) tg it wi
theorem sc_begin {elt tg iter : Expr} {ifs : List Expr} {more : List Comprehension} {scope : Scope} {own : List (PySem.Str × Nat)} {pos : Pos} {wi : TI} {body : L2.St → It → Addr → Hp → (Hp → Prop) → Prop} (hN : X.N.Nodup) (hi : PI X tg iter wi) (ok : BlkOk X.N X.env.scope scope own) (hs : ∀ x, foldedSetIterable iter X.env x = pure x)
    (run : ∀ (s3 : Shared) (H3 : Hp) (ce : PySem.Env) (C : Addr) (cl : List (PySem.Str × Addr)) (fp : List Addr) (it D : Addr) (tn : Nat → Heap → Prop) (J : It) (R : Result → Shared → Prop) (σ : L2.St) (Fin : Hp → Prop), ce = compEnvC scope cl C X.env →
      Turn X.prog X.w X.K tg J fp it tn → body σ J D H3 Fin → (∀ (z : Shared) (H : Hp), Inv (X.blk s3 H3 scope ce fp) [] (wipe σ (own.map (·.2))) H z → Fin H → R (.ok .next) z) →
      ∀ z, Inv (X.blk s3 H3 scope ce fp) [] (wipe σ (own.map (·.2))) H3 z → tn 0 z.heap → (∀ b ∈ fp, H3 b = none) → (∀ (σ' : L2.St) (H : Hp) (z : Shared), Inv (X.blk s3 H3 scope ce fp) [] σ' H z → (∀ b ∈ fp, H b = none) → ∀ b ∈ fp, FpOk (X.blk s3 H3 scope ce fp) [] H b) →
      codeAny (model X.prog X.w) X.A (.compLoop (.SetComp elt (⟨tg, iter, ifs, 0⟩ :: more) scope pos) 0 (.ref it) (.ref D) ce) R z) :
    PE X (.SetComp elt (⟨tg, iter, ifs, 0⟩ :: more) scope pos) (fun σ H Q => wi σ H fun J H1 => ∀ D, H1 D = none → body σ J D (upd H1 D (SetTO X.prog X.w D [])) (fun H' => Q (.ref D) H')) := by
  refine ⟨fun pins s σ H Q I h => ?_⟩
  rw [PpSet.eval_SetComp]
  have hfree : ∀ y ∈ scope.names, y.2 = .free → ∃ c, X.env.cells.lookup y.1 = some c := fun y hy e => (ok.free y hy e).elim (fun k => I.ok.has _ (.inl k)) fun k => I.ok.has _ (.inr k)
  refine wpAny_comprehension_free (use := none) (e := .SetComp elt (⟨tg, iter, ifs, 0⟩ :: more) scope pos) rfl hs (closure_ok hfree) ok.kind (fun y hy e => by rw [ok.uniq y hy, e]) ?_
  refine thn (hi.run pins s σ H _ I h) fun xv s1 hx => thn hx fun itv s2 h2 => ?_
  obtain ⟨it, fp, tn, J, H2, rfl, I2, T, t2, f2, q⟩ := h2
  refine PpSet.newSet_ok (newEnv_comp ?_)
  generalize hD : s2.heap.objs.size = D
  have hDn : H2 D = none := I2.hok.fresh (Nat.le_of_eq hD)
  have q := q D hDn
  generalize hs3 : ({ s2 with heap := s2.heap.push { cls := .type "set", dict := none, data := .set #[] 0 (.fresh 0 0 (!X.w.params.followText "set-order")) } } : Shared) = s3
  have h3 : s3.heap = s2.heap.push { cls := .type "set", dict := none, data := .set #[] 0 (.fresh 0 0 (!X.w.params.followText "set-order")) } := by rw [← hs3]
  have I3 : Inv X pins σ (upd H2 D (SetTO X.prog X.w D [])) s3 := by
    rw [← hs3, ← hD]
    exact I2.laid (t' := s2.toks) (fun b o e => Heap.get?_push_of_some _ e) (Nat.le_refl _) (setTO_new (setTR_fresh (P := X.prog) (w := X.w) (Heap.get?_push_size _ rfl)).t0)
  have lt : ∀ b ∈ fp, b < s2.heap.objs.size := fun b hb => by
    obtain ⟨o, e, _⟩ := T.obj _ _ t2 b hb
    exact Heap.lt_size e
  have f3 : ∀ b ∈ fp, FpOk X pins (upd H2 D (SetTO X.prog X.w D [])) b ∧ b < s3.heap.objs.size := fun b hb => by
    have hl := lt b hb
    refine ⟨⟨?_, (f2 b hb).2⟩, by rw [h3, Heap.size_push]; exact Nat.lt_succ_of_lt hl⟩
    rw [upd_ne (by rw [← hD]; exact Nat.ne_of_lt hl)]
    exact (f2 b hb).1
  have I4 := block_start I3 ok hN f3
  have n3 : ∀ b ∈ fp, (upd H2 D (SetTO X.prog X.w D [])) b = none := fun b hb => (f3 b hb).1.1
  generalize hce : compEnvC scope (cellsFrom (s3.heap.objs.size + 1) scope.names (cloFrom X.env.cells scope.names [])) s3.heap.objs.size X.env = ce at I4
  have cL : ce.locals = s3.heap.objs.size := by subst hce; rfl
  generalize hH3 : upd H2 D (SetTO X.prog X.w D []) = H3 at I3 I4 n3 f3 q
  refine (?_ : codeAny _ _ (.compStart (.SetComp elt (⟨tg, iter, ifs, 0⟩ :: more) scope pos) 0 (.ref it) (.ref D) (compEnvC scope (cellsFrom (s3.heap.objs.size + 1) scope.names (cloFrom X.env.cells scope.names [])) s3.heap.objs.size X.env)) (compPost (model X.prog X.w) X.A X.xe none (EP X pins σ Q) (.ref D) s3.heap.objs.size) { s3 with heap := pushCells (s3.heap.push { cls := .type "dict", data := .dict #[] }) scope.names })
  rw [hce]
  generalize hs4 : ({ s3 with heap := pushCells (s3.heap.push { cls := .type "dict", data := .dict #[] }) scope.names } : Shared) = s4 at I4 ⊢
  have t4 : tn 0 s4.heap := T.keep _ _ _ t2 fun b _ o e => by
    rw [← hs4]
    refine pushCells_keeps _ _ _ _ (Heap.get?_push_of_some _ ?_)
    rw [h3]; exact Heap.get?_push_of_some _ e
  have stat : ∀ (σ' : L2.St) (H' : Hp) (z : Shared), Inv (X.blk s3 H3 scope ce fp) [] σ' H' z → (∀ b ∈ fp, H' b = none) → ∀ b ∈ fp, FpOk (X.blk s3 H3 scope ce fp) [] H' b := fun σ' H' z I' hn b hb =>
    ⟨hn b hb, (I'.ok.exf b hb).1, I'.ok.exfs b hb, .inl hb, fun x c e => (I'.ok.exf b hb).2 x c e, fun p hp => absurd (show p ∈ ([] : List (Addr × Obj)) ++ [] from hp) (by simp)⟩
  have leave : ∀ (z : Shared) (H' : Hp), Inv (X.blk s3 H3 scope ce fp) [] (wipe σ (own.map (·.2))) H' z → Q (.ref D) H' → compPost (model X.prog X.w) X.A X.xe none (EP X pins σ Q) (.ref D) s3.heap.objs.size (.ok .next) z := fun z H' I6 qq => by
    have I7 : Inv X pins σ H' z := I3.call' (ch := fp) I6.os I6.base I6.hok I6.bare fun b hb => ⟨(f3 b hb).1.2.2.2.1, (f3 b hb).1.2.1, (f3 b hb).1.2.2.2.2.1, (f3 b hb).1.2.2.2.2.2⟩
    have nC : H' s3.heap.objs.size = none := by
      have free : H' ce.locals = none := I6.free
      rw [cL] at free
      exact free
    obtain ⟨m, names, _⟩ := I6.loc
    have names : z.heap.Ns ce.locals m := names
    rw [cL] at names
    obtain ⟨a0, a1, a2, a3, a4, a5⟩ := (I3.fpOk (Nat.le_refl _) nC : FpOk X pins H' s3.heap.objs.size)
    exact ⟨m, names, fun h'' sb => ⟨.ref D, H', I7.turned (t' := z.toks) (fun b o hb e => (sb.2 b hb).trans e) a0 a1 a3 a4 a5, rfl, qq⟩⟩
  have loop := run s3 H3 ce _ _ fp it D tn J _ σ _ hce.symm T q leave s4 I4 t4 n3 stat
  exact PpSet.codeAny_compStart_set loop (T.self X.A 0 _ _ _ t4 loop)
end
section
variable {X : Cx}
/-- an item, a tuple of ints, joins the set at D -/
def actAdd (P : Program) (w : World) (K : PySem.W.Frag) (te : TE) (D : Addr) : L2.St → Hp → (Hp → Prop) → Prop := fun ρ H Nx => te ρ H fun y H1 => ∃ (b : Addr) (k : List Int) (L : List (Addr × List Int)), y = .ref b ∧ H1 D = some (SetTO P w D L) ∧ SqT K H1 b (k.map V.int) ∧
  (∀ p ∈ L, SqT K H1 p.1 (p.2.map V.int)) ∧ L.length + 1 < 64 ∧ ∀ L', (k ∈ L.map (·.2) → L' = L) → (k ∉ L.map (·.2) → L'.Perm ((b, k) :: L)) → Nx (upd H1 D (SetTO P w D L'))
def body1 (P : Program) (w : World) (K : PySem.W.Frag) (g : TG) (tt : TT) (te : TE) (vs : List Nat) : L2.St → It → Addr → Hp → (Hp → Prop) → Prop := fun σ J D H Fin => ∃ W : Nat → Nat → Hp → Prop, (∃ m, W 0 m H) ∧ Turns J g tt vs (wipe σ vs) (actAdd P w K te D) Fin W
def actIn (P : Program) (w : World) (K : PySem.W.Frag) (wi1 : TI) (g1 : TG) (tt1 : TT) (te : TE) (vs1 : List Nat) (D : Addr) : L2.St → Hp → (Hp → Prop) → Prop := fun ρ H Nx => wi1 ρ H fun J1 H1 => ∃ W1 : Nat → Nat → Hp → Prop, (∃ m, W1 0 m H1) ∧ Turns J1 g1 tt1 vs1 (wipe ρ vs1) (actAdd P w K te D) Nx W1
def body2 (P : Program) (w : World) (K : PySem.W.Frag) (g : TG) (tt : TT) (wi1 : TI) (g1 : TG) (tt1 : TT) (te : TE) (vs vs1 : List Nat) : L2.St → It → Addr → Hp → (Hp → Prop) → Prop := fun σ J D H Fin => ∃ W : Nat → Nat → Hp → Prop, (∃ m, W 0 m H) ∧ Turns J g tt vs (wipe σ vs) (actIn P w K wi1 g1 tt1 te vs1 D) Fin W
theorem do_add {Y : Cx} (hE : Y.xe = fun _ _ => False) (hu : Y.A.units + 64 < cLine) {elt : Expr} {te : TE} (pe : PE Y elt te) {D : Addr} (vs : List Nat) {E : Value → Shared → Prop} (G : Shared → Prop) (ρ : L2.St) (s : Shared) (ps : List (Addr × Obj)) (H : Hp) (Nx : Hp → Prop) (I : Inv Y ps ρ H s) (a : actAdd Y.prog Y.w Y.K te D ρ H Nx)
    (k : ∀ (ρ' : L2.St) (z : Shared) (H' : Hp), Inv Y ps ρ' H' z → ρ'.length = ρ.length → (∀ (j : Nat) v, (wipe ρ vs)[j]? = some (some v) → ρ'[j]? = some (some v)) → Nx H' → G z) : DoAdd Y.prog Y.w Y.A E elt (.ref D) Y.env G s := by
  have r1 := pe.run ps s ρ H _ I a
  rw [hE] at r1
  refine thnF r1 fun v z h => ?_
  obtain ⟨y, H1, I1, rel, b, kk, L, rfl, hD, hb, hL, few, nx⟩ := h
  cases rel
  exact addT_ok hu I1 hD hb hL few fun z' L' c1 c2 I2 => k ρ z' _ I2 rfl (fun j v e => (wipe_some e).1) (nx L' c1 c2)
theorem pe_sc1 {elt tg iter : Expr} {ifs : List Expr} {scope : Scope} {own : List (PySem.Str × Nat)} {pos : Pos} {wi : TI} {g : TG} {tt : TT} {te : TE} (hc : X.calm = true) (hu : X.A.units + 64 < cLine) (hN : X.N.Nodup) (hi : PI X tg iter wi) (ok : BlkOk X.N X.env.scope scope own) (hg : FG X scope tg g) (ht : FT X scope ifs tt) (he : FE X scope elt te)
    (hs : ∀ x, foldedSetIterable iter X.env x = pure x := by intro _; rfl) :
    PE X (.SetComp elt [⟨tg, iter, ifs, 0⟩] scope pos) (fun σ H Q => wi σ H fun J H1 => ∀ D, H1 D = none → body1 X.prog X.w X.K g tt te (own.map (·.2)) σ J D (upd H1 D (SetTO X.prog X.w D [])) (fun H' => Q (.ref D) H')) :=
  sc_begin (body := body1 X.prog X.w X.K g tt te (own.map (·.2))) hN hi ok hs fun s3 H3 ce C cl fp it D tn J R σ Fin hce T b fin z I t n stat => by
    subst hce
    obtain ⟨W, ⟨m0, w0⟩, turn⟩ := b
    exact clause (Y := X.blk s3 H3 scope (compEnvC scope cl C X.env) fp) (τ := wipe σ (own.map (·.2))) (act := actAdd X.prog X.w X.K te D) (W := W) rfl hc (hg s3 H3 C cl fp) (ht s3 H3 C cl fp) T (pins := []) (own.map (·.2)) (fun H z I n => stat _ H z I n) (do_add (Y := X.blk s3 H3 scope (compEnvC scope cl C X.env) fp) rfl hu (he s3 H3 C cl fp) (own.map (·.2))) turn fin (fun I t n s h => sloop1 I t n s h) m0 z H3 I t n w0
theorem pe_sc2 {elt tg iter tg1 iter1 : Expr} {ifs ifs1 : List Expr} {scope : Scope} {own : List (PySem.Str × Nat)} {vs1 : List Nat} {pos : Pos} {wi wi1 : TI} {g g1 : TG} {tt tt1 : TT} {te : TE} (hc : X.calm = true) (hu : X.A.units + 64 < cLine) (hN : X.N.Nodup) (hi : PI X tg iter wi) (ok : BlkOk X.N X.env.scope scope own) (hv : ∀ i ∈ vs1, i ∈ own.map (·.2))
    (hg : FG X scope tg g) (ht : FT X scope ifs tt) (hi1 : FI X scope tg1 iter1 wi1) (hg1 : FG X scope tg1 g1) (ht1 : FT X scope ifs1 tt1) (he : FE X scope elt te) (hs : ∀ x, foldedSetIterable iter X.env x = pure x := by intro _; rfl) (hs1 : ∀ env x, foldedSetIterable iter1 env x = pure x := by intro _ _; rfl) :
    PE X (.SetComp elt [⟨tg, iter, ifs, 0⟩, ⟨tg1, iter1, ifs1, 0⟩] scope pos) (fun σ H Q => wi σ H fun J H1 => ∀ D, H1 D = none → body2 X.prog X.w X.K g tt wi1 g1 tt1 te (own.map (·.2)) vs1 σ J D (upd H1 D (SetTO X.prog X.w D [])) (fun H' => Q (.ref D) H')) :=
  sc_begin (body := body2 X.prog X.w X.K g tt wi1 g1 tt1 te (own.map (·.2)) vs1) hN hi ok hs fun s3 H3 ce C cl fp it D tn J R σ Fin hce T b fin z I t n stat => by
    subst hce
    obtain ⟨W, ⟨m0, w0⟩, turn⟩ := b
    refine clause (Y := X.blk s3 H3 scope (compEnvC scope cl C X.env) fp) (τ := wipe σ (own.map (·.2))) (act := actIn X.prog X.w X.K wi1 g1 tt1 te vs1 D) (W := W) rfl hc (hg s3 H3 C cl fp) (ht s3 H3 C cl fp) T (pins := []) (own.map (·.2)) (fun H z I n => stat _ H z I n) (fun G ρ s ps H Nx I a k => ?_) turn fin (fun I t n s h => sloop_a (hs1 _) I t n s h) m0 z H3 I t n w0
    refine thnF ((hi1 s3 H3 C cl fp).run ps s ρ H _ I a) fun xv s1 hx => thnF hx fun itv s2 h2 => ?_
    obtain ⟨it1, fp1, tn1, J1, H1, rfl, I1, T1, t1, f1, W1, ⟨m1, w1⟩, turn1⟩ := h2
    have loop1 : codeAny (model X.prog X.w) X.A (.compLoop (.SetComp elt [⟨tg, iter, ifs, 0⟩, ⟨tg1, iter1, ifs1, 0⟩] scope pos) 1 (.ref it1) (.ref D) (compEnvC scope cl C X.env)) (fun r z => match r with
        | .ok _ => G z
        | .error _ => False) s2 := by
      refine clause (Y := X.blk s3 H3 scope (compEnvC scope cl C X.env) fp) (τ := wipe ρ vs1) (act := actAdd X.prog X.w X.K te D) (W := W1) rfl hc (hg1 s3 H3 C cl fp) (ht1 s3 H3 C cl fp) T1 (pins := ps) vs1 (fun H z I n b hb => ⟨n b hb, (f1 b hb).2⟩) (do_add (Y := X.blk s3 H3 scope (compEnvC scope cl C X.env) fp) rfl hu (he s3 H3 C cl fp) vs1) turn1 (fun z H' I' nx => ?_) (fun I t n s h => sloop_b I t n s h) m1 s2 H1 (I1.weak (wipe_length _ _) fun j v e => (wipe_some e).1) t1 (fun b hb => (f1 b hb).1) w1
      refine k _ z H' I' (wipe_length _ _) (fun j v e => ?_) nx
      obtain ⟨e1, e2⟩ := wipe_some e
      rw [wipe_out fun y => e2 (hv j y)]
      exact e1
    exact sstart_b (T1.self X.A 0 _ _ _ t1 loop1) loop1
end
end DL
set_option maxHeartbeats 4000000
set_option exponentiation.threshold 50000
namespace DL
open PySem PySem.Spec PyProof.Rows L2
variable [Tb]
/-! ### a set of int pairs changes: what else stands -/
section
variable {K : PySem.W.Frag} {P : Pens} {M B N L : List Addr} {H H' Hb : Hp} {σ : Sg} {ρ : Env} {v : V} {d : D} {ds : List D} {vs : List V} {J : It} {A : Addr} {φ : Heap → Prop} {o : HO}
theorem Rd.updE {u : HO} {a : Addr} (h : Rd H a u) (hc : H A = some (.ext φ)) (hu : ∀ ψ, u ≠ .ext ψ) : Rd (upd H A o) a u := by
  have ne : a ≠ A := fun e => by
    subst e
    rcases h with h | ⟨x, h⟩
    · rw [hc] at h
      exact hu φ (Option.some.inj h).symm
    · rw [hc] at h; cases h
  rcases h with h | ⟨x, h⟩
  · exact .inl (by rw [upd_ne ne]; exact h)
  · exact .inr ⟨x, by rw [upd_ne ne]; exact h⟩
theorem SqT.updE {a : Addr} {xs : List V} (h : SqT K H a xs) (hc : H A = some (.ext φ)) : SqT K (L2.upd H A o) a xs := by
  rcases h with h | h
  · exact .inl (Rd.updE h hc fun _ z => nomatch z)
  · exact .inr h
theorem SqF.updE {a : Addr} {xs : List V} (h : SqF K N H a xs) (hc : H A = some (.ext φ)) : SqF K N (L2.upd H A o) a xs := by
  rcases h with ⟨h, n⟩ | h
  · exact .inl ⟨Rd.updE h hc (fun _ z => nomatch z), n⟩
  · exact .inr h
mutual
theorem Rep.mutE (hc : H A = some (.ext φ)) : ∀ {v : V} {d : D} {L : List Addr}, Rep K P M B H v d L → Rep K P M B (upd H A o) v d L
  | _, _, _, .non => .non
  | _, _, _, .bl => .bl
  | _, _, _, .int => .int
  | _, _, _, .str => .str
  | _, _, _, .pen h => .pen h
  | _, _, _, .tup h r => .tup (SqT.updE h hc) (Reps.mutE hc r)
  | _, _, _, .lstF h r p => .lstF (SqF.updE h hc) (Reps.mutE hc r) p
  | _, _, _, .lstB h r => .lstB (SqF.updE h hc) (Reps.mutE hc r)
  | _, _, _, .lstO h n r => .lstO (by
      rw [upd_ne (fun e => by rw [e, hc] at h; cases h)]; exact h) n (Reps.mutE hc r)
theorem Reps.mutE (hc : H A = some (.ext φ)) : ∀ {vs : List V} {ds : List D} {L : List Addr}, Reps K P M B H vs ds L → Reps K P M B (upd H A o) vs ds L
  | _, _, _, .nil => .nil
  | _, _, _, .cons h r => .cons (Rep.mutE hc h) (Reps.mutE hc r)
end
theorem PensOk.mutE (h : PensOk P M H) (hc : H A = some (.ext φ)) : PensOk P M (upd H A o) := fun a l hl => by
  obtain ⟨n1, n2, n3, ns, i, b, s, e1, e2, r⟩ := h a l hl
  refine ⟨n1, n2, n3, ns, i, b, s, ?_, ?_, r⟩
  · rw [upd_ne (fun z => by rw [z, hc] at e1; cases e1)]; exact e1
  · rw [upd_ne (fun z => by rw [z, hc] at e2; cases e2)]; exact e2
theorem Slots.mutE (h : Slots K P M B H σ ρ) (hc : H A = some (.ext φ)) : Slots K P M B (upd H A o) σ ρ := by
  obtain ⟨hl, F, h1, h2, h3, h4⟩ := h
  refine ⟨hl, F, fun i d e => ?_, h2, h3, h4⟩
  obtain ⟨v, e1, r⟩ := h1 i d e
  exact ⟨v, e1, Rep.mutE hc r⟩
theorem Src.mutE (h : Src K P N M B H ds J) (hc : H A = some (.ext φ)) : Src K P N M B (upd H A o) ds J := by
  cases h with
  | lst h1 h2 => exact .lst (SqF.updE h1 hc) (Reps.mutE hc h2)
  | tup h1 h2 => exact .tup (SqT.updE h1 hc) (Reps.mutE hc h2)
  | str => exact .str
  | rng => exact .rng
  | rdn => exact .rdn
  | enum h1 h2 => exact .enum (SqF.updE h1 hc) (Reps.mutE hc h2)
  | zipL h1 h2 h3 h4 => exact .zipL (SqF.updE h1 hc) (Reps.mutE hc h2) (SqF.updE h3 hc) (Reps.mutE hc h4)
  | zipT h1 h2 h3 h4 => exact .zipT (SqT.updE h1 hc) (Reps.mutE hc h2) (SqT.updE h3 hc) (Reps.mutE hc h4)
theorem TabF.extU {b : Addr} {q : PySem.Str} (t : TabF H b q) (h : H A = some (.ext φ)) : TabF (L2.upd H A o) b q :=
  t.keep (fun ps e => by
    rw [upd_ne (fun z => by rw [z, h] at e; cases e)]; exact e) fun c oc e => by
    rw [upd_ne (fun z => by rw [z, h] at e; cases e)]; exact e
theorem Stt.mutE (s : Stt P M B H) (hc : H A = some (.ext φ)) : Stt P M B (upd H A o) := ⟨s.pens.mutE hc, s.sub, fun a z => by
  obtain ⟨xs, e⟩ := s.ls a z
  exact ⟨xs, by rw [upd_ne (fun q => by rw [q, hc] at e; cases e)]; exact e⟩, fun x z => (s.tabs x z).extU hc⟩
end
/-! ### where a set comprehension stands -/
structure SI (p : Program) (w : World) (K : PySem.W.Frag) (P : Pens) (M : List Addr) (Hb : Hp) (A : Addr) (H : Hp) (acc : List (Int × Int)) : Prop where
  e0 : ∃ φ, Hb A = some (.ext φ)
  st : ∃ L, H A = some (SetTO p w A L) ∧ (∀ q ∈ L, SqT K H q.1 (q.2.map V.int)) ∧ (∀ q ∈ L, ∃ x y, q.2 = [x, y]) ∧ (∀ z : Int × Int, z ∈ acc ↔ [z.1, z.2] ∈ L.map (·.2)) ∧ L.length ≤ acc.length
  gr : Gr (A :: P.as) Hb H
  pens : PensOk P M H
section
variable {p : Program} {w : World} {K : PySem.W.Frag} {P : Pens} {M B N L : List Addr} {H H' Hb Hc : Hp} {σ : Sg} {ρ : Env} {v : V} {d : D} {ds : List D} {vs : List V} {J : It} {A : Addr} {acc acc' : List (Int × Int)}
theorem SI.ext (I : SI p w K P M Hb A H acc) : ∃ φ, H A = some (.ext φ) := by
  obtain ⟨L, e, _⟩ := I.st
  exact ⟨_, e⟩
theorem SI.np (I : SI p w K P M Hb A H acc) : A ∉ P.as := fun z => by
  obtain ⟨φ, e⟩ := I.ext
  obtain ⟨xs, q⟩ := I.pens.lst z
  rw [e] at q; cases q
theorem SI.mid (I : SI p w K P M Hb A H acc) : ∃ o φ, Hb A = some (.ext φ) ∧ Gr P.as (upd Hb A o) H := by
  obtain ⟨φ, e0⟩ := I.e0
  obtain ⟨ψ, e⟩ := I.ext
  refine ⟨.ext ψ, φ, e0, fun b o hb n => ?_, fun b q mT t => I.gr.tab b q mT (TabF.unset (o := .ext ψ) (fun _ z => (nomatch z)) (fun _ _ z => (nomatch z)) t)⟩
  by_cases h : b = A
  · subst h
    rw [upd_same] at hb
    cases hb
    exact e
  · rw [upd_ne h] at hb
    exact I.gr b o hb fun z => (List.mem_cons.mp z).elim h n
theorem SI.stt (I : SI p w K P M Hb A H acc) (s : Stt P M B Hb) : Stt P M B H := by
  obtain ⟨o, φ, e0, g⟩ := I.mid
  exact (s.mutE e0).keep g I.pens
theorem SI.slots (I : SI p w K P M Hb A H acc) (s : Stt P M B Hb) (sl : Slots K P M B Hb σ ρ) : Slots K P M B H σ ρ := by
  obtain ⟨o, φ, e0, g⟩ := I.mid
  exact (sl.mutE e0).keep (s.mutE e0) g
theorem SI.wk (I : SI p w K P M Hb A H acc) (s : Stt P M B Hb) (src : Src K P (P.as ++ B) M B Hb ds J) : Wk K P M B H ds J := by
  obtain ⟨o, φ, e0, g⟩ := I.mid
  exact ((src.mutE e0).gr (s.mutE e0).lists g (fun _ z => .inl z) (fun _ z => .inl z)).now (I.stt s).lists
theorem SI.keep (I : SI p w K P M Hb A H acc) (s : Stt P M B Hb) (g : Gr P.as H H') (q : PensOk P M H') : SI p w K P M Hb A H' acc := by
  obtain ⟨L, e, t, r⟩ := I.st
  exact ⟨I.e0, ⟨L, g _ _ e I.np, fun z hz => SqT.gr (t z hz) g (I.stt s).lists, r⟩, I.gr.trans (g.sub fun _ z => List.mem_cons_of_mem _ z), q⟩
theorem SI.self (I : SI p w K P M Hb A H acc) : SI p w K P M H A H acc := ⟨I.ext, I.st, Gr.refl, I.pens⟩
theorem SI.trans (I : SI p w K P M Hb A Hc acc) (J : SI p w K P M Hc A H acc') : SI p w K P M Hb A H acc' := ⟨I.e0, J.st, I.gr.trans J.gr, J.pens⟩
theorem SI.start (q : PensOk P M (upd H A (SetTO p w A []))) : SI p w K P M (upd H A (SetTO p w A [])) A (upd H A (SetTO p w A [])) [] :=
  ⟨⟨_, upd_same⟩, ⟨[], upd_same, fun _ z => absurd z (by simp), fun _ z => absurd z (by simp), fun z => by simp, Nat.le_refl _⟩, Gr.refl, q⟩
theorem _root_.DL.Res.before {T : List Addr} {Q0 : D → Prop} (r : Res K P M B T H Q0 v H') (g : Gr P.as Hb H) (q : PensOk P M H) : Res K P M B T Hb Q0 v H' := by
  obtain ⟨c, Lr, q0, g1, p1, r1, n1, f1⟩ := r
  exact ⟨c, Lr, q0, g.trans g1, p1, r1, n1, fun a z => (f1 a z).imp (fun z => g.nil q z) id⟩
/-- an item joins -/
theorem SI.add (I : SI p w K P M Hb A H acc) {x y : Int} {b : Addr} (hb : SqT K H b ([x, y].map V.int)) (few : acc.length < 63) :
    ∃ L, H A = some (SetTO p w A L) ∧ (∀ q ∈ L, SqT K H q.1 (q.2.map V.int)) ∧ L.length + 1 < 64 ∧
      ∀ L', ([x, y] ∈ L.map (·.2) → L' = L) → ([x, y] ∉ L.map (·.2) → L'.Perm ((b, [x, y]) :: L)) → SI p w K P M Hb A (upd H A (SetTO p w A L')) (acc ++ [(x, y)]) := by
  obtain ⟨L, e, t, two, mem, len⟩ := I.st
  refine ⟨L, e, t, by omega, fun L' c1 c2 => ⟨I.e0, ?_, I.gr.trans (Gr.set (List.mem_cons_self ..) e (fun _ _ z => nomatch z) fun _ z => nomatch z), I.pens.mutE e⟩⟩
  by_cases h : [x, y] ∈ L.map (·.2)
  · rw [c1 h]
    refine ⟨L, upd_same, fun q hq => SqT.updE (t q hq) e, two, fun z => ?_, by rw [List.length_append]; omega⟩
    rw [List.mem_append, mem z, List.mem_singleton]
    exact ⟨fun o => o.elim id fun e => by rw [e]; exact h, .inl⟩
  · have pm := c2 h
    refine ⟨L', upd_same, fun q hq => ?_, fun q hq => ?_, fun z => ?_, ?_⟩
    · rcases List.mem_cons.mp (pm.mem_iff.mp hq) with z | z
      · rw [z]; exact SqT.updE hb e
      · exact SqT.updE (t q z) e
    · rcases List.mem_cons.mp (pm.mem_iff.mp hq) with z | z
      · rw [z]; exact ⟨_, _, rfl⟩
      · exact two q z
    · rw [(pm.map (·.2)).mem_iff, List.map_cons, List.mem_cons, List.mem_append, mem z, List.mem_singleton]
      constructor
      · rintro (o | o)
        · exact .inr o
        · rw [o]; exact .inl rfl
      · rintro (o | o)
        · have o : [z.1, z.2] = [x, y] := o
          injection o with o1 o2
          injection o2 with o2 _
          exact .inr (Prod.ext o1 o2)
        · exact .inl o
    · rw [pm.length_eq, List.length_append]
      simp; omega
end
/-! ### at the data -/
abbrev DAct := Env → List (Int × Int) → (List (Int × Int) → Prop) → Prop
def clGo (g : G) (tt : DTT) (act : DAct) (ρw : Env) : List D → List (Int × Int) → (List (Int × Int) → Prop) → Prop
  | [], acc, Q => Q acc
  | d :: ds, acc, Q => G.go g d ρw fun ρ2 => tt ρ2 fun b => if b = true then act ρ2 acc fun acc' => clGo g tt act ρw ds acc' Q else clGo g tt act ρw ds acc Q
def addA (te : DT) : DAct := fun ρ acc k => te ρ fun y => ∃ x1 y1 : Int, y = .tup [.int x1, .int y1] ∧ acc.length < 63 ∧ k (acc ++ [(x1, y1)])
def inA (it1 : DTI) (vs1 : List Nat) (g1 : G) (tt1 : DTT) (act : DAct) : DAct := fun ρ acc k => it1 ρ fun es => clGo g1 tt1 act (wipeE ρ vs1) es acc k
def dSc (it : DTI) (vs : List Nat) (g : G) (tt : DTT) (act : DAct) : DT := fun ρ Q => it ρ fun ds => clGo g tt act (wipeE ρ vs) ds [] fun ps => Q (.lst .o ((srtP ps).map (eT2 eI eI)))
section
variable {p : Program} {w : World} {K : PySem.W.Frag} {P : Pens} {M B N L : List Addr} {H H' Hb Hc : Hp} {σ : Sg} {ρ : Env} {v : V} {d : D} {ds : List D} {vs : List V} {J : It} {A : Addr} {acc acc' : List (Int × Int)}
/-- what is done with an item is told by act -/
def ActOk (p : Program) (w : World) (K : PySem.W.Frag) (A : Addr) (act : DAct) (a : L2.St → Hp → (Hp → Prop) → Prop) : Prop :=
  ∀ (P : Pens) (M B : List Addr) (Hb H : Hp) (σ : Sg) (ρ : Env) (acc : List (Int × Int)) (k : List (Int × Int) → Prop) (Nx : Hp → Prop), Stt P M B Hb → SI p w K P M Hb A H acc → Slots K P M B H σ ρ → act ρ acc k →
    (∀ acc' H', SI p w K P M Hb A H' acc' → k acc' → Nx H') → a σ H Nx
theorem lift_cl {g : G} {tt : DTT} {act : DAct} {a : L2.St → Hp → (Hp → Prop) → Prop} {tT : TT} {sv : List Nat} (hs : ∀ i ∈ g.slots, i ∈ sv) (hT : ∀ σ H Q, liftT K tt σ H Q → tT σ H Q) (ha : ActOk p w K A act a)
    {Q : List (Int × Int) → Prop} {Fin : Hp → Prop} (s : Stt P M B Hb) (sl : Slots K P M B Hb σ ρ) (src : Src K P (P.as ++ B) M B Hb ds J) (inv : SI p w K P M Hb A H acc) (q : clGo g tt act (wipeE ρ sv) ds acc Q)
    (hfin : ∀ acc H, SI p w K P M Hb A H acc → Q acc → Fin H) : ∃ W : Nat → Nat → Hp → Prop, (∃ m, W 0 m H) ∧ Turns J (G.tg K g) tT sv (wipe σ sv) a Fin W := by
  refine ⟨fun i m H => i ≤ ds.length ∧ m = ds.length - i ∧ ∃ acc, SI p w K P M Hb A H acc ∧ clGo g tt act (wipeE ρ sv) (ds.drop i) acc Q, ⟨ds.length, Nat.zero_le _, by omega, acc, inv, q⟩, ?_⟩
  rintro i m H2 ⟨hi, rfl, acc2, I2, q2⟩
  have s2 := I2.stt s
  have sl2 := I2.slots s sl
  have wk := I2.wk s src
  by_cases hlt : i < ds.length
  · refine .inr ⟨wk.go i hlt, fun H' => ∃ acc, SI p w K P M Hb A H' acc ∧ clGo g tt act (wipeE ρ sv) (ds.drop (i + 1)) acc Q, fun H' h' => ⟨_, by omega, hlt, rfl, h'⟩, fun x H3 y => ?_⟩
    obtain ⟨hg, d, ed, rd⟩ := wk.yld i x H3 hlt y
    have gp : Gr P.as H2 H3 ∧ PensOk P M H3 := by
      rcases hg with e | ⟨T, ys, e1, e2⟩
      · rw [e]; exact ⟨Gr.refl, I2.pens⟩
      · rw [e2]; exact ⟨Gr.laid e1, I2.pens.laid e1⟩
    obtain ⟨g3, p3⟩ := gp
    have I3 := I2.keep s g3 p3
    have s3 := I3.stt s
    rw [drop_at ed] at q2
    simp only [clGo] at q2
    refine G.ok sv (g := g) (R := []) (L := []) hs (((sl2.keep s2 g3).x.wipe sv).res fun a z => z) rd (fun _ z => nomatch z) List.nodup_nil (fun _ z => nomatch z) q2 fun ρ' σ' q' sl' e => ⟨e.trans (wipe_idem _ _), ?_⟩
    refine hT _ _ _ ⟨P, _, _, ρ', _, s3, sl'.s, q', fun b H4 q4 g4 p4 => ?_⟩
    have I4 := I3.keep s g4 p4
    cases b with
    | false => exact ⟨acc2, I4, q4⟩
    | true => exact ha P M B Hb H4 σ' ρ' acc2 _ _ s I4 (sl'.s.keep s3 g4) q4 fun acc' H' I' k' => ⟨acc', I', k'⟩
  · have e : i = ds.length := by omega
    subst e
    rw [List.drop_length] at q2
    simp only [clGo] at q2
    exact .inl ⟨wk.stop, hfin acc2 H2 I2 q2⟩
theorem act_add {te : DT} {tE : TE} (hE : ∀ σ H Q, lift K te σ H Q → tE σ H Q) : ActOk p w K A (addA te) (actAdd p w K tE A) := by
  intro P M B Hb H σ ρ acc k Nx s I sl q nx
  refine hE _ _ _ ⟨P, M, B, ρ, _, I.stt s, sl, q, fun v H1 r => ?_⟩
  obtain ⟨c, Lr, ⟨x, y, rfl, few, q1⟩, g1, p1, r1, n1, f1⟩ := r
  obtain ⟨ps, e1, e2, h3⟩ := reps_tupI (ks := [[x, y]]) (Reps.cons r1 .nil)
  obtain ⟨⟨b, k1⟩, rfl⟩ : ∃ z, ps = [z] := by
    have := congrArg List.length e2
    rw [List.length_map] at this
    match ps, this with
    | [z], _ => exact ⟨z, rfl⟩
  injection e1 with e1 _
  injection e2 with e2 _
  obtain rfl : k1 = [x, y] := e2
  have hb : SqT K H1 b ([x, y].map V.int) := h3 _ (List.mem_cons_self ..)
  have I1 := I.keep s g1 (p1.grow fun a z => .inl (in_r a z))
  obtain ⟨L, hA, hL, fw, add⟩ := I1.add hb few
  exact ⟨b, [x, y], L, e1, hA, hb, hL, fw, fun L' c1 c2 => nx _ _ (add L' c1 c2) q1⟩
theorem act_in {it1 : DTI} {vs1 : List Nat} {g1 : G} {tt1 : DTT} {te : DT} {wi1 : TI} {tT1 : TT} {tE : TE} (hw1 : ∀ σ H R, liftIC K it1 σ H R → wi1 σ H R) (hT1 : ∀ σ H Q, liftT K tt1 σ H Q → tT1 σ H Q) (hE : ∀ σ H Q, lift K te σ H Q → tE σ H Q) (hs1 : ∀ i ∈ g1.slots, i ∈ vs1) :
    ActOk p w K A (inA it1 vs1 g1 tt1 (addA te)) (actIn p w K wi1 (G.tg K g1) tT1 tE vs1 A) := by
  intro P M B Hb H σ ρ acc k Nx s I sl q nx
  have s0 := I.stt s
  refine hw1 _ _ _ ⟨P, M, B, ρ, _, s0, sl, q, fun es J1 H1 q1 g1' p1 src => ?_⟩
  have I1 := I.keep s g1' p1
  exact lift_cl hs1 hT1 (act_add hE) (I1.stt s) (sl.keep s0 g1') src I1.self q1 fun acc' H' I' k' => nx acc' H' (I1.trans I') k'
end
section
variable {X : Cx} {elt tg iter tg1 iter1 : Expr} {ifs ifs1 : List Expr} {scope : Scope} {own : List (PySem.Str × Nat)} {p q pos pos2 : Pos} {it it1 : DTI} {g g1 : G} {tt tt1 : DTT} {te : DT} {k : Nat}
/-- behind the loop: the set is sorted -/
theorem sc_end {P : Pens} {M B : List Addr} {Hb H1 H : Hp} {A : Addr} {acc : List (Int × Int)} {Q0 : D → Prop} {Q : VK} (hA : H1 A = none) (g1 : Gr P.as (upd H1 A (SetTO X.prog X.w A [])) Hb) (I : SI X.prog X.w X.K P M Hb A H acc) (q : Q0 (.lst .o ((srtP acc).map (eT2 eI eI)))) (k : ∀ v H', Res X.K P M B [] H1 Q0 v H' → Q v H') (s : Stt P M B Hb) : rSortedV X.K X.prog X.w [.ref A] H Q := by
  obtain ⟨L, e, ht, two, mem, len⟩ := I.st
  refine ⟨A, L, rfl, e, ht, two, fun L2 c2 pm nd few2 pw hc2 => k _ _ ?_⟩
  have gH : Gr P.as H1 H := ((Gr.laid hA).trans g1).skip I.gr hA
  have back : ∀ r ∈ L2, r.2 = [r.2.getD 0 0, r.2.getD 1 0] := fun r hr => by
    obtain ⟨x, y, e⟩ := two r (pm.mem_iff.mp hr)
    rw [e]; rfl
  have ht2 : ∀ r ∈ L2, SqT X.K H r.1 (r.2.map V.int) := fun r hr => ht r (pm.mem_iff.mp hr)
  have eL : (L2.map (·.2)).map tupI = (srtP acc).map (eT2 eI eI) := by
    have same : (L2.map fun r => ((r.2.getD 0 0, r.2.getD 1 0) : Int × Int)) = srtP acc := by
      refine srtP_ofV ?_ (fun z => ?_) ?_
      · have e3 : (L2.map (·.2)) = (L2.map fun r => ((r.2.getD 0 0, r.2.getD 1 0) : Int × Int)).map fun z => [z.1, z.2] := by
          rw [List.map_map]
          exact List.map_congr_left fun r hr => back r hr
        rw [e3] at nd
        exact List.Pairwise.of_map (fun z : Int × Int => [z.1, z.2]) (fun a b h e => h (by rw [e])) nd
      · rw [mem z, ← (pm.map (·.2)).mem_iff]
        constructor
        · intro h
          obtain ⟨r, hr, rfl⟩ := List.mem_map.mp h
          exact List.mem_map.mpr ⟨r, hr, back r hr⟩
        · intro h
          obtain ⟨r, hr, e4⟩ := List.mem_map.mp h
          have e4 : r.2 = [z.1, z.2] := e4
          refine List.mem_map.mpr ⟨r, hr, ?_⟩
          rw [e4]; rfl
      · refine List.pairwise_map.mpr (List.Pairwise.imp_of_mem (fun {r1 r2} h1 h2 z => ?_) pw)
        rw [back r1 h1, back r2 h2, leD_pair] at z
        exact z
    rw [← same, List.map_map, List.map_map]
    refine List.map_congr_left fun r hr => ?_
    show tupI r.2 = _
    rw [back r hr]; rfl
  refine ⟨.lst .o ((srtP acc).map (eT2 eI eI)), [c2], q, gH.trans (Gr.laid hc2), ?_, ?_, (by simp), fun a z => ?_⟩
  · refine (I.pens.grow fun a z => ?_).laid hc2
    rcases List.mem_append.mp z with z | z
    · have e : a = c2 := by simpa using z
      exact .inr (e ▸ hc2)
    · exact .inl z
  · have sH := I.stt s
    have ht3 : ∀ r ∈ L2, SqT X.K (upd H c2 (.lst (L2.map fun r => V.ref r.1))) r.1 (r.2.map V.int) := fun r hr => SqT.gr (ht2 r hr) (Gr.laid (N := P.as) hc2) sH.lists
    have rr := reps_tup (P := P) (M := [c2] ++ M) (B := [c2] ++ B) ht3
    rw [eL] at rr
    exact .lstO upd_same (fun z => by
      obtain ⟨xs, e⟩ := sH.lists c2 z
      rw [hc2] at e; cases e) rr
  · have e : a = c2 := by simpa using z
    rw [e]
    exact .inl (gH.nil I.pens hc2)
theorem pd_sc1 (d : Gd X k) (hm : X.mg "sorted" = none) (hi : PIC X tg iter it) (ok : blkC X.N X.env.scope scope own = true) (hsl : ∀ i ∈ g.slots, i ∈ own.map (·.2))
    (hg : Blk X scope fun Y => PDG Y tg g) (ht : Blk X scope fun Y => PDTs Y ifs tt) (he : Blk X scope fun Y => PD Y elt te) (gl : Gl X "sorted" := by rfl) (hs : ∀ x, foldedSetIterable iter X.env x = pure x := by intro _; rfl)
    (na : starEach [.SetComp elt [⟨tg, iter, ifs, 0⟩] scope pos] X.env = (false, eval (.SetComp elt [⟨tg, iter, ifs, 0⟩] scope pos) X.env) :: starEach [] X.env := by rfl) :
    PD X (.Call (.Name "sorted" p) [.SetComp elt [⟨tg, iter, ifs, 0⟩] scope pos] [] pos2) (dSc it (own.map (·.2)) g tt (addA te)) :=
  mPE (pe_callB (cr_sortedV d) gl hm bo_sorted (pa_cons (pe_sc1 (g := G.tg X.K g) (tt := liftT X.K tt) (te := lift X.K te) d.calm d.u' d.nd hi (blkOk_by ok) hg ht he hs) pa_nil na)) fun σ H Q h => by
    obtain ⟨P, M, B, ρ, Q0, s, sl, t, k⟩ := h
    refine ⟨P, M, B, ρ, _, s, sl, t, fun ds J H1 q gg1 p1 src => ?_⟩
    intro A hA
    have s1 := s.keep gg1 p1
    have gA : Gr P.as H1 (upd H1 A (SetTO X.prog X.w A [])) := Gr.laid hA
    have sA := s1.keep gA (p1.laid hA)
    have inv : SI X.prog X.w X.K P M (upd H1 A (SetTO X.prog X.w A [])) A (upd H1 A (SetTO X.prog X.w A [])) [] := SI.start (p1.laid hA)
    exact lift_cl hsl (fun _ _ _ z => z) (act_add (fun _ _ _ z => z)) sA ((sl.keep s gg1).keep s1 gA) (src.gr s1.lists gA (fun _ z => .inl z) (fun _ z => .inl z)) inv q fun acc H I q2 =>
      sc_end hA Gr.refl I q2 (fun v H' r => k v H' (r.before gg1 p1)) sA
theorem pd_sc2 (vs1 : List Nat) (d : Gd X k) (hm : X.mg "sorted" = none) (hi : PIC X tg iter it) (ok : blkC X.N X.env.scope scope own = true) (hsl : ∀ i ∈ g.slots, i ∈ own.map (·.2)) (hv : ∀ i ∈ vs1, i ∈ own.map (·.2)) (hsl1 : ∀ i ∈ g1.slots, i ∈ vs1)
    (hg : Blk X scope fun Y => PDG Y tg g) (ht : Blk X scope fun Y => PDTs Y ifs tt) (hi1 : Blk X scope fun Y => PIC Y tg1 iter1 it1) (hg1 : Blk X scope fun Y => PDG Y tg1 g1) (ht1 : Blk X scope fun Y => PDTs Y ifs1 tt1) (he : Blk X scope fun Y => PD Y elt te)
    (gl : Gl X "sorted" := by rfl) (hs : ∀ x, foldedSetIterable iter X.env x = pure x := by intro _; rfl) (hs1 : ∀ env x, foldedSetIterable iter1 env x = pure x := by intro _ _; rfl)
    (na : starEach [.SetComp elt [⟨tg, iter, ifs, 0⟩, ⟨tg1, iter1, ifs1, 0⟩] scope pos] X.env = (false, eval (.SetComp elt [⟨tg, iter, ifs, 0⟩, ⟨tg1, iter1, ifs1, 0⟩] scope pos) X.env) :: starEach [] X.env := by rfl) :
    PD X (.Call (.Name "sorted" p) [.SetComp elt [⟨tg, iter, ifs, 0⟩, ⟨tg1, iter1, ifs1, 0⟩] scope pos] [] pos2) (dSc it (own.map (·.2)) g tt (inA it1 vs1 g1 tt1 (addA te))) :=
  mPE (pe_callB (cr_sortedV d) gl hm bo_sorted (pa_cons (pe_sc2 (g := G.tg X.K g) (tt := liftT X.K tt) (wi1 := liftIC X.K it1) (g1 := G.tg X.K g1) (tt1 := liftT X.K tt1) (te := lift X.K te) d.calm d.u' d.nd hi (blkOk_by ok) hv hg ht hi1 hg1 ht1 he hs hs1) pa_nil na)) fun σ H Q h => by
    obtain ⟨P, M, B, ρ, Q0, s, sl, t, k⟩ := h
    refine ⟨P, M, B, ρ, _, s, sl, t, fun ds J H1 q gg1 p1 src => ?_⟩
    intro A hA
    have s1 := s.keep gg1 p1
    have gA : Gr P.as H1 (upd H1 A (SetTO X.prog X.w A [])) := Gr.laid hA
    have sA := s1.keep gA (p1.laid hA)
    have inv : SI X.prog X.w X.K P M (upd H1 A (SetTO X.prog X.w A [])) A (upd H1 A (SetTO X.prog X.w A [])) [] := SI.start (p1.laid hA)
    exact lift_cl hsl (fun _ _ _ z => z) (act_in (fun _ _ _ z => z) (fun _ _ _ z => z) (fun _ _ _ z => z) hsl1) sA ((sl.keep s gg1).keep s1 gA) (src.gr s1.lists gA (fun _ z => .inl z) (fun _ z => .inl z)) inv q fun acc H I q2 =>
      sc_end hA Gr.refl I q2 (fun v H' r => k v H' (r.before gg1 p1)) sA
end
/-! ### typed -/
section
variable {α β : Type} {ρ : Env} {it it1 : DTI} {vs vs1 : List Nat} {g g1 : G} {tt tt1 : DTT} {te : DT} {act : DAct}
theorem cl_run {eX : α → D} {ρw : Env} {l : List α} {c : α → Bool} {h : α → List (Int × Int)} (en2 : α → Env) (hg : ∀ x (N : Env → Prop), N (en2 x) → G.go g (eX x) ρw N) (ht : ∀ x ∈ l, EvT tt (en2 x) (c x))
    (ha : ∀ x ∈ l, c x = true → ∀ (acc : List (Int × Int)) (k : List (Int × Int) → Prop), acc.length + (h x).length ≤ 63 → k (acc ++ h x) → act (en2 x) acc k) :
    ∀ (l' : List α), (∀ x ∈ l', x ∈ l) → ∀ (acc : List (Int × Int)) (QA : List (Int × Int) → Prop), acc.length + ((l'.filter c).flatMap h).length ≤ 63 → QA (acc ++ (l'.filter c).flatMap h) → clGo g tt act ρw (l'.map eX) acc QA
  | [], _, acc, QA, _, q => by
    rw [List.filter_nil, List.flatMap_nil, List.append_nil] at q
    exact q
  | x :: l', hm, acc, QA, hl, q => by
    have hx : x ∈ l := hm x (List.mem_cons_self ..)
    have ht' := fun y hy => hm y (List.mem_cons_of_mem _ hy)
    show G.go g (eX x) ρw _
    refine hg x _ (ht x hx _ ?_)
    cases ec : c x with
    | false =>
      rw [List.filter_cons, ec] at hl q
      exact cl_run en2 hg ht ha l' ht' acc QA hl q
    | true =>
      rw [List.filter_cons, ec] at hl q
      simp only [if_true, List.flatMap_cons, List.length_append] at hl q ⊢
      refine ha x hx ec acc _ (by omega) (cl_run en2 hg ht ha l' ht' _ QA ?_ ?_)
      · rw [List.length_append]; omega
      · rw [List.append_assoc]; exact q
theorem add_run {f : Int × Int} (he : Ev te ρ (eT2 eI eI f)) (acc : List (Int × Int)) (k : List (Int × Int) → Prop) (h : acc.length + 1 ≤ 63) (q : k (acc ++ [f])) : addA te ρ acc k := he _ ⟨f.1, f.2, rfl, by omega, q⟩
theorem fm1 (l : List α) (f : α → Int × Int) : (l.flatMap fun x => [f x]) = l.map f := by
  induction l with
  | nil => rfl
  | cons x l ih => rw [List.flatMap_cons, ih]; rfl
theorem ev_sc1 {eX : α → D} {l : List α} {c : α → Bool} {f : α → Int × Int} (en2 : α → Env) (hi : EvI it ρ (l.map eX)) (hl : (l.filter c).length ≤ 63)
    (hg : ∀ x (N : Env → Prop), N (en2 x) → G.go g (eX x) (wipeE ρ vs) N) (ht : ∀ x ∈ l, EvT tt (en2 x) (c x)) (he : ∀ x ∈ l, c x = true → Ev te (en2 x) (eT2 eI eI (f x))) : Ev (dSc it vs g tt (addA te)) ρ (eL .o (eT2 eI eI) (srtP ((l.filter c).map f))) := fun Q q => hi _ (by
  refine cl_run (c := c) (h := fun x => [f x]) en2 hg ht (fun x hx hc acc k hk q => add_run (he x hx hc) acc k hk q) l (fun _ z => z) [] _ ?_ ?_
  · rw [fm1, List.length_map]; simpa using hl
  · rw [fm1, List.nil_append]; exact q)
theorem ev_sc1M {eX : α → D} {l : List α} {f : α → Int × Int} (en2 : α → Env) (hi : EvI it ρ (l.map eX)) (hl : l.length ≤ 63)
    (hg : ∀ x (N : Env → Prop), N (en2 x) → G.go g (eX x) (wipeE ρ vs) N) (he : ∀ x ∈ l, Ev te (en2 x) (eT2 eI eI (f x))) : Ev (dSc it vs g dYes (addA te)) ρ (eL .o (eT2 eI eI) (srtP (l.map f))) := by
  have := ev_sc1 (c := fun _ => true) (tt := dYes) (f := f) en2 hi (by rw [filter_all]; exact hl) hg (fun _ _ Q q => q) (fun x hx _ => he x hx)
  rw [filter_all] at this
  exact this
theorem ev_sc2I {eX : α → D} {eY : β → D} {l : List α} {l1 : α → List β} {c1 : α → β → Bool} {f : α → β → Int × Int} (en2 : α → Env) (en3 : α → β → Env) (hi : EvI it ρ (l.map eX)) (hl : (l.flatMap l1).length ≤ 63)
    (hg : ∀ x (N : Env → Prop), N (en2 x) → G.go g (eX x) (wipeE ρ vs) N) (hi1 : ∀ x ∈ l, EvI it1 (en2 x) ((l1 x).map eY)) (hg1 : ∀ x y (N : Env → Prop), N (en3 x y) → G.go g1 (eY y) (wipeE (en2 x) vs1) N)
    (ht1 : ∀ x ∈ l, ∀ y ∈ l1 x, EvT tt1 (en3 x y) (c1 x y)) (he : ∀ x ∈ l, ∀ y ∈ l1 x, c1 x y = true → Ev te (en3 x y) (eT2 eI eI (f x y))) :
    Ev (dSc it vs g dYes (inA it1 vs1 g1 tt1 (addA te))) ρ (eL .o (eT2 eI eI) (srtP (l.flatMap fun x => ((l1 x).filter (c1 x)).map (f x)))) := fun Q q => hi _ (by
  refine cl_run (c := fun _ => true) (h := fun x => ((l1 x).filter (c1 x)).map (f x)) en2 hg (fun _ _ Q q => q) (fun x hx _ acc k hk q => hi1 x hx _ ?_) l (fun _ z => z) [] _ ?_ ?_
  · refine cl_run (c := c1 x) (h := fun y => [f x y]) (en3 x) (hg1 x) (ht1 x hx) (fun y hy hc acc k hk q => add_run (he x hx y hy hc) acc k hk q) (l1 x) (fun _ z => z) acc _ ?_ ?_
    · rw [fm1]; exact hk
    · rw [fm1]; exact q
  · rw [filter_all, List.length_nil, Nat.zero_add]
    refine Nat.le_trans ?_ hl
    rw [List.length_flatMap, List.length_flatMap]
    clear hl hi hi1 ht1 he q
    induction l with
    | nil => exact Nat.le_refl _
    | cons x l ih =>
      simp only [List.map_cons, List.sum_cons, List.length_map]
      have := List.length_filter_le (c1 x) (l1 x)
      simp only [List.length_map] at ih
      omega
  · rw [filter_all, List.nil_append]; exact q)
theorem ev_sc2M {eX : α → D} {eY : β → D} {l : List α} {l1 : α → List β} {f : α → β → Int × Int} (en2 : α → Env) (en3 : α → β → Env) (hi : EvI it ρ (l.map eX)) (hl : (l.flatMap l1).length ≤ 63)
    (hg : ∀ x (N : Env → Prop), N (en2 x) → G.go g (eX x) (wipeE ρ vs) N) (hi1 : ∀ x ∈ l, EvI it1 (en2 x) ((l1 x).map eY)) (hg1 : ∀ x y (N : Env → Prop), N (en3 x y) → G.go g1 (eY y) (wipeE (en2 x) vs1) N)
    (he : ∀ x ∈ l, ∀ y ∈ l1 x, Ev te (en3 x y) (eT2 eI eI (f x y))) :
    Ev (dSc it vs g dYes (inA it1 vs1 g1 dYes (addA te))) ρ (eL .o (eT2 eI eI) (srtP (l.flatMap fun x => (l1 x).map (f x)))) := by
  have := ev_sc2I (tt1 := dYes) (c1 := fun _ _ => true) (f := f) en2 en3 hi hl hg hi1 hg1 (fun _ _ _ _ Q q => q) (fun x hx y hy _ => he x hx y hy)
  simp only [filter_all] at this
  exact this
end
theorem ev_srtid {ρ : Env} {ta : DT} {e : (Int × Int) → D} {f : Fl} {l : List (Int × Int)} (h : Ev ta ρ (eL f e (srtP (l.map fun x => x)))) : Ev ta ρ (eL f e (srtP l)) := by
  rw [List.map_id'] at h
  exact h
theorem ev_srtid2 {α : Type} {ρ : Env} {ta : DT} {e : (Int × Int) → D} {f : Fl} {l : List α} {l1 : α → List (Int × Int)} (h : Ev ta ρ (eL f e (srtP (l.flatMap fun x => (l1 x).map fun y => y)))) : Ev ta ρ (eL f e (srtP (l.flatMap l1))) := by
  simp only [List.map_id'] at h
  exact h
end DL
set_option maxHeartbeats 4000000
set_option exponentiation.threshold 50000
namespace DL
open PySem PySem.Spec PyProof.Rows L2
variable [Tb]
/-! ### four numbers compared in a row -/
def dCh3 (o p q : D2) (a b c e : DT) : DT := fun ρ Q => a ρ fun x => ∃ i, x = .int i ∧ b ρ fun y => ∃ j, y = .int j ∧ o x y fun z => ∃ k1, z = .bl k1 ∧
  if k1 = true then c ρ fun u => ∃ m, u = .int m ∧ p y u fun z => ∃ k2, z = .bl k2 ∧ if k2 = true then e ρ fun w => ∃ n, w = .int n ∧ q u w fun z => ∃ k3, z = .bl k3 ∧ Q (.bl k3) else Q (.bl false) else Q (.bl false)
section
variable {X : Cx} {a b c e : Expr} {ta tb tc te : DT} {pos : Pos}
theorem rdI {K : PySem.W.Frag} {P : Pens} {M B : List Addr} {H : Hp} {i j : Int} {o : D2} {Q0 : D → Prop} {Q : VK} (s : Stt P M B H) (t : o (.int i) (.int j) Q0) (k : ∀ v H', Res K P M B [] H Q0 v H' → Q v H') : rD K (o2 o) (.int i) (.int j) H Q :=
  ⟨P, M, B, [.int i, .int j], [], Q0, ⟨s, .cons .int (.cons .int .nil), List.nodup_nil, s.sub, fun _ z => nomatch z⟩, t, k⟩
theorem pd_chain3 {op op' op2 : CmpOp} {o1 o3 o4 : D2} (ho : OpR X (compareOp op) (rD X.K (o2 o1))) (ho' : OpR X (compareOp op') (rD X.K (o2 o3))) (ho2 : OpR X (compareOp op2) (rD X.K (o2 o4))) (ha : PD X a ta) (hb : PD X b tb) (hc : PD X c tc) (he : PD X e te) (hm : behindInMarks op2 e = false := by first | exact nomark _ | rfl) :
    PD X (.Compare a [op, op', op2] [b, c, e] pos) (dCh3 o1 o3 o4 ta tb tc te) := by
  refine ⟨fun pins s σ H Q I h => ?_⟩
  obtain ⟨P, M, B, ρ, Q0, s0, sl, t, k⟩ := h
  refine Compare_chain (thn (ha.run pins s σ H _ I ⟨P, M, B, ρ, _, s0, sl, t, fun v H1 r => r⟩) fun v s1 ⟨x, H1, I1, r1, q1⟩ => ?_) (by unfold lastMarks lastMarks lastMarks; exact hm)
  obtain ⟨_, ⟨i, rfl, t1⟩, g1, p1, L1, d1⟩ := q1.drop
  obtain ⟨rfl, _⟩ := d1.int_inv
  refine chain_link (thn (hb.run pins s1 σ H1 _ I1 ⟨P, M, B, ρ, _, s0.keep g1 p1, sl.keep s0 g1, t1, fun v H1 r => r⟩) fun u s2 ⟨y, H2, I2, r2, q2⟩ => ?_)
  obtain ⟨_, ⟨j, rfl, t2⟩, g2, p2, L2, d2⟩ := q2.drop
  obtain ⟨rfl, _⟩ := d2.int_inv
  have S2 := (s0.keep g1 p1).keep g2 p2
  refine thn (ho pins s2 σ H2 _ _ v u _ I2 r1 r2 (rdI S2 t2 fun v H' r => r)) fun d s3 ⟨z, H3, I3, r3, q3⟩ => ?_
  obtain ⟨_, ⟨k1, rfl, t3⟩, g3, p3, L3, d3⟩ := q3.drop
  obtain ⟨rfl, _⟩ := d3.bl_inv
  cases r3
  have G3 : Gr P.as H H3 := (g1.trans g2).trans g3
  refine wpAny_truthy_bool ?_
  cases k1 with
  | false => exact ite_ff ⟨.bl false, H3, I3, rfl, k _ _ (Res.back (M' := M) (Res.same (T := []) (S2.keep g3 p3) .bl t3) G3 p3 fun _ z => nomatch z)⟩
  | true =>
    refine ite_tt (chain_link (thn (hc.run pins s3 σ H3 _ I3 ⟨P, M, B, ρ, _, s0.keep G3 p3, sl.keep s0 G3, t3, fun v H1 r => r⟩) fun u' s4 ⟨y', H4, I4, r4, q4⟩ => ?_))
    obtain ⟨_, ⟨m, rfl, t4⟩, g4, p4, L4, d4⟩ := q4.drop
    obtain ⟨rfl, _⟩ := d4.int_inv
    have S4 := (s0.keep G3 p3).keep g4 p4
    refine thn (ho' pins s4 σ H4 _ _ u u' _ I4 r2 r4 (rdI S4 t4 fun v H' r => r)) fun d s5 ⟨z, H5, I5, r5, q5⟩ => ?_
    obtain ⟨_, ⟨k2, rfl, t5⟩, g5, p5, L5, d5⟩ := q5.drop
    obtain ⟨rfl, _⟩ := d5.bl_inv
    cases r5
    have G5 : Gr P.as H H5 := (G3.trans g4).trans g5
    refine wpAny_truthy_bool ?_
    cases k2 with
    | false => exact ite_ff ⟨.bl false, H5, I5, rfl, k _ _ (Res.back (M' := M) (Res.same (T := []) (S4.keep g5 p5) .bl t5) G5 p5 fun _ z => nomatch z)⟩
    | true =>
      refine ite_tt (chain_last (thn (he.run pins s5 σ H5 _ I5 ⟨P, M, B, ρ, _, s0.keep G5 p5, sl.keep s0 G5, t5, fun v H1 r => r⟩) fun w' s6 ⟨y6, H6, I6, r6, q6⟩ => ?_))
      obtain ⟨_, ⟨n, rfl, t6⟩, g6, p6, L6, d6⟩ := q6.drop
      obtain ⟨rfl, _⟩ := d6.int_inv
      have S6 := (s0.keep G5 p5).keep g6 p6
      refine thn (ho2 pins s6 σ H6 _ _ u' w' _ I6 r4 r6 (rdI S6 t6 fun v H' r => r)) fun d s7 ⟨z, H7, I7, r7, q7⟩ => ?_
      obtain ⟨_, ⟨k3, rfl, t7⟩, g7, p7, L7, d7⟩ := q7.drop
      obtain ⟨rfl, _⟩ := d7.bl_inv
      exact ⟨.bl k3, H7, I7, r7, k _ _ (Res.back (M' := M) (Res.same (T := []) (S6.keep g7 p7) .bl t7) ((G5.trans g6).trans g7) p7 fun _ z => nomatch z)⟩
theorem pt_chain3 {op op' op2 : CmpOp} {o1 o3 o4 : D2} (ho : OpR X (compareOp op) (rD X.K (o2 o1))) (ho' : OpR X (compareOp op') (rD X.K (o2 o3))) (ho2 : OpR X (compareOp op2) (rD X.K (o2 o4))) (ha : PD X a ta) (hb : PD X b tb) (hc : PD X c tc) (he : PD X e te) (hm : behindInMarks op2 e = false := by first | exact nomark _ | rfl) :
    PDT X (.Compare a [op, op', op2] [b, c, e] pos) (dB (dCh3 o1 o3 o4 ta tb tc te)) := by
  refine ⟨fun pins s σ H Q I h => ?_⟩
  obtain ⟨P, M, B, ρ, Q0, s0, sl, t, k⟩ := lift_b h
  refine isTrue_chain (thn (ha.run pins s σ H _ I ⟨P, M, B, ρ, _, s0, sl, t, fun v H1 r => r⟩) fun v s1 ⟨x, H1, I1, r1, q1⟩ => ?_) (by unfold lastMarks lastMarks lastMarks; exact hm)
  obtain ⟨_, ⟨i, rfl, t1⟩, g1, p1, L1, d1⟩ := q1.drop
  obtain ⟨rfl, _⟩ := d1.int_inv
  refine test_link (thn (hb.run pins s1 σ H1 _ I1 ⟨P, M, B, ρ, _, s0.keep g1 p1, sl.keep s0 g1, t1, fun v H1 r => r⟩) fun u s2 ⟨y, H2, I2, r2, q2⟩ => ?_)
  obtain ⟨_, ⟨j, rfl, t2⟩, g2, p2, L2, d2⟩ := q2.drop
  obtain ⟨rfl, _⟩ := d2.int_inv
  have S2 := (s0.keep g1 p1).keep g2 p2
  refine thn (ho pins s2 σ H2 _ _ v u _ I2 r1 r2 (rdI S2 t2 fun v H' r => r)) fun d s3 ⟨z, H3, I3, r3, q3⟩ => ?_
  obtain ⟨_, ⟨k1, rfl, t3⟩, g3, p3, L3, d3⟩ := q3.drop
  obtain ⟨rfl, _⟩ := d3.bl_inv
  cases r3
  have G3 : Gr P.as H H3 := (g1.trans g2).trans g3
  refine wpAny_truthy_bool ?_
  cases k1 with
  | false =>
    obtain ⟨k', e', q'⟩ := k _ _ (Res.back (M' := M) (Res.same (T := []) (S2.keep g3 p3) .bl t3) G3 p3 fun _ z => nomatch z)
    cases e'
    exact ite_ff ⟨H3, I3, q'⟩
  | true =>
    refine ite_tt (test_link (thn (hc.run pins s3 σ H3 _ I3 ⟨P, M, B, ρ, _, s0.keep G3 p3, sl.keep s0 G3, t3, fun v H1 r => r⟩) fun u' s4 ⟨y', H4, I4, r4, q4⟩ => ?_))
    obtain ⟨_, ⟨m, rfl, t4⟩, g4, p4, L4, d4⟩ := q4.drop
    obtain ⟨rfl, _⟩ := d4.int_inv
    have S4 := (s0.keep G3 p3).keep g4 p4
    refine thn (ho' pins s4 σ H4 _ _ u u' _ I4 r2 r4 (rdI S4 t4 fun v H' r => r)) fun d s5 ⟨z, H5, I5, r5, q5⟩ => ?_
    obtain ⟨_, ⟨k2, rfl, t5⟩, g5, p5, L5, d5⟩ := q5.drop
    obtain ⟨rfl, _⟩ := d5.bl_inv
    cases r5
    have G5 : Gr P.as H H5 := (G3.trans g4).trans g5
    refine wpAny_truthy_bool ?_
    cases k2 with
    | false =>
      obtain ⟨k', e', q'⟩ := k _ _ (Res.back (M' := M) (Res.same (T := []) (S4.keep g5 p5) .bl t5) G5 p5 fun _ z => nomatch z)
      cases e'
      exact ite_ff ⟨H5, I5, q'⟩
    | true =>
      refine ite_tt (test_last (thn (he.run pins s5 σ H5 _ I5 ⟨P, M, B, ρ, _, s0.keep G5 p5, sl.keep s0 G5, t5, fun v H1 r => r⟩) fun w' s6 ⟨y6, H6, I6, r6, q6⟩ => ?_))
      obtain ⟨_, ⟨n, rfl, t6⟩, g6, p6, L6, d6⟩ := q6.drop
      obtain ⟨rfl, _⟩ := d6.int_inv
      have S6 := (s0.keep G5 p5).keep g6 p6
      refine thn (ho2 pins s6 σ H6 _ _ u' w' _ I6 r4 r6 (rdI S6 t6 fun v H' r => r)) fun d s7 ⟨z, H7, I7, r7, q7⟩ => ?_
      obtain ⟨_, ⟨k3, rfl, t7⟩, g7, p7, L7, d7⟩ := q7.drop
      obtain ⟨rfl, _⟩ := d7.bl_inv
      obtain ⟨k', e', q'⟩ := k _ _ (Res.back (M' := M) (Res.same (T := []) (S6.keep g7 p7) .bl t7) ((G5.trans g6).trans g7) p7 fun _ z => nomatch z)
      cases e'
      cases r7
      exact wpAny_truthy_bool ⟨H7, I7, q'⟩
end
section
variable {ρ : Env} {ta tb tc te : DT} {x y z w : D}
theorem ev_chain3 {f g h : D2} {i j m n : Int} {k1 k2 k3 : Bool} (ha : Ev ta ρ (eI i)) (hb : Ev tb ρ (eI j)) (ho : Op (o2 f) [eI i, eI j] (eB k1)) (hc : k1 = true → Ev tc ρ (eI m)) (hp : k1 = true → Op (o2 g) [eI j, eI m] (eB k2))
    (hd : (k1 && k2) = true → Ev te ρ (eI n)) (hq : (k1 && k2) = true → Op (o2 h) [eI m, eI n] (eB k3)) : Ev (dCh3 f g h ta tb tc te) ρ (eB (k1 && k2 && k3)) := fun Q q => ha _ ⟨i, rfl, hb _ ⟨j, rfl, ho _ ⟨k1, rfl, by
  cases k1 with
  | false => exact q
  | true =>
    refine hc rfl _ ⟨m, rfl, hp rfl _ ⟨k2, rfl, ?_⟩⟩
    cases k2 with
    | false => exact q
    | true => exact hd rfl _ ⟨n, rfl, hq rfl _ ⟨k3, rfl, q⟩⟩⟩⟩⟩
end
end DL
set_option maxHeartbeats 4000000
set_option exponentiation.threshold 50000
/-! keys by lambda: the machine -/
namespace DLm
open PySem PySem.Calls PySem.W PyProof.Rows
/-- an element of a key: the i-th item, nought less it -/
inductive KEl where
  | it (i : Nat)
  | ng (i : Nat)
/-- its text -/
def KEl.ex (x : Str) : KEl → Expr → Prop
  | .it i, e => ∃ p1 p2 p3 j, e = .Subscript (.Name x p1) (.Constant (.int i) j p2) p3
  | .ng i, e => ∃ p0 j0 p1 p2 p3 j p, e = .BinOp (.Constant (.int 0) j0 p0) .Sub (.Subscript (.Name x p1) (.Constant (.int i) j p2) p3) p
/-- a number or a text -/
def flatV : Value → PyData → Prop
  | .int i _, d => d = .int i
  | .str z _, d => d = .str z
  | _, _ => False
theorem flatV.reads {h : Heap} {u : Value} {d : PyData} (f : flatV u d) : Reads h u d [] := by
  cases u <;> first
    | exact f.elim
    | (have e : d = _ := f; subst e; first | exact .int _ _ | exact .str _ _)
def KEl.rd (its : List Value) : KEl → PyData → Prop
  | .it i, d => i < 1000000 ∧ ∃ u, its[i]? = some u ∧ flatV u d
  | .ng i, d => i < 1000000 ∧ ∃ n t, its[i]? = some (.int n t) ∧ d = .int (0 - n)
section
variable {prog : Program} {w : World} {A : Around} {E : Value → Shared → Prop} {s : Shared} {env : Env} {m : Str → Option Value} {x : Str} {a : Addr} {its : List Value}
theorem sub_ok {i j : Nat} {p1 p2 p3 : Pos} {u : Value} {Q : Value → Shared → Prop} (hk : env.scope.kind = .function) (hl : env.kindOf x = some .local) (hn : s.heap.Ns env.locals m) (hv : m x = some (.ref a)) (hd : (x == ("__debug__" : Str)) = false)
    (ht : IsTup s.heap a its.toArray) (hi : i < 1000000) (hu : its[i]? = some u) (h : ∀ tk, Q u { s with toks := tk }) : wpAny (model prog w) A (eval (.Subscript (.Name x p1) (.Constant (.int i) j p2) p3) env) Q E s := by
  have hlt : i < its.length := (List.getElem?_eq_some_iff.mp hu).1
  refine Subscript_ (wpAny_Name (wpAny_loadName_local hk hl hn hv ?_) hd)
  refine wpAny_Constant_int ?_
  refine subscriptTail_builtinR (x := u) ?_ PyProof.Rows.slot_tuple_getitem.lookup (getItem_tuple (j := i) (Q := fun r s' => r = u ∧ Q r s') ht (by omega) (by omega) ?_ (by simpa using hu) ⟨rfl, h _⟩)
  · exact IsTup.typeIs ht
  · unfold seqIndex?
    simp only [List.size_toArray]
    have c1 : ¬ ((i : Int) < 0) := by omega
    have c2 : (decide (0 ≤ (i : Int)) && decide ((i : Int) < (its.length : Int))) = true := by simp; exact hlt
    simp only [c1, if_false, c2, if_true]
    simp
theorem el_ok {k : KEl} {e : Expr} {d : PyData} {Q : Value → Shared → Prop} (hk : env.scope.kind = .function) (hl : env.kindOf x = some .local) (hn : s.heap.Ns env.locals m) (hv : m x = some (.ref a)) (hd : (x == ("__debug__" : Str)) = false)
    (ht : IsTup s.heap a its.toArray) (he : k.ex x e) (hr : k.rd its d) (h : ∀ u tk, flatV u d → Q u { s with toks := tk }) : wpAny (model prog w) A (eval e env) Q E s := by
  cases k with
  | it i =>
    obtain ⟨p1, p2, p3, j, rfl⟩ := he
    obtain ⟨hi, u, hu, f⟩ := hr
    exact sub_ok hk hl hn hv hd ht hi hu fun tk => h u tk f
  | ng i =>
    obtain ⟨p0, j0, p1, p2, p3, j, p, rfl⟩ := he
    obtain ⟨hi, n, t, hu, rfl⟩ := hr
    refine wpAny_BinOp (wpAny_Constant_int ?_)
    refine sub_ok (s := { s with toks := s.toks + 1 }) hk hl hn hv hd ht hi hu fun tk => ?_
    exact sub_int (h _ _ rfl)
end

/-- the key's body: a tuple of two elements -/
def key2 (x : Str) (k1 k2 : KEl) (body : Expr) : Prop := ∃ e1 e2 xx p, body = .Tuple [e1, e2] xx p ∧ k1.ex x e1 ∧ k2.ex x e2 ∧ ∀ env : Env, starEach [e1, e2] env = (false, eval e1 env) :: starEach [e2] env ∧ starEach [e2] env = (false, eval e2 env) :: starEach [] env
section
variable {prog : Program} {w : World} {A : Around} {E : Value → Shared → Prop} {s : Shared} {env : Env} {m : Str → Option Value} {x : Str} {a : Addr} {its : List Value}
theorem key2_ok {k1 k2 : KEl} {body : Expr} {d1 d2 : PyData} {Q : Value → Shared → Prop} (hk : env.scope.kind = .function) (hl : env.kindOf x = some .local) (hn : s.heap.Ns env.locals m) (hv : m x = some (.ref a)) (hd : (x == ("__debug__" : Str)) = false)
    (ht : IsTup s.heap a its.toArray) (hb : key2 x k1 k2 body) (h1 : k1.rd its d1) (h2 : k2.rd its d2)
    (h : ∀ u tk, ∀ h' : Heap, (∀ b o, s.heap.get? b = some o → h'.get? b = some o) → Reads h' u (.tuple [d1, d2]) [] → Q u { s with heap := h', toks := tk }) : wpAny (model prog w) A (eval body env) Q E s := by
  obtain ⟨e1, e2, xx, p, rfl, x1, x2, hs⟩ := hb
  obtain ⟨s1, s2⟩ := hs env
  refine wpAny_Tuple_spliced ?_
  rw [s1]
  show wpAny _ _ (spliced ((false, eval e1 env) :: backTo p (starEach [e2] env))) _ _ _
  rw [s2]
  refine spliced_cons (el_ok hk hl hn hv hd ht x1 h1 fun u1 tk1 f1 => ?_)
  refine spliced_cons (el_ok (s := { s with toks := tk1 }) hk hl hn hv hd ht x2 h2 fun u2 tk2 f2 => ?_)
  refine spliced_nil ⟨show 2 ≤ sizeLine by decide, ?_⟩
  refine h _ tk2 _ (fun b o e => Heap.get?_push_of_some _ e) ?_
  exact .tuple (Heap.get?_push_size _ rfl) rfl rfl (.cons (as := []) (bs := []) f1.reads (.cons (as := []) (bs := []) f2.reads .nil))
end
section
variable {prog : Program} {w : World} {A : Around} {E : Value → Shared → Prop} {s : Shared} {x : Str}
/-- a lambda of one parameter, nothing captured, is called -/
theorem lam1_call {f c' : Addr} {qual : Str} {params : Arguments} {body : Expr} {scope : Scope} {pm ctv v : Value} {Q : Value → Shared → Prop} (hroom : A.depth < recursionLimit)
    (hf : s.heap.get? f = some (kla_obj "<lambda>" qual params body scope [] pm c' ctv)) (hcode : ∃ oc vs t, s.heap.get? c' = some oc ∧ oc.data = .fields vs ∧ vs[1]? = some (.str qual t))
    (sk : scope.kind = .function) (sc : scope.isCoroutine = false) (sg : scope.isGenerator = false) {rest : List (Str × NameKind)} (sn : scope.names = (x, .local) :: rest) (hrest : ∀ y ∈ rest, y.2 = .globalImplicit)
    (hbind : bindArgs (kla_fn "<lambda>" qual params body scope [] pm (.ref c') ctv) ⟨[v], []⟩ = pure [(x, v)]) (lim : s.heap.NoLimit)
    (hb : ∀ (L : Addr) (h₁ : Heap) (tk : Nat), (∀ b o, s.heap.get? b = some o → h₁.get? b = some o) → h₁.Ns L (fun y => [(x, v)].reverse.lookup y) →
      wpAny (model prog w) (A.deeper (envX qual scope L f (.ref c') [])) (eval body (envX qual scope L f (.ref c') [])) Q (fun _ _ => False) { s with heap := h₁, toks := tk }) :
    wpAny (model prog w) A (call (.ref f) [v]) Q E s := by
  obtain ⟨oc, vs, t, e1, e2, e3⟩ := hcode
  refine wpAny_call (kla_callFunE hroom hf rfl sc sg rfl ⟨c', oc, vs, t, rfl, e1, e2, e3⟩ ?_)
  rw [hbind]
  have loc : ∀ y ∈ scope.names, y.2 ≠ .cell := fun y hy => by
    rw [sn] at hy
    rcases List.mem_cons.mp hy with z | z
    · rw [z]
      intro z; cases z
    · rw [hrest y z]
      intro z; cases z
  refine wpAny_pure (wpAny_newFunctionEnv loc (fun y hy => by rw [List.mem_singleton.mp hy, sn]; simp [List.lookup]) (fun h₁ hns hsb => ?_) sk)
  have kp : ∀ b o, s.heap.get? b = some o → h₁.get? b = some o := fun b o e => hsb.extBut b o (Nat.ne_of_lt (Heap.lt_size e)) (Heap.get?_push_of_some _ e)
  refine ⟨lim.keeps kp, kla_codeExpr (wpAny_mono (hb s.heap.objs.size h₁ _ kp hns) (fun u s' q => q) fun _ _ z => z.elim)⟩
end
end DLm
set_option maxHeartbeats 4000000
set_option exponentiation.threshold 50000
/-! keys by lambda: made over the data layer -/
namespace DL
open PySem PySem.Spec PyProof.Rows L2
variable [Tb]
section
variable {X : Cx} {pins : List (Addr × Obj)} {σ : L2.St} {H : Hp} {s : Shared}
/-- the table's object is written, the code object at c is new and known from now on; all else is kept -/
theorem inv_tableF {P c : Addr} {ps more : Array Value} {h' : Heap} {t' : Nat} {oc : Obj} (I : Inv X pins σ H s) (hP : H P = some (.tbl ps)) (k : ∀ b o, b ≠ P → s.heap.get? b = some o → h'.get? b = some o)
    (hm : h'.get? P = some { cls := .none, data := .fields (ps ++ more) }) (hc : s.heap.objs.size ≤ c) (ho : h'.get? c = some oc) :
    Inv X pins σ (upd (upd H P (.tbl (ps ++ more))) c (.frz oc (.own 0))) { s with heap := h', toks := t' } := by
  have nC : H c = none := I.hok.fresh hc
  have nPc : P ≠ c := ne_of_none hP nC
  have at_ : ∀ b, b ≠ P → b ≠ c → upd (upd H P (.tbl (ps ++ more))) c (.frz oc (.own 0)) b = H b := fun b h1 h2 => by rw [upd_ne h2, upd_ne h1]
  have atP : upd (upd H P (.tbl (ps ++ more))) c (.frz oc (.own 0)) P = some (.tbl (ps ++ more)) := by rw [upd_ne nPc, upd_same]
  have nP : ∀ b u, H b = some u → (∀ q, u ≠ .tbl q) → b ≠ P := fun b u e q z => by
    rw [z, hP] at e
    exact q ps (Option.some.inj e).symm
  have nN : ∀ b, H b = none → b ≠ P := fun b e z => by
    rw [z, hP] at e
    cases e
  have lt' : ∀ b o, s.heap.get? b = some o → b ≠ c := fun b o e z => by
    rw [z] at e
    exact Nat.lt_irrefl _ (Nat.lt_of_lt_of_le (Heap.lt_size e) hc)
  have sm : ∀ b u, H b = some u → b ≠ c := fun b u e => ne_of_none e nC
  refine I.step (g' := s.gens) (d' := s.drawn) (ch := []) (fun b hb => absurd hb (by simp)) (fun b o _ _ _ e n => k b o (nN b n) e) (fun b o _ _ _ e n => ⟨o.slots, k b o (nN b n) e⟩)
    (fun b o _ e n => by rw [at_ b (nN b n) (lt' b o e)]; exact n) (fun b o _ e => ?_) (fun b xs e => by rw [at_ b (nP b _ e (fun q z => by cases z)) (sm b _ e)]; exact e) (fun b o u e => by rw [at_ b (nP b _ e (fun q z => by cases z)) (sm b _ e)]; exact e) (fun b qs e => ?_) (fun m hn => ?_) (fun b u e => ?_) I.bare
  · by_cases hb : b = P
    · rw [hb]
      exact ⟨_, hm⟩
    · exact ⟨o, k b o hb e⟩
  · by_cases hb : b = P
    · rw [hb, hP] at e
      cases e
      rw [hb, atP]
      exact ⟨more, rfl⟩
    · rw [at_ b hb (sm b _ e), e]
      exact ⟨#[], by simp⟩
  · obtain ⟨ob, es, ep, ho, r⟩ := hn
    exact ⟨ob, es, ep, k _ ob (nN _ I.free) ho, r⟩
  · by_cases hb : b = c
    · rw [hb, upd_same] at e
      cases e
      rw [hb]
      exact ⟨ho, ⟨oc, ho⟩⟩
    · by_cases hb2 : b = P
      · rw [hb2, atP] at e
        cases e
        rw [hb2]
        exact hm
      · rw [at_ b hb2 hb] at e
        refine (I.hok b u e).stay (fun d v hd q => k d v ?_ q) (fun d q => by rw [at_ d (nP d _ q (fun q z => by cases z)) (sm d _ q)]; exact q) fun d xs q => by rw [at_ d (nP d _ q (fun q z => by cases z)) (sm d _ q)]; exact q
        rcases hd with z | z
        · rw [z]
          exact hb2
        · exact nP d _ z (fun q z => by cases z)
theorem TabF.put {P b c : Addr} {q q' : Str} {ps more : Array Value} {oc : Obj} (hP : H P = some (.tbl ps)) (nC : H c = none) (ht : TriplesOk ps.toList) {pos : Pos} (hm : more = #[rawInt pos.line, rawInt pos.col, .ref c])
    (ho : ∃ (vs : Array Value) (t : Tok), oc.data = .fields vs ∧ vs[1]? = some (.str q' t)) (hq : b = P → q = q') (t : TabF H b q) : TabF (upd (upd H P (.tbl (ps ++ more))) c (.frz oc (.own 0))) b q := by
  subst hm
  have nPc : P ≠ c := ne_of_none hP nC
  have kp : ∀ d o, H d = some (.frz o (.own 0)) → upd (upd H P (.tbl (ps ++ #[rawInt pos.line, rawInt pos.col, .ref c]))) c (.frz oc (.own 0)) d = some (.frz o (.own 0)) := fun d o e => by
    rw [upd_ne (ne_of_none e nC), upd_ne (fun z => by rw [z, hP] at e; cases e)]
    exact e
  by_cases hb : b = P
  · subst hb
    have hq := hq rfl
    subst hq
    obtain ⟨ps', e, h1, h2⟩ := t
    rw [hP] at e
    injection e with e
    injection e with e
    subst e
    have eL : (ps ++ #[rawInt pos.line, rawInt pos.col, .ref c]).toList = ps.toList ++ [rawInt pos.line, rawInt pos.col, .ref c] := by simp
    refine ⟨_, by rw [upd_ne nPc, upd_same], by rw [eL]; exact PySem.TriplesOk_snoc _ _ _ _ ht, fun p' cv hcv => ?_⟩
    rw [eL] at hcv
    rcases LamX.among_app _ ht hcv with z | z
    · obtain ⟨c0, o0, vs0, t0, e1, e2, e3⟩ := h2 p' cv z
      exact ⟨c0, o0, vs0, t0, e1, kp _ _ e2, e3⟩
    · obtain ⟨vs, tk, h3, h4⟩ := ho
      exact ⟨c, oc, vs, tk, z, upd_same, h3, h4⟩
  · obtain ⟨ps', e, h1, h2⟩ := t
    refine ⟨ps', by rw [upd_ne (ne_of_none e nC), upd_ne hb]; exact e, h1, fun p' cv hcv => ?_⟩
    obtain ⟨c0, o0, vs0, t0, e1, e2, e3⟩ := h2 p' cv hcv
    exact ⟨c0, o0, vs0, t0, e1, kp _ _ e2, e3⟩
theorem clo_nil (cells : List (Str × Addr)) : ∀ {l : List (Str × NameKind)}, (∀ y ∈ l, y.2 = .local ∨ y.2 = .globalImplicit) → L2.cloFrom cells l [] = []
  | [], _ => rfl
  | y :: l, h => by
    have ih := clo_nil cells (l := l) fun z hz => h z (List.mem_cons_of_mem _ hz)
    obtain ⟨a, b⟩ := y
    rcases h _ (List.mem_cons_self ..) with z | z <;> (have z : b = _ := z; subst z; exact ih)
theorem lam_makeD {N : List Addr} {c P : Addr} {params : Arguments} {body : Expr} {scope : Scope} {pos : Pos} {E : Value → Shared → Prop} {Q : Value → Shared → Prop} (I : Inv X pins σ H s) (TB : LamX.TabB X.base X.mg c P) (hcode : X.env.code = .ref c)
    (hm : (P, X.env.qual ++ "<lambda>") ∈ Tb.T) (hu : ∀ p ∈ Tb.T, p.1 = P → p.2 = X.env.qual ++ "<lambda>") (hT : ∀ p ∈ Tb.T, TabF H p.1 p.2) (hdef : defaultsOf params X.env = ([], [])) (sn : ∀ y ∈ scope.names, y.2 = .local ∨ y.2 = .globalImplicit)
    (h : ∀ (f c' : Addr) (pm ctv : Value) (H1 : Hp) (s' : Shared), Inv X pins σ H1 s' → Gr N H H1 → (∀ b, H b = none → s.heap.get? b ≠ none → H1 b = none) →
      s'.heap.get? f = some (PySem.W.kla_obj "<lambda>" (X.env.qual ++ "<lambda>") params body scope [] pm c' ctv) → H1 f = none → (∃ (oc : Obj) (vs : Array Value) (t : Tok), s'.heap.get? c' = some oc ∧ oc.data = .fields vs ∧ vs[1]? = some (.str (X.env.qual ++ "<lambda>") t)) → Q (.ref f) s') :
    wpAny (model X.prog X.w) X.A (eval (.Lambda params body scope pos) X.env) Q E s := by
  obtain ⟨ps, hP, ht, ha⟩ := hT _ hm
  have hcl : closureFor scope X.env = pure [] := by
    have e := closure_ok (scope := scope) (env := X.env) (fun y hy e => by
      rcases sn y hy with z | z <;> (rw [z] at e; cases e))
    rw [e, clo_nil _ sn]
  refine PySem.W.kla_eval hdef ?_
  have bP : s.heap.BuiltinsAt X.mg P := TB.bm.keeps I.bk
  have hP' : s.heap.get? P = some { cls := .none, data := .fields ps } := I.hok P _ hP
  cases hc : codeAmong pos ps.toList with
  | none =>
    refine PySem.W.kla_makeFunction (mg := X.mg) (c := c) (P := P) (ps := ps) hcl I.ok.glob (I.mod.glob.keeps I.bk) hcode (TB.code.keeps I.bk) hP' ht hc TB.gP bP fun c' ctv h' tk hx hge hlt hrec htb => ?_
    obtain ⟨c2, oc, vs, t, e2, hoc, hd, hv⟩ := hrec
    cases e2
    have hsz : s.heap.objs.size ≤ h'.objs.size := Nat.le_trans hge (Nat.le_of_lt hlt)
    have nC : H c' = none := I.hok.fresh hge
    have I1 := inv_tableF (t' := tk) (more := #[rawInt pos.line, rawInt pos.col, .ref c']) (h' := h'.push (PySem.W.kla_obj "<lambda>" (X.env.qual ++ "<lambda>") params body scope [] ((X.mg "__name__").getD .none) c' ctv)) I hP
      (fun b o hb e => Heap.get?_push_of_some _ (hx b o hb e)) (Heap.get?_push_of_some _ htb) hge (Heap.get?_push_of_some _ hoc)
    have n1 : h'.objs.size ≠ c' := Nat.ne_of_gt hlt
    have n2 : h'.objs.size ≠ P := Nat.ne_of_gt (Nat.lt_of_lt_of_le (Heap.lt_size hP') hsz)
    refine h h'.objs.size c' ((X.mg "__name__").getD .none) ctv _ _ I1 ⟨fun b o e _ => ?_, fun b q mT t' => TabF.put hP nC ht rfl ⟨vs, t, hd, hv⟩ (fun z => hu (b, q) mT z) t'⟩ (fun b n z => ?_) (Heap.get?_push_size _ rfl) ?_ ⟨oc, vs, t, Heap.get?_push_of_some _ hoc, hd, hv⟩
    · rw [upd_ne (ne_of_none e nC)]
      by_cases hb : b = P
      · rw [hb, hP] at e
        cases e
        rw [hb, upd_same]
        exact ⟨_, rfl⟩
      · rw [upd_ne hb]
        exact GrO.of e
    · have nb : b ≠ c' := fun q => by
        rw [q] at z
        exact z (Heap.get?_none_of_le hge)
      have nP : b ≠ P := fun q => by rw [q, hP] at n; cases n
      rw [upd_ne nb, upd_ne nP]
      exact n
    · rw [upd_ne n1, upd_ne n2]
      exact I.hok.fresh hsz
  | some cv =>
    obtain ⟨c', oc, vs, t, e, hco, hd, hv⟩ := ha pos cv hc
    subst e
    refine PySem.W.kla_makeFunctionHit (mg := X.mg) (c := c) (P := P) (ps := ps) hcl I.ok.glob (I.mod.glob.keeps I.bk) hcode (TB.code.keeps I.bk) hP' ht hc bP fun ctv h' tk hx hsz => ?_
    have I1 : Inv X pins σ H { s with heap := h'.push (PySem.W.kla_obj "<lambda>" (X.env.qual ++ "<lambda>") params body scope [] ((X.mg "__name__").getD .none) c' ctv), toks := tk } := I.kept fun b o e => Heap.get?_push_of_some _ (hx b o e)
    exact h h'.objs.size c' ((X.mg "__name__").getD .none) ctv H _ I1 Gr.refl (fun b n _ => n) (Heap.get?_push_size _ rfl) (I.hok.fresh hsz) ⟨oc, vs, t, Heap.get?_push_of_some _ (hx _ _ (I.hok c' _ hco).1), hd, hv⟩
end
end DL
set_option maxHeartbeats 4000000
set_option exponentiation.threshold 50000
/-! sorted by a key -/
namespace DL
open PySem PySem.Spec PyProof.Rows L2
variable [Tb]
/-- a def that makes lambdas -/
structure LamAt (X : Cx) : Prop where
  ex : ∃ c P, LamX.TabB X.base X.mg c P ∧ X.env.code = .ref c ∧ (P, X.env.qual ++ "<lambda>") ∈ Tb.T ∧ ∀ p ∈ Tb.T, p.1 = P → p.2 = X.env.qual ++ "<lambda>"
open DLm in
def elD : KEl → D → D
  | .it i, .tup ds => (ds[i]?).getD .non
  | .ng i, .tup ds => (match ds[i]? with
    | some (.int n) => .int (0 - n)
    | _ => .non)
  | _, _ => .non
open DLm in
def okEl : KEl → D → Prop
  | .it i, .tup ds => i < 1000000 ∧ ((∃ n, ds[i]? = some (.int n)) ∨ ∃ z, ds[i]? = some (.str z))
  | .ng i, .tup ds => i < 1000000 ∧ ∃ n, ds[i]? = some (.int n)
  | _, _ => False
def keyD (k1 k2 : DLm.KEl) (d : D) : D := .tup [elD k1 d, elD k2 d]
def sortKD (k1 k2 : DLm.KEl) : D1
  | .lst _ xs, Q => D.nos xs = true ∧ (∀ x ∈ xs, okEl k1 x ∧ okEl k2 x) ∧ (∀ x ∈ xs, ∀ y ∈ xs, alikeD (keyD k1 k2 x) (keyD k1 k2 y) = true) ∧ Q (.lst .o (xs.mergeSort fun x y => leD (keyD k1 k2 x) (keyD k1 k2 y)))
  | _, _ => False
theorem okEl.tup {k : DLm.KEl} {d : D} (h : okEl k d) : ∃ ds, d = .tup ds := by
  cases k <;> cases d <;> first | exact ⟨_, rfl⟩ | exact h.elim
section
variable {K : PySem.W.Frag} {P : Pens} {M B L : List Addr} {H : Hp} {vs : List V} {ds : List D} {us : List Value}
theorem okEl.rd {k : DLm.KEl} (h : okEl k (.tup ds)) (r : Reps K P M B H vs ds L) (rv : Vals vs us) : k.rd us (elD k (.tup ds)).py := by
  cases k with
  | it i =>
    obtain ⟨hi, h⟩ := h
    refine ⟨hi, ?_⟩
    rcases h with ⟨n, e⟩ | ⟨z, e⟩
    · obtain ⟨v, L1, e1, q, _⟩ := r.get e
      obtain ⟨rfl, _⟩ := q.int_inv
      obtain ⟨u, e2, t, rfl⟩ := rv.get e1
      refine ⟨_, e2, ?_⟩
      show _ = _
      simp [elD, e, D.py]
    · obtain ⟨v, L1, e1, q, _⟩ := r.get e
      obtain ⟨rfl, _⟩ := q.str_inv
      obtain ⟨u, e2, t, rfl⟩ := rv.get e1
      refine ⟨_, e2, ?_⟩
      show _ = _
      simp [elD, e, D.py]
  | ng i =>
    obtain ⟨hi, n, e⟩ := h
    obtain ⟨v, L1, e1, q, _⟩ := r.get e
    obtain ⟨rfl, _⟩ := q.int_inv
    obtain ⟨u, e2, t, rfl⟩ := rv.get e1
    exact ⟨hi, n, t, e2, by simp [elD, e, D.py]⟩
theorem elD_depth {k : DLm.KEl} {d : D} (h : okEl k d) : (elD k d).py.depth ≤ 1 := by
  obtain ⟨ds, rfl⟩ := h.tup
  cases k with
  | it i =>
    obtain ⟨hi, h⟩ := h
    rcases h with ⟨n, e⟩ | ⟨z, e⟩ <;> (simp [elD, e, D.py, PyData.depth])
  | ng i =>
    obtain ⟨hi, n, e⟩ := h
    simp [elD, e, D.py, PyData.depth]
end
theorem keyD_depth {k1 k2 : DLm.KEl} {d : D} (h1 : okEl k1 d) (h2 : okEl k2 d) : (keyD k1 k2 d).py.depth ≤ 10 := by
  have a := elD_depth h1
  have b := elD_depth h2
  simp only [keyD, D.py, D.pys, PyData.depth, PyData.depthAll] at *
  omega

section
variable {X : Cx} {e body : Expr} {params : Arguments} {scope : Scope} {x : Str} {p pos lpos kpos : Pos} {te : DT} {k1 k2 : DLm.KEl} {k : Nat}
theorem pens_tab {P : Pens} {M : List Addr} {H H' : Hp} (h : PensOk P M H) (g : Gr [] H H') : PensOk P M H' :=
  h.keep fun b o e hb => by
    rcases hb with hb | ⟨a, hb⟩
    · obtain ⟨xs, e2⟩ := h.lst hb
      rw [e] at e2
      cases e2
      exact g b _ e (by simp)
    · obtain ⟨_, _, _, ns, i, b', s, _, e2, _⟩ := h a b hb
      rw [e] at e2
      cases e2
      exact g b _ e (by simp)
theorem pd_sortK (d : Gd X k) (hl : LamAt X) (hm : X.mg "sorted" = none) (ha : PD X e te) (hdef : defaultsOf params X.env = ([], [])) (sk : scope.kind = .function) (sc : scope.isCoroutine = false) (sg : scope.isGenerator = false) (sn : scope.names = [(x, .local)])
    (hbind : ∀ (q : Str) (pm cv ctv v : Value), bindArgs (PySem.W.kla_fn "<lambda>" q params body scope [] pm cv ctv) ⟨[v], []⟩ = pure [(x, v)]) (hdb : (x == ("__debug__" : Str)) = false) (hb : DLm.key2 x k1 k2 body) (hg : Gl X "sorted" := by rfl)
    (he : backTo pos (starEach [e] X.env) = (false, eval e X.env) :: backTo pos (starEach [] X.env) := by rfl) (hs : starEach [e] X.env = (false, eval e X.env) :: starEach [] X.env := by rfl) (hpl : (backTo pos (starEach [e] X.env)).any (·.1) = false := by rfl)
    (hall : (backToKw pos (keywordEach [⟨some "key", .Lambda params body scope lpos, kpos⟩] X.env)).all (·.1.isSome) = true := by rfl) (hnone : (backToKw pos (keywordEach [⟨some "key", .Lambda params body scope lpos, kpos⟩] X.env)).any (·.1.isNone) = false := by rfl)
    (hks : (backToKw pos (keywordEach [⟨some "key", .Lambda params body scope lpos, kpos⟩] X.env)).filterMap (·.1) = [Str.ofString "key"] := by rfl) :
    PD X (.Call (.Name "sorted" p) [e] [⟨some "key", .Lambda params body scope lpos, kpos⟩] pos) (dUn (o1 (sortKD k1 k2)) te) := by
  refine ⟨fun pins s σ H Q I h => ?_⟩
  have h0 := lift_un h
  obtain ⟨c, T, TB, hcode, hmT, hu⟩ := hl.ex
  refine wpAny_Call_Name_kw (ld_blt I hg hm boot_sorted ?_)
  refine PyProof.Rows.callWith_kw (thn ((one_arg ha hs).run pos pins s σ H (fun us H1 => ∃ v, us = [v] ∧ rC X.K (o1 (sortKD k1 k2)) [v] H1 Q) I ?_) fun us s1 q => ?_) he hpl hall hnone
  · obtain ⟨P0, M0, B0, ρ, Q0, a1, a2, a3, a4⟩ := h0
    exact ⟨P0, M0, B0, ρ, Q0, a1, a2, a3, fun v H' r => ⟨v, rfl, a4 v H' r⟩⟩
  obtain ⟨vs, H1, I1, r1, v, rfl, q⟩ := q
  rw [hks]
  refine to1 q fun P M B v' dd L Q0 ev A r qq k => ?_
  injection ev with ev _
  subst ev
  have T1 := A.stt.tabs
  show wpAny _ _ (evalAll [(do let v ← eval (.Lambda params body scope lpos) X.env; standAt pos; pure v)]) _ _ _
  refine wpAny_evalAll_cons (wpAny_bind (lam_makeD (N := []) I1 TB hcode hmT hu T1 hdef (fun y hy => by rw [sn] at hy; rw [List.mem_singleton.mp hy]; exact .inl rfl) fun f c' pm ctv H2 s2 I2 g0 hn hf hfn hco => wpAny_bind (wpAny_standAt (wpAny_pure (wpAny_evalAll_nil ?_)))))
  show wpAny _ _ (call (.builtin "sorted") us [(Str.ofString "key", .ref f)]) _ _ _
  have g : Gr P.as H1 H2 := g0.sub fun b z => nomatch z
  have p2 := pens_tab A.stt.pens g0
  have s2' := A.stt.keep g p2
  have r2 := Rep.gr g A.stt.lists (fun _ z => .inl z) (fun _ z => .inl z) r
  obtain ⟨u, rfl, ru⟩ := vals1 r1
  cases dd with
  | lst kf xs =>
    obtain ⟨a, vs, L', rfl, h1, rr, c0⟩ := r2.lst_inv
    obtain ⟨q1, q2, q3, q4⟩ : D.nos xs = true ∧ (∀ x ∈ xs, okEl k1 x ∧ okEl k2 x) ∧ (∀ x ∈ xs, ∀ y ∈ xs, alikeD (keyD k1 k2 x) (keyD k1 k2 y) = true) ∧ Q0 (.lst .o (xs.mergeSort fun x y => leD (keyD k1 k2 x) (keyD k1 k2 y))) := qq
    have el := rr.no q1
    subst el
    cases ru
    obtain ⟨its, rv, pl, hz⟩ := I2.list h1
    have e0 : PySem.W.EachIs (fun u d => ∃ v, RelV v u ∧ Rep X.K P (L ++ M) (L ++ B) H2 v d []) its xs := reps_each (us := []) rv rr
    have hxs : xs.length ≤ sizeLine := by rw [← rr.len]; exact hz
    refine PySem.W.sorted_key_data (R := fun u d => ∃ v, RelV v u ∧ Rep X.K P (L ++ M) (L ++ B) H2 v d []) (b := false) (fun d => (keyD k1 k2 d).py) pl.isList e0 ?_ ?_ hxs (fun x hx => ?_) (ksk_s1 _ _) (fun z => ksk_l1 _ _) (fun z => ksk_t1 _ _) (fun v x hR hx h tk kp => ?_) (fun out cc h' tk kp fr hd hl ho => ?_)
    · intro y hy z hz
      obtain ⟨a, ha, rfl⟩ := List.mem_map.mp hy
      obtain ⟨b, hb, rfl⟩ := List.mem_map.mp hz
      exact q3 a ha b hb
    · refine .inl fun y hy => ?_
      obtain ⟨a, ha, rfl⟩ := List.mem_map.mp hy
      exact ⟨_, _, rfl⟩
    · have := keyD_depth (q2 x hx).1 (q2 x hx).2
      have := d.u
      omega
    · obtain ⟨v0, rv0, rp⟩ := hR
      obtain ⟨o1, o2⟩ := q2 x hx
      obtain ⟨ds, rfl⟩ := o1.tup
      obtain ⟨a0, vs0, rfl, ht, rs⟩ := rp.tup_inv
      cases rv0
      obtain ⟨its0, rv1, pl0, hz0⟩ := I2.tuple ht
      obtain ⟨oc, vs1, t1, e1, e2, e3⟩ := hco
      have room := d.room
      refine DLm.lam1_call (x := x) (s := { s2 with heap := h, toks := tk }) (f := f) (c' := c') ?_ (kp _ _ hf) ⟨oc, vs1, t1, kp _ _ e1, e2, e3⟩ sk sc sg sn (fun y z => nomatch z) (hbind _ _ _ _ _) (I2.nolimit.keeps kp) fun L0 h₁ tk1 kp1 hns => ?_
      · have := room.dp
        show X.A.depth + 0 < recursionLimit
        omega
      refine DLm.key2_ok (s := { s2 with heap := h₁, toks := tk1 }) (x := x) sk ?_ hns ?_ hdb (IsTup.keeps pl0 fun b o z => kp1 _ _ (kp _ _ z)) hb (okEl.rd o1 rs rv1) (okEl.rd o2 rs rv1) fun u tk2 h2 kp2 rd => ?_
      · show scope.names.lookup x = some .local
        rw [sn]; simp [List.lookup]
      · simp [List.lookup]
      · exact ⟨h2, tk2, rfl, fun b o z => kp2 _ _ (kp1 _ _ z), rd⟩
    · obtain ⟨ws, w1, w2⟩ := each_reps ho
      have hpn : H2 (s2.heap.objs.size + 1) = none := I2.hok.fresh (Nat.le_succ _)
      have e2 : out.length = ws.length := w1.length.symm
      have e3 : its.length = vs.length := rv.length.symm
      have e4 : vs.length = xs.length := rr.len
      have hz2 : ws.length ≤ sizeLine := by rw [← e2, hl]; exact hxs
      refine ⟨.ref _, upd H2 (s2.heap.objs.size + 1) (.lst ws), I2.laid (t' := tk) kp (Nat.le_succ _) ⟨hz2, out, cc, w1, hd⟩, rfl, k _ _ ?_⟩
      have A2 : Args X.K P M B H2 [.ref a] [.lst kf xs] L := ⟨s2', by
        have := Reps.cons r2 .nil
        rw [List.append_nil] at this
        exact this, A.nd, A.sub, A.out⟩
      obtain ⟨c5, Lr, q5, g5, p5, r5, n5, f5⟩ := A2.newl (Q0 := Q0) hpn w2 (fun _ z => nomatch z) List.nodup_nil q4
      exact ⟨c5, Lr, q5, g.trans g5, p5, r5, n5, fun b z => (f5 b z).elim (fun w => .inl (g.nil p2 w)) .inr⟩
  | _ => exact qq.elim
end
end DL
set_option maxHeartbeats 4000000
set_option exponentiation.threshold 50000
/-! set(a list) of keys of one kind -/
namespace DLm
open PySem PySem.Calls PySem.W PyProof.Rows
section
variable {K : Type} [DecidableEq K]
/-- one more key met -/
def meetK (acc : List K) (x : K) : List K := if x ∈ acc then acc else acc ++ [x]
/-- unlike ones, as first met -/
def metK (l : List K) : List K := l.foldl meetK []
theorem metK_snoc (l : List K) (x : K) : metK (l ++ [x]) = meetK (metK l) x := by
  unfold metK
  rw [List.foldl_append]; rfl
theorem meetK_mem {acc : List K} {x y : K} : y ∈ meetK acc x ↔ y ∈ acc ∨ y = x := by
  unfold meetK
  split
  · rename_i h
    exact ⟨.inl, fun z => z.elim id fun e => e ▸ h⟩
  · simp
theorem metK_mem {l : List K} {y : K} : y ∈ metK l ↔ y ∈ l := by
  unfold metK
  have go : ∀ (l acc : List K), y ∈ l.foldl meetK acc ↔ y ∈ acc ∨ y ∈ l := by
    intro l
    induction l with
    | nil => intro acc; simp
    | cons x l ih => intro acc; rw [List.foldl_cons, ih, meetK_mem, List.mem_cons, or_assoc]
  rw [go]; simp
theorem metK_nodup (l : List K) : (metK l).Nodup := by
  unfold metK
  have go : ∀ (l acc : List K), acc.Nodup → (l.foldl meetK acc).Nodup := by
    intro l
    induction l with
    | nil => intro acc h; exact h
    | cons x l ih =>
      intro acc h
      rw [List.foldl_cons]
      refine ih _ ?_
      unfold meetK
      split
      · exact h
      · rename_i hx
        exact List.nodup_append.mpr ⟨h, by simp, fun a ha b hb e => hx (by
          rw [List.mem_singleton.mp hb] at e
          exact e ▸ ha)⟩
  exact go l [] List.nodup_nil
theorem metK_len (l : List K) : (metK l).length ≤ l.length := by
  unfold metK
  have go : ∀ (l acc : List K), (l.foldl meetK acc).length ≤ acc.length + l.length := by
    intro l
    induction l with
    | nil => intro acc; simp
    | cons x l ih =>
      intro acc
      rw [List.foldl_cons]
      refine Nat.le_trans (ih _) ?_
      have : (meetK acc x).length ≤ acc.length + 1 := by
        unfold meetK
        split <;> simp
      rw [List.length_cons]; omega
  simpa using go l []
variable {prog : Program} {w : World} {A : Around} {knd : KeyKind prog w K}
/-- the set at S holds just these keys -/
def SetHas (knd : KeyKind prog w K) (h : Heap) (S : Addr) (l : List K) : Prop := h.SetOf knd S (fun k => decide (k ∈ metK l)) (metK l).length
theorem SetHas.at {h h' : Heap} {S : Addr} {l : List K} (q : SetHas knd h S l) (k : ∀ o, h.get? S = some o → h'.get? S = some o) : SetHas knd h' S l := by
  obtain ⟨o, es, ep, tb, ho, rest⟩ := q
  exact ⟨o, es, ep, tb, k _ ho, rest⟩
/-- one more is added -/
theorem add_hashed {s : Shared} {E : Value → Shared → Prop} {S : Addr} {l : List K} {x : K} {v : Value} {Q : Bool → Shared → Prop} (hv : knd.is x v = true) (hc : v.scannable = true) (q : SetHas knd s.heap S l) (hb : l.length + 1 < scanBound)
    (h : ∀ h' b, Heap.SameBut S s.heap h' → SetHas knd h' S (l ++ [x]) → Q b { s with heap := h' }) : wpAny (model prog w) A (setAddHashed S v (knd.hash x)) Q E s := by
  have hl := metK_len l
  refine wpAny_setAddHashed_of hv hc q (by omega) fun h' hs hS => h h' _ hs ?_
  unfold SetHas
  rw [metK_snoc]
  unfold meetK
  by_cases hx : x ∈ metK l
  · rw [if_pos hx]
    refine SetOf_congr hS (fun k => ?_) (by simp [hx])
    by_cases e : k = x
    · subst e; simp [hx]
    · simp [e]
  · rw [if_neg hx]
    refine SetOf_congr hS (fun k => ?_) (by simp [hx])
    simp
/-- the keys are added, one at a turn -/
theorem upd_loop {I : Addr} {fp wr : List Addr} {G : Array GenState → Array GenState → Prop} {n : Nat} {P : Nat → Value → Prop} {St : Nat → Shared → Prop} {R : Result → Shared → Prop} (W : WalksS prog w A.in1 I fp wr G n P St) {S : Addr} (nf : S ∉ fp) {ks : List K} (hn : ks.length = n) (hb : n + 1 < scanBound)
    (val : ∀ i v, P i v → ∃ k, ks[i]? = some k ∧ knd.is k v = true ∧ v.scannable = true) : ∀ (m i : Nat) (s : Shared), n - i = m → i ≤ n → St i s → SetHas knd s.heap S (ks.take i) →
      (∀ s', Moved (S :: wr) G s s' → SetHas knd s'.heap S ks → R (.ok (.ret .none)) s') → codeAny (model prog w) A (.builtin "set.update.loop" ⟨[.ref S, .ref I], []⟩) R s := by
  have nw : S ∉ wr := fun z => nf (W.sub _ z)
  have wide : ∀ b, b ∈ wr → b ∈ S :: wr := fun b z => List.mem_cons_of_mem _ z
  intro m
  induction m with
  | zero =>
    intro i s e1 e2 st q fin
    have ei : i = n := by omega
    subst ei
    rw [← hn, List.take_length] at q
    refine codeAny_builtin PyProof.Rows.F.entry_set_update_loop ?_
    rw [Around.under_plainId PyProof.Rows.F.plain_set_update_loop _]
    change wpAny _ A.in1 (pyNext (.ref I) >>= _) _ _ _
    exact wpAny_bind (W.done s _ _ st fun s' mv => wpAny_pure (fin s' (mv.mono wide) (q.at fun o ho => mv.heap S o nw ho)))
  | succ m ih =>
    intro i s e1 e2 st q fin
    have lt : i < n := by omega
    refine codeAny_builtin PyProof.Rows.F.entry_set_update_loop ?_
    rw [Around.under_plainId PyProof.Rows.F.plain_set_update_loop _]
    change wpAny _ A.in1 (pyNext (.ref I) >>= _) _ _ _
    refine wpAny_bind (W.item i s _ _ lt st fun v s1 pv st1 mv => ?_)
    obtain ⟨k, ek, hk, hc⟩ := val i v pv
    have q1 : SetHas knd s1.heap S (ks.take i) := q.at fun o ho => mv.heap S o nw ho
    change wpAny _ A.in1 (holding [v] (setAdd S v) >>= _) _ _ s1
    unfold setAdd
    refine wpAny_bind (wpAny_holding (wpAny_holding (wpAny_bind (knd.pyHash hk ?_))))
    have hlt : (ks.take i).length + 1 < scanBound := by rw [List.length_take]; omega
    refine add_hashed (s := { s1 with toks := s1.toks + 1 }) hk hc q1 hlt fun h' b hs q2 => wpAny_pure ⟨plainId_quiet PyProof.Rows.F.plain_set_update_loop _, ?_⟩
    have et : ks.take (i + 1) = ks.take i ++ [k] := by rw [List.take_add_one, ek]; rfl
    refine ih (i + 1) _ (by omega) lt (W.frame _ s1 _ _ st1 (Nat.le_succ _) fun b hb o e => ?_) (by rw [et]; exact q2) fun s2 mv2 q3 => fin s2 ?_ q3
    · rw [hs.2 b fun z => nf (z ▸ hb)]; exact e
    · refine Moved.trans W.gtrans ((mv.mono wide).then_heap (Nat.le_succ _) fun b o hb e => ?_) mv2
      rw [hs.2 b fun z => hb (by rw [z]; exact List.mem_cons_self)]; exact e
end

section
variable {K : Type} [DecidableEq K] {prog : Program} {w : World} {A : Around} {knd : KeyKind prog w K} {E : Value → Shared → Prop} {s : Shared}
abbrev newSet (led : Bool) : Obj := { cls := .type "set", dict := none, data := .set #[] 0 (.fresh 0 0 led) }
/-- what is wanted behind the filling -/
abbrev Filled (knd : KeyKind prog w K) (s : Shared) (ks : List K) (r : Value) (s2 : Shared) : Prop := r = .none ∧ ∃ g tk, s2 = { s with heap := g, toks := tk } ∧ SetHas knd g s.heap.objs.size ks ∧ ∀ b o, s.heap.get? b = some o → g.get? b = some o
theorem fill_set {l : Addr} {items : Array Value} {ks : List K} {B B' : Around} (hB : B.handled = none) (hl : s.heap.IsList l items) (hn : ks.length = items.size) (hb : items.size + 1 < scanBound) (led : Bool)
    (val : ∀ (i : Nat) (v : Value), items[i]? = some v → ∃ k, ks[i]? = some k ∧ knd.is k v = true ∧ v.scannable = true) :
    wpAny (model prog w) B (Builtin.«set.__init__» ⟨[.ref s.heap.objs.size, .ref l], []⟩) (fun fin s2 => match fin with
      | .done f => (wants (fun r s2 => Filled knd s ks r s2) E) (.ok f) s2
      | .again c => c.quiet = true ∧ codeAny (model prog w) B' c (wants (fun r s2 => Filled knd s ks r s2) E) s2) (fun e s2 => (wants (fun r s2 => Filled knd s ks r s2) E) (.error e) s2) { s with heap := s.heap.push (newSet led) } := by
  obtain ⟨ol, eol, ecl, nl, edl⟩ := hl
  obtain ⟨oc, od, oo, osl⟩ := ol
  simp only at ecl edl
  subst ecl edl
  have there : (s.heap.push (newSet led)).get? s.heap.objs.size = some (newSet led) := Heap.get?_push_size _ rfl
  have src : (s.heap.push (newSet led)).get? l = some { cls := .type "list", dict := od, data := .seq items nl, slots := osl } := Heap.get?_push_of_some _ eol
  have srcL : (s.heap.push (newSet led)).IsList l items := ⟨_, src, rfl, nl, rfl⟩
  have f1 := PySem.F.sub_list_set
  have f2 := PySem.F.sub_list_frozenset
  have f3 : (Value.type "list" == Value.type "dict") = false := by decide
  unfold Builtin.«set.__init__» noKeywords Builtin.Frozenset.updateFrom
  generalize eIt : pyIter = It
  wp_walk
  subst eIt
  have sl : l < s.heap.objs.size := Heap.lt_size eol
  have e1 : (s.heap.push (newSet led)).objs.size = s.heap.objs.size + 1 := by rw [Heap.size_push]
  refine wpAny_pyIter_list srcL (wpAny_bind (wpAny_runValue ?_))
  have nI : l ≠ (s.heap.push (newSet led)).objs.size := by rw [e1]; exact Nat.ne_of_lt (Nat.lt_succ_of_lt sl)
  have nS : s.heap.objs.size ∉ [(s.heap.push (newSet led)).objs.size, l] := fun z => by
    rw [e1] at z
    rcases List.mem_cons.mp z with z | z
    · exact absurd z (Nat.ne_of_lt (Nat.lt_succ_self _))
    · exact absurd (List.mem_singleton.mp z).symm (Nat.ne_of_lt sl)
  have walk := (Walks.list (prog := prog) (w := w) (A := B.in1) (by exact hB) _ l nI items).toS
  refine upd_loop (knd := knd) (ks := ks) walk nS hn hb val items.size 0 _ (by omega) (Nat.zero_le _) ⟨⟨_, Heap.get?_push_size _ rfl, rfl, rfl⟩, srcL.push _⟩ ?_ ?_
  · have z := (PyProof.Rows.setObjOf_fresh (knd := knd) led).setOf (Heap.get?_push_of_some { cls := .type "list_iterator", data := .fields #[.ref l, .int 0 0] } there) (by unfold scanBound; omega)
    exact PyProof.Rows.SetOf_congr z (fun _ => rfl) rfl
  · intro s2 mv q
    obtain ⟨g2, gens2, drawn2, tk2, os2⟩ := s2
    have a1 : gens2 = s.gens := mv.gens
    have a2 : drawn2 = s.drawn := mv.drawn
    have a3 : os2 = s.os := mv.os
    subst a1 a2 a3
    refine wpAny_pure (wpAny_pure ?_)
    refine ⟨rfl, g2, tk2, rfl, q, fun b o e => ?_⟩
    have lt := Heap.lt_size e
    refine mv.heap b o (fun z => ?_) (Heap.get?_push_of_some _ (Heap.get?_push_of_some _ e))
    rcases List.mem_cons.mp z with z | z
    · exact absurd z (Nat.ne_of_lt lt)
    · have z := List.mem_singleton.mp z
      rw [e1] at z
      exact absurd z (Nat.ne_of_lt (Nat.lt_succ_of_lt lt))
set_option maxHeartbeats 8000000 in
/-- set(xs) of a list -/
theorem call_set_listK {l : Addr} {items : Array Value} {ks : List K} {Q : Value → Shared → Prop} (hh : A.handled = none) (hl : s.heap.IsList l items) (hn : ks.length = items.size) (hb : items.size + 1 < scanBound)
    (val : ∀ (i : Nat) (v : Value), items[i]? = some v → ∃ k, ks[i]? = some k ∧ knd.is k v = true ∧ v.scannable = true)
    (fin : ∀ (g : Heap) (tk : Nat), SetHas knd g s.heap.objs.size ks → (∀ b o, s.heap.get? b = some o → g.get? b = some o) → Q (.ref s.heap.objs.size) { s with heap := g, toks := tk }) : wpAny (model prog w) A (call (.type "set") [.ref l]) Q E s := by
  have m1 := PySem.F.called_set.made
  have m2 := PySem.F.called_set.sub
  have m3 := PySem.F.called_set.notType
  have m4 := PySem.F.called_set.canCreate
  have m5 := PySem.F.typeCall_set_1 (.ref l)
  obtain ⟨c, tl, m6⟩ := PySem.F.called_set.mro
  refine wpAny_call (codeAny_of_tree (show wpAny _ _ (callAny (.type "set") _) _ _ _ from wpAny_pure ⟨Code.quiet_builtin _ (by decide +kernel), codeAny_builtin PySem.F.entry_type_call ?_⟩))
  rw [Around.under_plain (weight_type_call_type "set" [.ref l] []) rfl]
  repeat any_goals first | assumption | wp_step
  refine codeAny_mono (code_set_new_1 (.ref l) (E := E) (Q₁ := fun z s1 => ∃ led, z = .ref s.heap.objs.size ∧ s1 = { s with heap := s.heap.push (newSet led) }) fun led => ⟨led, rfl, rfl⟩) fun r s1 q => ?_
  cases r with
  | error e => exact q
  | ok fl =>
    cases fl with
    | ret z =>
      obtain ⟨led, rfl, rfl⟩ := q
      have there : (s.heap.push (newSet led)).get? s.heap.objs.size = some (newSet led) := Heap.get?_push_size _ rfl
      have ty : Shared.TypeIs { s with heap := s.heap.push (newSet led) } (.ref s.heap.objs.size) "set" := ⟨_, there, rfl⟩
      have n1 := PySem.F.called_set.init.lookup
      have n2 := PySem.F.called_set.init.bind (.ref s.heap.objs.size)
      repeat any_goals first | assumption | wp_step
      refine codeAny_mono (codeAny_call_builtin (R := wants (fun r s2 => Filled knd s ks r s2) E) PySem.F.called_set.init.plain PySem.F.entry_set_init (check_set_init_1 ty ?_)) fun r2 s2 q2 => ?_
      · exact fill_set (B := A.in1.in1) (B' := A.in1) (by first | exact hh | simp [hh]) hl hn hb led val
      · cases r2 with
        | error e => exact q2
        | ok f2 =>
          cases f2 with
          | ret r =>
            obtain ⟨rfl, g, tk, rfl, q3, q4⟩ := q2
            repeat any_goals first | assumption | wp_step
            exact fin _ _ q3 q4
          | _ => exact q2.elim
    | _ => exact q.elim
end
end DLm
set_option maxHeartbeats 4000000
set_option exponentiation.threshold 50000
namespace L2
open PySem PySem.Spec PyProof.Rows
section
variable {X : Cx}
def tLenSetS (K : PySem.W.Frag) (ta : TE) : TE := fun σ H Q => ta σ H fun x H1 => ∃ (l : Addr) (ks : List Str), x = V.ref l ∧ SqL K H1 l (ks.map V.str) ∧ ks.length < 1000 ∧ Q (.int (DLm.metK ks).length) H1
theorem vals_str : ∀ {ks : List Str} {us : List Value}, Vals (ks.map V.str) us → ∀ (i : Nat) (v : Value), us[i]? = some v → ∃ z t, ks[i]? = some z ∧ v = .str z t
  | [], _, .nil, i, v, h => by simp at h
  | k :: ks, _, .cons r t, 0, v, h => by
    obtain ⟨tk, rfl⟩ := r
    simp at h
    exact ⟨k, tk, rfl, h.symm⟩
  | k :: ks, _, .cons r t, i + 1, v, h => by
    obtain ⟨z, tk, e1, e2⟩ := vals_str t i v (by simpa using h)
    exact ⟨z, tk, by simpa using e1, e2⟩
theorem pe_lenSetS {a : Expr} {ta : TE} {p p2 q pos : Pos} (hc : X.calm = true) (hg : Gl X "len") (hm : X.mg "len" = none) (hg2 : Gl X "set") (hm2 : X.mg "set" = none) (ha : PE X a ta)
    (na : starEach [a] X.env = (false, eval a X.env) :: starEach [] X.env := by rfl) : PE X (.Call (.Name "len" p) [.Call (.Name "set" p2) [a] [] q] [] pos) (tLenSetS X.K ta) := by
  refine ⟨fun pins s σ H Q I h => Call_ (ld_blt I hg hm PySem.boot_len (PyProof.Rows.callWith_builtin1 (PyProof.Rows.args_cons ?_ rfl) rfl rfl))⟩
  refine Call_ (ld_blt I hg2 hm2 PyProof.Rows.boot_set (PyProof.Rows.callWith_type1 (PyProof.Rows.args_cons (thn (ha.run pins s σ H _ I h) fun v s1 ⟨x, H1, I1, r1, q1⟩ => PyProof.Rows.args_nil ?_) na) na rfl))
  obtain ⟨l, ks, rfl, hl, hk, q1⟩ := q1
  cases r1
  obtain ⟨its, rv, pl, hz⟩ := I1.list hl
  have len : ks.length = its.toArray.size := by rw [List.size_toArray, ← rv.length, List.length_map]
  have sb : (1001 : Nat) < scanBound := by decide
  refine DLm.call_set_listK (knd := PySem.strKind X.prog X.w) (ks := ks) (I1.ok.hd hc) pl.isList len (by omega) (fun i v e => ?_) fun g tk hS kp => PyProof.Rows.args_nil ?_
  · obtain ⟨z, t, e1, rfl⟩ := vals_str rv i v (by simpa using e)
    exact ⟨z, e1, strKind_is _ _ _ _, rfl⟩
  · obtain ⟨o, es, ep, t, ho, hex, hd, _, _, _, hf, hn⟩ := hS
    have I2 : Inv X pins σ H1 { s1 with heap := g, toks := tk } := I1.kept fun b o e => kp b o e
    have := DLm.metK_len ks
    have l63 : (1000 : Nat) < 2 ^ 63 := by decide
    exact call_len_set ho hex hd hf (by rw [hn]; omega) ⟨.int (DLm.metK ks).length, H1, I2.tok _, ⟨_, by rw [hn]⟩, q1⟩
end
end L2
namespace DL
open PySem PySem.Spec PyProof.Rows L2
variable [Tb]
def lenSetS : D1
  | .lst _ xs, Q => ∃ ks : List Str, xs = ks.map D.str ∧ ks.length < 1000 ∧ Q (.int (DLm.metK ks).length)
  | _, _ => False
section
variable {X : Cx} {a : Expr} {ta : DT} {p p2 q pos : Pos} {k : Nat}
theorem reps_strs {K : PySem.W.Frag} {P : Pens} {M B : List Addr} {H : Hp} : ∀ {ks : List Str} {vs : List V} {L : List Addr}, Reps K P M B H vs (ks.map D.str) L → vs = ks.map V.str
  | [], _, _, r => by
    cases r; rfl
  | k :: ks, _, _, r => by
    cases r with
    | cons h r =>
      obtain ⟨rfl, _⟩ := h.str_inv
      rw [reps_strs r]; rfl
theorem pd_lensetS (d : Gd X k) (hm : X.mg "len" = none) (hm2 : X.mg "set" = none) (ha : PD X a ta) (hg : Gl X "len" := by rfl) (hg2 : Gl X "set" := by rfl) (na : starEach [a] X.env = (false, eval a X.env) :: starEach [] X.env := by rfl) :
    PD X (.Call (.Name "len" p) [.Call (.Name "set" p2) [a] [] q] [] pos) (dUn (o1 lenSetS) ta) := mPE (pe_lenSetS d.calm hg hm hg2 hm2 ha na) fun σ H Q h => by
  refine lift_mono (lift_un h) fun v H1 h1 => ?_
  refine to1 h1 fun P M B v' d L Q0 ev A r f k' => ?_
  injection ev with ev _
  subst ev
  unfold lenSetS at f
  split at f
  · obtain ⟨ks, rfl, hl, q⟩ := f
    obtain ⟨a1, vs, L', rfl, hq, rr, c⟩ := r.lst_inv
    rw [reps_strs rr] at hq
    exact ⟨a1, ks, rfl, hq, hl, k' _ _ (A.plain (fun {_} => .int) q)⟩
  · exact f.elim
end
/-! ### texts -/
/-- a text of one sign -/
def sOne (c : Nat) : OkS := ⟨⟨#[c % 0x110000]⟩, by
  show (#[c % 0x110000] : Array Nat).all (· < 0x110000) = true
  simp; omega⟩
/-- its signs' numbers -/
def sCs (s : OkS) : List Nat := s.1.cps.toList
def sCode (s : OkS) : Nat := s.1.cps.getD 0 0
def sLen (s : OkS) : Int := s.1.length
def sCh (s : OkS) : List OkS := (sCs s).map sOne
theorem strOk_mem {s : Str} (h : PyData.strOk s = true) {c : Nat} (m : c ∈ s.cps.toList) : c < 0x110000 := by
  unfold PyData.strOk at h
  have := (Array.all_eq_true_iff_forall_mem.mp h) c (Array.mem_def.mpr m)
  simpa using this
theorem strOk_of {l : List Nat} (h : ∀ c ∈ l, c < 0x110000) : PyData.strOk ⟨l.toArray⟩ = true := by
  unfold PyData.strOk
  refine Array.all_eq_true_iff_forall_mem.mpr fun c m => ?_
  simpa using h c (by simpa using m)
theorem sCs_lt (s : OkS) {c : Nat} (m : c ∈ sCs s) : c < 0x110000 := strOk_mem s.2 m
theorem sOne_v {c : Nat} (h : c < 0x110000) : (sOne c).1 = ⟨#[c]⟩ := by
  show (⟨#[c % 0x110000]⟩ : Str) = _
  rw [Nat.mod_eq_of_lt h]
/-- the sign at a place -/
def sAt (s : OkS) (i : Int) : OkS := sOne ((atI (sCs s) i).getD 0)
def sMk (l : List Nat) : OkS := ⟨⟨(l.map (· % 0x110000)).toArray⟩, strOk_of fun c m => by
  obtain ⟨d, _, rfl⟩ := List.mem_map.mp m
  omega⟩
theorem sMk_v {l : List Nat} (h : ∀ c ∈ l, c < 0x110000) : (sMk l).1 = ⟨l.toArray⟩ := by
  unfold sMk
  have : l.map (· % 0x110000) = l := by
    refine (List.map_congr_left fun c m => Nat.mod_eq_of_lt (h c m)).trans (by simp)
  show (⟨(l.map (· % 0x110000)).toArray⟩ : Str) = _
  rw [this]
theorem sCs_mk {l : List Nat} (h : ∀ c ∈ l, c < 0x110000) : sCs (sMk l) = l := by
  unfold sCs
  rw [sMk_v h]
theorem okS_ext {a b : OkS} (h : sCs a = sCs b) : a = b := by
  obtain ⟨⟨x⟩, hx⟩ := a
  obtain ⟨⟨y⟩, hy⟩ := b
  have : x = y := Array.toList_inj.mp h
  subst this; rfl
def sCat (a b : OkS) : OkS := sMk (sCs a ++ sCs b)
theorem sCat_lt (a b : OkS) : ∀ c ∈ sCs a ++ sCs b, c < 0x110000 := fun c m => (List.mem_append.mp m).elim (sCs_lt a) (sCs_lt b)
theorem sCs_cat (a b : OkS) : sCs (sCat a b) = sCs a ++ sCs b := sCs_mk (sCat_lt a b)
def sCut (s : OkS) (lo hi : Option Int) : OkS := sMk (((sCs s).drop (HT.sIx s.1.length 0 lo)).take (HT.sIx s.1.length s.1.length hi - HT.sIx s.1.length 0 lo))
theorem sCut_lt (s : OkS) (lo hi : Option Int) : ∀ c ∈ ((sCs s).drop (HT.sIx s.1.length 0 lo)).take (HT.sIx s.1.length s.1.length hi - HT.sIx s.1.length 0 lo), c < 0x110000 := fun c m => sCs_lt s (List.mem_of_mem_drop (List.mem_of_mem_take m))
theorem sCut_v (s : OkS) (lo hi : Option Int) : (sCut s lo hi).1 = cutS s.1 lo hi := sMk_v (sCut_lt s lo hi)
section
variable {ρ : Env} {ta : DT} {a b : DT} {i : Int} {s t : OkS}
theorem o_addS (h : s.1.length + t.1.length ≤ sizeLine) : Op (o2 addD) [eS s, eS t] (eS (sCat s t)) := fun Q q => by
  refine ⟨h, ?_⟩
  have : (sCat s t).1 = s.1 ++ t.1 := by
    refine (sMk_v (sCat_lt s t)).trans ?_
    show (⟨(s.1.cps.toList ++ t.1.cps.toList).toArray⟩ : Str) = ⟨s.1.cps ++ t.1.cps⟩
    simp
  have q' : Q (.str (sCat s t).1) := q
  rw [this] at q'
  exact q'
theorem o_lenS (h : s.1.length ≤ sizeLine) : Op (o1 lenD) [eS s] (eI (sLen s)) := fun Q q => ⟨h, q⟩
theorem o_ixS (h : s.1.length ≤ sizeLine ∧ (atI (sCs s) i).isSome = true) : Op (o2 ixD) [eS s, eI i] (eS (sAt s i)) := fun Q q => by
  refine ⟨h.1, ?_⟩
  show (match atI (sCs s) i with | some c => Q (.str ⟨#[c]⟩) | none => False)
  cases e : atI (sCs s) i with
  | none => rw [e] at h; cases h.2
  | some c =>
    have m : c ∈ sCs s := by
      unfold atI at e
      cases e2 : ixN (sCs s).length i with
      | none => rw [e2] at e; cases e
      | some j => rw [e2] at e; exact List.mem_of_getElem? e
    have q' : Q (.str (sOne ((atI (sCs s) i).getD 0)).1) := q
    rw [e, Option.getD_some, sOne_v (sCs_lt s m)] at q'
    exact q'
theorem o_inS (h : s.1.cps.size = 1) : Op (o2 (inO id)) [eS s, eS t] (eB (decide (sCode s ∈ sCs t))) := fun Q q => ⟨h, q⟩
theorem o_ninS (h : s.1.cps.size = 1) : Op (o2 (inO not)) [eS s, eS t] (eB (!decide (sCode s ∈ sCs t))) := fun Q q => ⟨h, q⟩
theorem chs_map : (sCh s).map eS = s.1.cps.toList.map fun c => D.str ⟨#[c]⟩ := by
  unfold sCh
  rw [List.map_map]
  refine List.map_congr_left fun c m => ?_
  show D.str (sOne c).1 = _
  rw [sOne_v (sCs_lt s m)]
theorem ei_CS (h : Ev ta ρ (eS s)) : EvI (dIter itemsC ta) ρ ((sCh s).map eS) := fun Q q => h _ (by rw [chs_map] at q; exact q)
theorem ei_SS (h : Ev ta ρ (eS s)) : EvI (dIter itemsS ta) ρ ((sCh s).map eS) := fun Q q => h _ (by rw [chs_map] at q; exact q)
theorem ev_slS {lo hi : Option Int} (h : Ev ta ρ (eS s)) (ha : EvO a ρ lo) (hb : EvO b ρ hi) (hl : s.1.length ≤ sizeLine) : Ev (dSl ta a b) ρ (eS (sCut s lo hi)) := fun Q q => by
  obtain ⟨d1, e1, p1⟩ := ha
  obtain ⟨d2, e2, p2⟩ := hb
  refine h _ (e1 _ (e2 _ ?_))
  show slD (.str s.1) d1 d2 Q
  unfold slD
  rw [p1, p2]
  refine ⟨hl, ?_⟩
  have q' : Q (.str (sCut s lo hi).1) := q
  rw [sCut_v] at q'
  exact q'
end
theorem met_map {α β : Type} [DecidableEq α] [DecidableEq β] {f : α → β} (hf : ∀ x y, f x = f y → x = y) : ∀ (l acc : List α), (l.map f).foldl DLm.meetK (acc.map f) = (l.foldl DLm.meetK acc).map f
  | [], acc => rfl
  | x :: l, acc => by
    rw [List.map_cons, List.foldl_cons, List.foldl_cons, ← met_map hf l]
    congr 1
    unfold DLm.meetK
    have : f x ∈ acc.map f ↔ x ∈ acc := ⟨fun h => by
      obtain ⟨y, hy, e⟩ := List.mem_map.mp h
      rw [← hf _ _ e]; exact hy, fun h => List.mem_map.mpr ⟨x, h, rfl⟩⟩
    by_cases h : x ∈ acc
    · rw [if_pos h, if_pos (this.mpr h)]
    · rw [if_neg h, if_neg (fun z => h (this.mp z))]; simp
theorem o_lensetS {f : Fl} {l : List OkS} (hl : l.length < 1000) : Op (o1 lenSetS) [eL f eS l] (eI (DLm.metK l).length) := fun Q q => by
  refine ⟨l.map (·.1), by rw [List.map_map]; rfl, by rw [List.length_map]; exact hl, ?_⟩
  have : DLm.metK (l.map (·.1)) = (DLm.metK l).map (·.1) := met_map (fun x y e => Subtype.ext e) l []
  rw [this, List.length_map]
  exact q
/-- a list without twins is as long as its set -/
theorem met_self {α : Type} [DecidableEq α] {l : List α} (h : l.Nodup) : DLm.metK l = l := by
  have go : ∀ (l acc : List α), (acc ++ l).Nodup → l.foldl DLm.meetK acc = acc ++ l := by
    intro l
    induction l with
    | nil => intro acc _; simp
    | cons x l ih =>
      intro acc h
      rw [List.foldl_cons]
      have hx : x ∉ acc := fun z => (List.nodup_append.mp h).2.2 x z x (List.mem_cons_self ..) rfl
      unfold DLm.meetK
      rw [if_neg hx]
      have := ih (acc ++ [x]) (by simpa using h)
      unfold DLm.meetK at this
      rw [this]; simp
  exact go l [] h
/-! ### sorted by a key -/
theorem o_sortK {α β : Type} {e : α → D} {eb : β → D} {lt : β → β → Bool} [Pf e] [OrdT eb lt] [Kd1 eb] {f : Fl} {l : List α} {k1 k2 : DLm.KEl} {key : α → β} (h1 : ∀ x, keyD k1 k2 (e x) = eb (key x)) (h2 : ∀ x, okEl k1 (e x) ∧ okEl k2 (e x)) :
    Op (o1 (sortKD k1 k2)) [eL f e l] (eL .o e (l.mergeSort fun x y => leOf lt (key x) (key y))) := fun Q q => by
  refine ⟨noS (all_map (fun x => D.no_pf _ (Pf.h x)) l), all_map h2 l, fun x hx y hy => ?_, ?_⟩
  · obtain ⟨a, _, rfl⟩ := List.mem_map.mp hx
    obtain ⟨b, _, rfl⟩ := List.mem_map.mp hy
    rw [h1, h1]
    exact OrdT.al (e := eb) _ _
  · have : (l.map e).mergeSort (fun x y => leD (keyD k1 k2 x) (keyD k1 k2 y)) = (l.mergeSort fun x y => leOf lt (key x) (key y)).map e :=
      (List.map_mergeSort (r := fun x y => leOf lt (key x) (key y)) (s := fun x y => leD (keyD k1 k2 x) (keyD k1 k2 y)) (f := e) (l := l) (fun a _ b _ => by
        rw [h1, h1]
        exact (OrdC.h (e := eb) (le := leOf lt) (key a) (key b)).symm)).symm
    rw [this]
    exact q
/-! ### downward ranges -/
def dRngN (a b c : DT) : DTI := fun ρ Q => a ρ fun d => b ρ fun e => c ρ fun g => match d, e, g with
  | .int i, .int j, .int k => k = -1 ∧ (-1000000000000 ≤ i ∧ i ≤ 1000000000000) ∧ (-1000000000000 ≤ j ∧ j ≤ 1000000000000) ∧ Q (rdnD i (i - j).toNat)
  | _, _, _ => False
def rdnL (i j : Int) : List Int := (List.range (i - j).toNat).map fun k => i - (k : Nat)
theorem rdn_map {i j : Int} : rdnD i (i - j).toNat = (rdnL i j).map eI := by
  unfold rdnD rdnL
  rw [List.map_map]
  refine List.map_congr_left fun k _ => ?_
  show D.int (i + (k : Int) * (-1)) = D.int (i - (k : Int))
  congr 1; omega
theorem pfs_rdn (i : Int) (n : Nat) : D.pfs (rdnD i n) = true := by
  unfold rdnD
  exact pfs_of _ fun x hx => by
    obtain ⟨k, _, rfl⟩ := List.mem_map.mp hx
    rfl
section
variable {K : PySem.W.Frag} {σ : Sg} {H : Hp} {ρ : Env} {t u c : DT} {R : It → Hp → Prop} {ta tb tc : DT} {i j : Int}
theorem liftI_rngN (h : liftIC K (dRngN t u c) σ H R ∨ liftIS K (dRngN t u c) σ H R) : iRng3 (tCons (lift K t) (tCons (lift K u) (tCons (lift K c) tNil))) σ H R := by
  rcases h with h | h
  · obtain ⟨P, M, B, ρ, Q0, s, sl, q, k⟩ := h
    refine ⟨P, M, B, ρ, _, s, sl, q, fun v1 H1 r1 => ?_⟩
    obtain ⟨c1, L1, q, g1, p1, r1, _⟩ := res_open s r1
    have s1 := s.keep g1 p1
    have sl1 := sl.keep s g1
    refine ⟨P, M, B, ρ, _, s1, sl1, q, fun v2 H2 r2 => ?_⟩
    obtain ⟨c2, L2, q, g2, p2, r2, _⟩ := res_open s1 r2
    have s2 := s1.keep g2 p2
    refine ⟨P, M, B, ρ, _, s2, sl1.keep s1 g2, q, fun v3 H3 r3 => ?_⟩
    obtain ⟨c3, L3, q, g3, p3, r3, _⟩ := res_open s2 r3
    split at q
    · obtain ⟨rfl, _⟩ := r1.int_inv
      obtain ⟨rfl, _⟩ := r2.int_inv
      obtain ⟨rfl, _⟩ := r3.int_inv
      obtain ⟨rfl, b1, b2, q⟩ := q
      exact ⟨_, _, _, _, rfl, RgC.neg (by omega) (by omega) (by omega) (by omega), k _ _ _ q ((g1.trans g2).trans g3) p3 .rdn⟩
    · exact q.elim
  · obtain ⟨P, M, B, ρ, Q0, s, sl, q, k⟩ := h
    refine ⟨P, M, B, ρ, _, s, sl, q, fun v1 H1 r1 => ?_⟩
    obtain ⟨c1, L1, q, g1, p1, r1, _⟩ := res_open s r1
    have s1 := s.keep g1 p1
    have sl1 := sl.keep s g1
    refine ⟨P, M, B, ρ, _, s1, sl1, q, fun v2 H2 r2 => ?_⟩
    obtain ⟨c2, L2, q, g2, p2, r2, _⟩ := res_open s1 r2
    have s2 := s1.keep g2 p2
    refine ⟨P, M, B, ρ, _, s2, sl1.keep s1 g2, q, fun v3 H3 r3 => ?_⟩
    obtain ⟨c3, L3, q, g3, p3, r3, _⟩ := res_open s2 r3
    split at q
    · obtain ⟨rfl, _⟩ := r1.int_inv
      obtain ⟨rfl, _⟩ := r2.int_inv
      obtain ⟨rfl, _⟩ := r3.int_inv
      obtain ⟨rfl, b1, b2, q⟩ := q
      exact ⟨_, _, _, _, rfl, RgC.neg (by omega) (by omega) (by omega) (by omega), k _ _ _ q ((g1.trans g2).trans g3) p3 (fun P' M' H'' f s' => (Src.rdn (N := [])).now s'.lists) (pfs_rdn _ _)⟩
    · exact q.elim
theorem ei_rn (ha : Ev ta ρ (eI i)) (hb : Ev tb ρ (eI j)) (hc : Ev tc ρ (eI (-1))) (h : (-1000000000000 ≤ i ∧ i ≤ 1000000000000) ∧ (-1000000000000 ≤ j ∧ j ≤ 1000000000000)) : EvI (dRngN ta tb tc) ρ ((rdnL i j).map eI) := fun Q q => ha _ (hb _ (hc _ ⟨rfl, h.1, h.2, by rw [rdn_map]; exact q⟩))
end
section
variable {X : Cx} {a b c tg : Expr} {ta tb tc : DT} {pos p : Pos}
theorem pic_r3 (hm : X.mg "range" = none) (ha : PD X a ta) (hb : PD X b tb) (hc : PD X c tc) (hg : Gl X "range" := by rfl) (hs1 : starEach [a, b, c] X.env = (false, eval a X.env) :: starEach [b, c] X.env := by rfl) (hs2 : starEach [b, c] X.env = (false, eval b X.env) :: starEach [c] X.env := by rfl) (hs3 : starEach [c] X.env = (false, eval c X.env) :: starEach [] X.env := by rfl) :
    PIC X tg (.Call (.Name "range" p) [a, b, c] [] pos) (dRngN ta tb tc) := mPI (pi_range3 hg hm (pa_cons ha (pa_cons hb (pa_cons hc pa_nil hs3) hs2) hs1) hs1 (by rw [hs2, hs3]; rfl)) fun _ _ _ h => liftI_rngN (.inl h)
theorem pis_r3 (hm : X.mg "range" = none) (ha : PD X a ta) (hb : PD X b tb) (hc : PD X c tc) (hg : Gl X "range" := by rfl) (hs1 : starEach [a, b, c] X.env = (false, eval a X.env) :: starEach [b, c] X.env := by rfl) (hs2 : starEach [b, c] X.env = (false, eval b X.env) :: starEach [c] X.env := by rfl) (hs3 : starEach [c] X.env = (false, eval c X.env) :: starEach [] X.env := by rfl) :
    PIS X tg (.Call (.Name "range" p) [a, b, c] [] pos) (dRngN ta tb tc) := mPI (pi_range3 hg hm (pa_cons ha (pa_cons hb (pa_cons hc pa_nil hs3) hs2) hs1) hs1 (by rw [hs2, hs3]; rfl)) fun _ _ _ h => liftI_rngN (.inr h)
end
end DL
set_option maxHeartbeats 4000000
set_option exponentiation.threshold 50000
namespace DL
open PySem PySem.Spec PyProof.Rows L2
/-- the law's tables -/
def tabsOf (K : PySem.W.Frag) (tf : List He.Defn) : List (Addr × Str) := tf.map fun p => ((He.cT K p).2, p.1 ++ ".<locals>." ++ "<lambda>")
def tabsNd (tf : List He.Defn) (K : PySem.W.Frag) : Bool := decide ((tf.map fun p => (He.cT K p).2).Nodup)
variable [Tb]
/-! ### a def that makes lambdas -/
/-- its code object's table is followed -/
def LamF (K : PySem.W.Frag) (base : Heap) (mg : Str → Option Value) (f : Addr) (qual : Str) : Prop := ∀ (oc : Value) (od : Option Addr) (fd : FuncData) (osl : Array (Option Value)), K.lookup f = some ⟨oc, od, .func fd, osl⟩ →
  ∃ c P, LamX.TabB base mg c P ∧ fd.code = .ref c ∧ (P, qual ++ ".<locals>." ++ "<lambda>") ∈ Tb.T ∧ ∀ p ∈ Tb.T, p.1 = P → p.2 = qual ++ ".<locals>." ++ "<lambda>"
section
variable {P : Program} {w : World} {K : PySem.W.Frag} {mg : Str → Option Value} {base : Heap} {x qual : Str} {params : Arguments} {body : List Stmt} {scope : Scope} {f : Addr} {fd : FuncData}
theorem Fd.ofL {N ps : List Str} {k : Nat} {S : DSpec} {t : DS} (F : FunD K x qual params body scope [] [] f fd) (gm : mg x = some (.ref f)) (Sc : FnScope N ps scope)
    (hb : ∀ (kV doc pm : Value) (an : Option Addr) (cdv ct : Value) (us : List Value), us.length = ps.length → bindArgs (PySem.W.fnOf x qual params body scope .none kV doc pm an cdv ct) ⟨us, []⟩ = pure (ps.zip us)) (lam : LamF K base mg f qual)
    (walk : ∀ (cdv : Value) (A : Around) (outer : List PySem.Env) (s : Shared) (H : Hp) (E : XK), LamAt (cxOf CX0 P w K mg base N qual scope f cdv A outer s H E).nox → Room k (A.deeper (envOfC qual scope s.heap.objs.size f cdv)) → PDB (cxOf CX0 P w K mg base N qual scope f cdv A outer s H E).nox body t)
    (hS : ∀ ds Q, S ds Q → ds.length = ps.length ∧ t (endD Q) (startE N.length ds)) : Fd P w K mg base (k + 1) x S := by
  refine ⟨f, fd, ps, ?_, gm, F.kp, F.bindsN hb⟩
  obtain ⟨oc, od, dV, kV, doc, pm, an, cdv, ct, osl, rfl, lk, hcd, _, _⟩ := F.ex
  obtain ⟨c, T, TB, ec, hm, hu⟩ := lam _ _ _ _ lk
  have ec : cdv = .ref c := ec
  subst ec
  refine fn_of (N := N) lk hcd Sc (fun vs H Q E h => ?_) fun A outer s H vs Q E hr h => ⟨liftS K t, PSs.nox (walk (.ref c) A outer s H E ⟨c, T, TB, rfl, hm, hu⟩ hr), def_body hS h⟩
  obtain ⟨P', M, ds, Q0, s, r, pf, q, _⟩ := h
  rw [r.len]
  exact (hS _ _ q).1
end
theorem tabs_uniq {K : PySem.W.Frag} {tf : List He.Defn} (h : tabsNd tf K = true) {p : He.Defn} (hp : p ∈ tf) : ∀ q ∈ tabsOf K tf, q.1 = (He.cT K p).2 → q.2 = p.1 ++ ".<locals>." ++ "<lambda>" := fun q hq e => by
  obtain ⟨r, hr, rfl⟩ := List.mem_map.mp hq
  have nd := of_decide_eq_true h
  have : r = p := by
    have inj : ∀ (l : List He.Defn), (l.map fun p => (He.cT K p).2).Nodup → r ∈ l → p ∈ l → (He.cT K r).2 = (He.cT K p).2 → r = p := by
      intro l
      induction l with
      | nil => intro _ h; exact nomatch h
      | cons a l ih =>
        intro nd h1 h2 e
        rw [List.map_cons, List.nodup_cons] at nd
        rcases List.mem_cons.mp h1 with z1 | z1 <;> rcases List.mem_cons.mp h2 with z2 | z2
        · rw [z1, z2]
        · exact absurd (List.mem_map.mpr ⟨p, z2, by rw [← e, z1]⟩) nd.1
        · exact absurd (List.mem_map.mpr ⟨r, z1, by rw [e, z2]⟩) nd.1
        · exact ih nd.2 z1 z2 e
    exact inj tf nd hr hp e
  rw [this]

theorem TabF.nil {H : Hp} {b : Addr} {q : Str} (h : H b = some (.tbl #[])) : TabF H b q := ⟨#[], h, True.intro, fun pos cv hc => by
  have z : codeAmong pos [] = some cv := hc
  simp [codeAmong] at z⟩
theorem tabs_all {K : PySem.W.Frag} {H : Hp} {tf : List He.Defn} (h : ∀ p ∈ tf.map (He.cT K), H p.2 = some (.tbl #[])) : ∀ p ∈ tabsOf K tf, TabF H p.1 p.2 := fun p hp => by
  obtain ⟨r, hr, rfl⟩ := List.mem_map.mp hp
  exact TabF.nil (h _ (List.mem_map.mpr ⟨r, hr, rfl⟩))
theorem lamF_of {K : PySem.W.Frag} {base : Heap} {mg : Str → Option Value} {tf : List He.Defn} {p : He.Defn} {x qual : Str} {params : Arguments} {body : List Stmt} {scope : Scope} {dvs : List V} {kws : List (Str × V)} {fd : FuncData}
    (F : FunD K x qual params body scope dvs kws (He.fAd K p) fd) (hT : Tb.T = tabsOf K tf) (hp : p ∈ tf) (hq : p.1 = qual) (nd : tabsNd tf K = true) (TB : ∀ p ∈ tf, LamX.TabB base mg (He.cT K p).1 (He.cT K p).2) : LamF K base mg (He.fAd K p) qual := by
  intro oc od fd2 osl lk
  obtain ⟨oc', od', dV, kV, doc, pm, an, cdv, ct, osl', rfl, lk2, hcd, _, _⟩ := F.ex
  rw [lk2] at lk
  have e : PySem.W.fnOf x qual params body scope dV kV doc pm an cdv ct = fd2 := by
    injection lk with lk
    injection lk with _ _ lk _
    injection lk
  subst e
  obtain ⟨c, rfl⟩ := He.codeIn_ref hcd
  have ec : He.codeOf K p = c := He.codeOf_eq lk2 rfl
  have e1 : He.cT K p = (c, He.tabOf K c) := by unfold He.cT; rw [ec]
  have tb := TB p hp
  rw [e1] at tb
  refine ⟨c, He.tabOf K c, tb, rfl, ?_, fun q hq2 e2 => ?_⟩
  · rw [hT]
    refine List.mem_map.mpr ⟨p, hp, ?_⟩
    rw [e1, hq]
  · rw [hT] at hq2
    rw [← hq]
    exact tabs_uniq nd hp q hq2 (by rw [e2, e1])
end DL
set_option maxHeartbeats 4000000
set_option exponentiation.threshold 50000
/-! min by a key (len(x), x): the machine -/
namespace DLm
open PySem PySem.Calls PySem.W PyProof.Rows
/-- (len(x), x) -/
def lenkey (x : Str) (body : Expr) : Prop := ∃ p1 p2 p3 p4 xx p, body = .Tuple [.Call (.Name "len" p1) [.Name x p2] [] p3, .Name x p4] xx p
section
variable {prog : Program} {w : World} {A : Around} {E : Value → Shared → Prop} {s : Shared} {env : Env} {m : Str → Option Value} {x : Str} {a : Addr} {its : Array Value}
theorem lenkey_ok {body : Expr} {mg mb : Str → Option Value} {Q : Value → Shared → Prop} (hk : env.scope.kind = .function) (hl : env.kindOf x = some .local) (hlen : env.kindOf "len" = some .globalImplicit) (hn : s.heap.Ns env.locals m) (hv : m x = some (.ref a)) (hd : (x == ("__debug__" : Str)) = false)
    (hg : s.heap.Ns env.globals mg) (hm : mg "len" = none) (hb : s.heap.Ns env.builtins mb) (hbv : mb "len" = bootBuiltins "len") (ht : s.heap.IsList a its) (hz : its.size ≤ sizeLine) (hbd : lenkey x body)
    (h : ∀ tk, Q (.ref s.heap.objs.size) { s with heap := s.heap.push { cls := .type "tuple", data := .seq #[.int its.size tk, .ref a] }, toks := tk + 1 }) : wpAny (model prog w) A (eval body env) Q E s := by
  obtain ⟨p1, p2, p3, p4, xx, p, rfl⟩ := hbd
  have l63 := L2.line63
  refine wpAny_Tuple_spliced ?_
  show wpAny _ _ (spliced ((false, eval (.Call (.Name "len" p1) [.Name x p2] [] p3) env) :: backTo p (starEach [.Name x p4] env))) _ _ _
  refine spliced_cons (Call_ (Name_function_global hk hlen (loadGlobal_builtin hg hm hb (hbv.trans PySem.boot_len) (callWith_builtin1 (args_cons ?_ rfl) rfl rfl)) (by decide)))
  refine wpAny_Name (wpAny_loadName_local hk hl hn hv (args_nil ?_)) hd
  refine call_len_list ht (by omega) ?_
  show wpAny _ _ (spliced ((false, eval (.Name x p4) env) :: backTo p (starEach [] env))) _ _ _
  refine spliced_cons (wpAny_Name (wpAny_loadName_local hk hl hn hv ?_) hd)
  exact spliced_nil ⟨show 2 ≤ sizeLine by decide, h (s.toks + 1)⟩
end
/-- the key of names -/
def nmD (ks : List Str) : PyData := .tuple [.int ks.length, .list (ks.map PyData.str)]
theorem alike_strs : ∀ (xs ys : List Str), alikeAll (xs.map PyData.str) (ys.map PyData.str) = true
  | [], [] => rfl
  | [], _ :: _ => rfl
  | _ :: _, [] => rfl
  | _ :: xs, _ :: ys => by
    show (true && _) = true
    rw [alike_strs xs ys]; rfl
theorem alike_nm (xs ys : List Str) : alike (nmD xs) (nmD ys) = true := by
  show (true && (alikeAll (xs.map PyData.str) (ys.map PyData.str) && true)) = true
  rw [alike_strs]; rfl
theorem depth_strs : ∀ xs : List Str, PyData.depthAll (xs.map PyData.str) ≤ 1
  | [] => Nat.zero_le _
  | x :: xs => Nat.max_le.mpr ⟨by simp [PyData.depth], depth_strs xs⟩
theorem depth_nm (xs : List Str) : (nmD xs).depth ≤ 5 := by
  have := depth_strs xs
  simp only [nmD, PyData.depth, PyData.depthAll] at *
  omega
section
variable {prog : Program} {w : World} {A : Around} {E : Value → Shared → Prop} {s : Shared}
/-- min of a list of lists of texts by the key (len(x), x): the calls' making is left to the caller -/
theorem min_names {l f : Addr} {its : Array Value} {kss : List (List Str)} {Q : Value → Shared → Prop} (hh : A.in1.handled = none) (hu : A.in1.units + 10 < cLine) (hl : s.heap.IsList l its) (hn : 0 < its.size)
    (hit : ∀ i v, its[i]? = some v → ∃ (L : Addr) (o : Obj) (us : Array Value) (n : Nat), v = .ref L ∧ s.heap.get? L = some o ∧ o.cls = .type "list" ∧ o.data = .seq us n ∧ ReadsAll s.heap us.toList ((kss.getD i []).map PyData.str) [] ∧ us.size = (kss.getD i []).length)
    (hcall : ∀ i L h tk, its[i]? = some (.ref L) → (∀ b o, s.heap.get? b = some o → h.get? b = some o) → wpAny (model prog w) A.in1 (call (.ref f) [.ref L]) (fun k s' => ∃ t h' tk' o c tk0, k = .ref t ∧ s' = { s with heap := h', toks := tk' } ∧ (∀ b o, h.get? b = some o → h'.get? b = some o) ∧ h.get? t = none ∧
      h'.get? t = some o ∧ o.cls = .type "tuple" ∧ o.data = .seq #[.int (kss.getD i []).length tk0, .ref L] c) (fun _ _ => False) { s with heap := h, toks := tk })
    (hQ : ∀ v h tk, its[argBest (fun i j => dataLt (nmD (kss.getD i [])) (nmD (kss.getD j []))) (its.size - 1)]? = some v → (∀ b o, s.heap.get? b = some o → h.get? b = some o) → Q v { s with heap := h, toks := tk }) :
    wpAny (model prog w) A (call (.builtin "min") [.ref l] [(Str.ofString "key", .ref f)]) Q E s := by
  refine call_min_walkK (iter_listW hh hl fun s₂ e₂ W st0 hfp hnew hk₂ => ?_)
  subst e₂
  have I0 : ∀ b o, s.heap.get? b = some o → b ≠ s.heap.objs.size := fun b o e => Nat.ne_of_lt (Heap.lt_size e)
  let S : Addr := (s.heap.push { cls := .type "list_iterator", data := .fields #[.ref l, .int 0 0] }).objs.size
  have S0 : ∀ b o, s.heap.get? b = some o → b ≠ S := fun b o e => Nat.ne_of_lt (Heap.lt_size (Heap.get?_push_of_some _ e))
  refine ⟨_, _, _, _, _, _, _, (fun s' => ∃ h tk, s' = { s with heap := h, toks := tk } ∧ ∀ b o, s.heap.get? b = some o → h.get? b = some o),
    (fun i k s' => ∃ t L o c tk0, k = .ref t ∧ its[i]? = some (.ref L) ∧ t ≠ S ∧ t ≠ s.heap.objs.size ∧ s'.heap.get? t = some o ∧ o.cls = .type "tuple" ∧ o.data = .seq #[.int (kss.getD i []).length tk0, .ref L] c),
    (fun i j => dataLt (nmD (kss.getD i [])) (nmD (kss.getD j []))), rfl, W, st0, hfp, hn, ⟨?_, ?_, ?_, ?_⟩, ⟨_, s.toks, rfl, hk₂⟩, ?_⟩
  · rintro s1 s' ⟨h, tk, rfl, kp⟩ m
    refine ⟨s'.heap, s'.toks, ?_, fun b o e => m.heap b o (fun hb => ?_) (kp b o e)⟩
    · obtain ⟨hp, g, d, tk', os⟩ := s'
      have h1 : g = s.gens := m.gens
      have h2 : d = s.drawn := m.drawn
      have h3 : os = s.os := m.os
      subst h1 h2 h3
      rfl
    · rcases List.mem_cons.mp hb with z | z
      · exact S0 b o e z
      · exact I0 b o e (List.mem_singleton.mp z)
  · rintro i k s1 s' ⟨t, L, o, c, tk0, rfl, hi, n1, n2, ho, hc, hd⟩ m
    refine ⟨t, L, o, c, tk0, rfl, hi, n1, n2, m.heap t o (fun hb => ?_) ho, hc, hd⟩
    rcases List.mem_cons.mp hb with z | z
    · exact n1 z
    · exact n2 (List.mem_singleton.mp z)
  · rintro i v s1 o Q' E' hi hP ⟨h, tk, rfl, kp⟩ st hS hq
    obtain ⟨L, oL, us, n, rfl, _⟩ := hit i v hP
    refine wpAny_mono (hcall i L h tk hP kp) ?_ fun _ _ z => z.elim
    rintro k s' ⟨t, h', tk', ot, c, tk0, rfl, rfl, kp', ht, hot, hct, hdt⟩
    obtain ⟨⟨oI, eI, cI, dI⟩, st2⟩ := st
    refine hq _ _ ⟨_, _, rfl, fun b o e => kp' b o (kp b o e)⟩ ⟨⟨oI, kp' _ _ eI, cI, dI⟩, st2.at fun o e => kp' _ _ e⟩ (kp' _ _ hS) ⟨t, L, ot, c, tk0, rfl, hP, ?_, ?_, hot, hct, hdt⟩ ?_
    · rintro rfl
      have : h.get? S = some o := hS
      rw [ht] at this; cases this
    · rintro rfl
      have : h.get? s.heap.objs.size = some oI := eI
      rw [ht] at this; cases this
    · rintro j k' ⟨t2, L2, o2, c2, tk2, rfl, hj, n1, n2, e, r⟩
      exact ⟨t2, L2, o2, c2, tk2, rfl, hj, n1, n2, kp' _ _ e, r⟩
  · rintro i j ki kj s1 Q' E' ⟨h, tk, rfl, kp⟩ ⟨t, L, o, c, tk0, rfl, hi, _, _, ho, hc, hd⟩ ⟨t2, L2, o2, c2, tk2, rfl, hj, _, _, ho2, hc2, hd2⟩ hq
    have rd : ∀ {i t L o c tk0}, its[i]? = some (.ref L) → h.get? t = some o → o.cls = .type "tuple" → o.data = .seq #[.int (kss.getD i []).length tk0, .ref L] c → ∃ as, Reads h (.ref t) (nmD (kss.getD i [])) as := by
      intro i t L o c tk0 hi ho hc hd
      obtain ⟨L', oL, us, n, e, e1, e2, e3, e4, _⟩ := hit i _ hi
      cases e
      exact ⟨_, .tuple ho hc hd (.cons (.int _ _) (.cons (.list (kp _ _ e1) e2 e3 (ReadsAll.keeps kp e4)) .nil))⟩
    obtain ⟨as, r1⟩ := rd hi ho hc hd
    obtain ⟨bs, r2⟩ := rd hj ho2 hc2 hd2
    refine rcLt_alike _ _ A.in1 { s with heap := h, toks := tk } _ _ _ _ r1 r2 (alike_nm _ _) (fun z => nomatch z) ?_ prog w E' Q' hq
    have := Nat.min_le_left (nmD (kss.getD i [])).depth (nmD (kss.getD j [])).depth
    have := depth_nm (kss.getD i [])
    omega
  · rintro v s' hP ⟨h, tk, rfl, kp⟩
    exact hQ v h tk hP kp
end
end DLm
set_option maxHeartbeats 4000000
set_option exponentiation.threshold 50000
/-! min by a key (len(x), x) -/
namespace DL
open PySem PySem.Spec PyProof.Rows L2
variable [Tb]
def namD (ks : List Str) : D := .lst .f (ks.map D.str)
/-- the first of the least -/
def bestN : List (List Str) → List Str
  | [] => []
  | x :: r => r.foldl (fun a y => if PySem.W.dataLt (DLm.nmD y) (DLm.nmD a) then y else a) x
def minKD : D1
  | .lst _ xs, Q => ∃ kss : List (List Str), kss ≠ [] ∧ xs = kss.map namD ∧ Q (namD (bestN kss))
  | _, _ => False
theorem pfs_nam : ∀ kss : List (List Str), D.pfs (kss.map namD) = true
  | [] => rfl
  | k :: kss => by
    have : D.pfs (k.map D.str) = true := by
      induction k with
      | nil => rfl
      | cons a k ih => exact ih
    simp only [List.map_cons, D.pfs, namD, D.pf, this, Bool.and_self, Bool.true_and]
    exact pfs_nam kss
theorem readsAll_strs {h : Heap} : ∀ {ks : List Str} {us : List Value}, Vals (ks.map V.str) us → ReadsAll h us (ks.map PyData.str) []
  | [], _, .nil => .nil
  | k :: ks, _, .cons r t => by
    obtain ⟨tk, rfl⟩ := r
    exact .cons (as := []) (bs := []) (.str _ _) (readsAll_strs t)
section
variable {X : Cx} {e body : Expr} {params : Arguments} {scope : Scope} {x : Str} {p pos lpos kpos : Pos} {te : DT} {k : Nat}
theorem pd_minK (d : Gd X k) (hl : LamAt X) (hm : X.mg "min" = none) (hm2 : X.mg "len" = none) (ha : PD X e te) (hdef : defaultsOf params X.env = ([], [])) (sk : scope.kind = .function) (sc : scope.isCoroutine = false) (sg : scope.isGenerator = false) (sn : scope.names = [(x, .local), ("len", .globalImplicit)])
    (hbind : ∀ (q : Str) (pm cv ctv v : Value), bindArgs (PySem.W.kla_fn "<lambda>" q params body scope [] pm cv ctv) ⟨[v], []⟩ = pure [(x, v)]) (hdb : (x == ("__debug__" : Str)) = false) (hxl : (("len" : Str) == x) = false) (hb : DLm.lenkey x body) (hg : Gl X "min" := by rfl)
    (he : backTo pos (starEach [e] X.env) = (false, eval e X.env) :: backTo pos (starEach [] X.env) := by rfl) (hs : starEach [e] X.env = (false, eval e X.env) :: starEach [] X.env := by rfl) (hpl : (backTo pos (starEach [e] X.env)).any (·.1) = false := by rfl)
    (hall : (backToKw pos (keywordEach [⟨some "key", .Lambda params body scope lpos, kpos⟩] X.env)).all (·.1.isSome) = true := by rfl) (hnone : (backToKw pos (keywordEach [⟨some "key", .Lambda params body scope lpos, kpos⟩] X.env)).any (·.1.isNone) = false := by rfl)
    (hks : (backToKw pos (keywordEach [⟨some "key", .Lambda params body scope lpos, kpos⟩] X.env)).filterMap (·.1) = [Str.ofString "key"] := by rfl) :
    PD X (.Call (.Name "min" p) [e] [⟨some "key", .Lambda params body scope lpos, kpos⟩] pos) (dUn (o1 minKD) te) := by
  refine ⟨fun pins s σ H Q I h => ?_⟩
  have h0 := lift_un h
  obtain ⟨c, T, TB, hcode, hmT, hu⟩ := hl.ex
  refine wpAny_Call_Name_kw (ld_blt I hg hm boot_min ?_)
  refine PyProof.Rows.callWith_kw (thn ((one_arg ha hs).run pos pins s σ H (fun us H1 => ∃ v, us = [v] ∧ rC X.K (o1 minKD) [v] H1 Q) I ?_) fun us s1 q => ?_) he hpl hall hnone
  · obtain ⟨P0, M0, B0, ρ, Q0, a1, a2, a3, a4⟩ := h0
    exact ⟨P0, M0, B0, ρ, Q0, a1, a2, a3, fun v H' r => ⟨v, rfl, a4 v H' r⟩⟩
  obtain ⟨vs, H1, I1, r1, v, rfl, q⟩ := q
  rw [hks]
  refine to1 q fun P M B v' dd L Q0 ev A r qq k => ?_
  injection ev with ev _
  subst ev
  have T1 := A.stt.tabs
  show wpAny _ _ (evalAll [(do let v ← eval (.Lambda params body scope lpos) X.env; standAt pos; pure v)]) _ _ _
  refine wpAny_evalAll_cons (wpAny_bind (lam_makeD (N := []) I1 TB hcode hmT hu T1 hdef (fun y hy => by
    rw [sn] at hy
    rcases List.mem_cons.mp hy with z | z
    · rw [z]; exact .inl rfl
    · rw [List.mem_singleton.mp z]; exact .inr rfl) fun f c' pm ctv H2 s2 I2 g0 hn hf hfn hco => wpAny_bind (wpAny_standAt (wpAny_pure (wpAny_evalAll_nil ?_)))))
  show wpAny _ _ (call (.builtin "min") us [(Str.ofString "key", .ref f)]) _ _ _
  have g : Gr P.as H1 H2 := g0.sub fun b z => nomatch z
  have p2 := pens_tab A.stt.pens g0
  have s2' := A.stt.keep g p2
  have r2 := Rep.gr g A.stt.lists (fun _ z => .inl z) (fun _ z => .inl z) r
  obtain ⟨u, rfl, ru⟩ := vals1 r1
  cases dd with
  | lst kf xs =>
    obtain ⟨a, vs, L', rfl, h1, rr, c0⟩ := r2.lst_inv
    obtain ⟨kss, q1, q2, q3⟩ : ∃ kss : List (List Str), kss ≠ [] ∧ xs = kss.map namD ∧ Q0 (namD (bestN kss)) := qq
    subst q2
    obtain ⟨el, rr⟩ := rr.pf (pfs_nam kss)
    subst el
    cases ru
    obtain ⟨its, rv, pl, hz⟩ := I2.list h1
    have len : its.length = kss.length := by
      have e3 : its.length = vs.length := rv.length.symm
      have e4 := rr.len
      rw [List.length_map] at e4
      omega
    have at_ : ∀ i v, its[i]? = some v → ∃ (w : Addr) (b : V), vs[i]? = some b ∧ b = .ref w ∧ v = .ref w ∧ i < kss.length ∧ Rep X.K P (L ++ M) (L ++ B) H2 (.ref w) (namD (kss.getD i [])) [] := by
      intro i v e
      have hi : i < its.length := (List.getElem?_eq_some_iff.mp e).1
      have hk : i < kss.length := by omega
      have e5 : (kss.map namD)[i]? = some (namD (kss.getD i [])) := by
        rw [List.getElem?_map, List.getElem?_eq_getElem hk, List.getD_eq_getElem?_getD, List.getElem?_eq_getElem hk]; rfl
      obtain ⟨b, L1, eb, q, s⟩ := rr.get e5
      have : L1 = [] := by
        cases L1 with
        | nil => rfl
        | cons a _ => exact nomatch s a (List.mem_cons_self ..)
      subst this
      obtain ⟨w, vw, L2, rfl, _⟩ := q.lst_inv
      obtain ⟨u2, e6, r6⟩ := rv.get eb
      rw [e] at e6
      cases e6
      cases r6
      exact ⟨w, _, eb, rfl, rfl, hk, q⟩
    have room := d.room
    have hgl := I2.mod.glob.keeps I2.bk
    obtain ⟨mb, hb1, hb2⟩ := I2.mod.blt
    have hbl := hb1.keeps I2.bk
    have hne : 0 < kss.length := List.length_pos_iff.mpr q1
    refine DLm.min_names (kss := kss) (I2.ok.hd d.calm) ?_ pl.isList (by rw [List.size_toArray, len]; exact hne) (fun i v e => ?_) (fun i w h tk e kp => ?_) fun v h tk e kp => ?_
    · have := d.u
      show X.A.units + 1 + 10 < cLine
      omega
    · obtain ⟨w, b, _, _, rfl, hk, q⟩ := at_ i v (by simpa using e)
      obtain ⟨a2, vs2, L2, ea, h2, r2', _⟩ := q.lst_inv
      cases ea
      obtain ⟨us, rv2, pl2, hz2⟩ := I2.list h2
      obtain ⟨o, ho, hc, n, hd⟩ := pl2.isList
      have ev := reps_strs r2'
      rw [ev] at rv2
      refine ⟨w, o, us.toArray, n, rfl, ho, hc, hd, readsAll_strs rv2, ?_⟩
      rw [List.size_toArray, ← rv2.length, List.length_map]
    · obtain ⟨w2, b, _, _, ew, hk, q⟩ := at_ i _ (by simpa using e)
      cases ew
      obtain ⟨a2, vs2, L2, ea, h2, r2', _⟩ := q.lst_inv
      cases ea
      obtain ⟨us, rv2, pl2, hz2⟩ := I2.list h2
      have ev := reps_strs r2'
      rw [ev] at rv2
      have lus : us.length = (kss.getD i []).length := by rw [← rv2.length, List.length_map]
      have hz3 : us.length ≤ sizeLine := by rw [← rv2.length, ← ev]; exact hz2
      obtain ⟨oc, vs1, t1, e1, e2, e3⟩ := hco
      refine DLm.lam1_call (x := x) (s := { s2 with heap := h, toks := tk }) (f := f) (c' := c') ?_ (kp _ _ hf) ⟨oc, vs1, t1, kp _ _ e1, e2, e3⟩ sk sc sg sn (fun y hy => by rw [List.mem_singleton.mp hy]) (hbind _ _ _ _ _) (I2.nolimit.keeps kp) fun L0 h₁ tk1 kp1 hns => ?_
      · have := room.dp
        show X.A.depth + 0 < recursionLimit
        omega
      refine DLm.lenkey_ok (s := { s2 with heap := h₁, toks := tk1 }) (x := x) (its := us.toArray) (mg := X.mg) (mb := mb) sk ?_ ?_ hns ?_ hdb ((hgl.keeps kp).keeps kp1) hm2 ((hbl.keeps kp).keeps kp1) (hb2 "len" (by decide)) (by
        obtain ⟨oL, eL, cL, nL, dL⟩ := pl2.isList
        exact ⟨oL, kp1 _ _ (kp _ _ eL), cL, nL, dL⟩) (by rw [List.size_toArray]; exact hz3) hb fun tk2 => ?_
      · show scope.names.lookup x = some .local
        rw [sn]; simp [List.lookup]
      · show scope.names.lookup ("len" : Str) = some NameKind.globalImplicit
        rw [sn]; simp [List.lookup, hxl]
      · simp [List.lookup]
      · have nb : h.get? h₁.objs.size = none := by
          cases e : h.get? h₁.objs.size with
          | none => rfl
          | some o =>
            have := kp1 _ _ e
            rw [Heap.get?_none_of_le (Nat.le_refl _)] at this
            cases this
        refine ⟨_, _, _, _, 0, tk2, rfl, rfl, fun b o e => Heap.get?_push_of_some _ (kp1 b o e), nb, Heap.get?_push_size _ rfl, rfl, ?_⟩
        rw [List.size_toArray, lus]
    · have hv : bestN kss = kss.getD (argBest (fun i j => PySem.W.dataLt (DLm.nmD (kss.getD i [])) (DLm.nmD (kss.getD j []))) (its.toArray.size - 1)) [] := by
        cases kss with
        | nil => exact absurd rfl q1
        | cons y zs =>
          have := (PySem.W.argBest_fold (fun a b => PySem.W.dataLt (DLm.nmD a) (DLm.nmD b)) [] y zs zs.length (Nat.le_refl _)).2
          rw [List.take_length] at this
          rw [List.size_toArray, len, List.length_cons, Nat.add_sub_cancel]
          exact this.symm
      rw [List.getElem?_toArray] at e
      obtain ⟨w, b, _, _, rfl, hk, q⟩ := at_ _ v e
      rw [← hv] at q
      have I3 : Inv X pins σ H2 { s2 with heap := h, toks := tk } := I2.kept fun b o e => kp b o e
      have A2 : Args X.K P M B H2 [.ref a] [.lst kf (kss.map namD)] L := ⟨s2', by
        have := Reps.cons r2 .nil
        rw [List.append_nil] at this
        exact this, A.nd, A.sub, A.out⟩
      refine ⟨.ref w, H2, I3, rfl, k _ _ ?_⟩
      obtain ⟨c5, Lr, q5, g5, p5, r5, n5, f5⟩ := A2.elem (Q0 := Q0) q (fun _ z => nomatch z) List.nodup_nil q3
      exact ⟨c5, Lr, q5, g.trans g5, p5, r5, n5, fun b z => (f5 b z).elim (fun w => .inl (g.nil p2 w)) .inr⟩
  | _ => exact qq.elim
end
end DL
set_option maxHeartbeats 4000000
set_option exponentiation.threshold 50000
/-! sum(xs, start=0), max(xs, default=0), min(xs, default=0) -/
namespace DLm
open PySem PySem.Calls PySem.W PyProof.Rows
theorem args_sum_start (a v : Value) : argsOk "sum" ⟨[a], [(Str.ofString "start", v)]⟩ := by unfold argsOk; kernel_rfl
section
variable {prog : Program} {w : World} {A : Around} {E : Value → Shared → Prop} {s : Shared}
theorem sum_start0 {x : Value} {t0 : Tok} {Q : Value → Shared → Prop}
    (h : wpAny (model prog w) A.in1 (pyIter x) (fun it s₂ => ∃ I fp wr n P St val, it = .ref I ∧ Walks prog w A.in1 I fp wr n P St ∧ St 0 s₂.heap ∧ (∀ b ∈ fp, b < s₂.heap.objs.size) ∧
      (∀ i v, P i v → ∃ t, v = .int (val i) t) ∧
      ∀ h' tk t', (∀ b o, b ∉ wr → s₂.heap.get? b = some o → h'.get? b = some o) → Q (.int (preSum val n) t') { s₂ with heap := h', toks := tk }) E s) :
    wpAny (model prog w) A (call (.builtin "sum") [x] [(Str.ofString "start", .int 0 t0)]) Q E s := by
  refine kmk_tree F.kind_sum F.plain_sum F.entry_sum (args_sum_start _ _) ?_
  unfold Builtin.«sum»
  simp only [List.length_cons, List.length_nil]
  rw [if_neg (by decide)]
  refine wpAny_bind (wpAny_of_eq (show Builtin.Builtins.bindParams "sum" ["start"] 0 ⟨[], [(Str.ofString "start", .int 0 t0)]⟩ = pure [some (.int 0 t0)] from rfl) ?_)
  refine wpAny_bind (wpAny_mono h (fun it s₂ h₂ => ?_) fun _ _ e => e)
  obtain ⟨I, fp, wr, n, P, St, val, rfl, W, hst, hfp, hval, hQ⟩ := h₂
  show wpAny _ _ (rule "sum.start-copied" >>= fun _ => _) _ _ _
  refine wpAny_bind (wpAny_rule ?_)
  refine wpAny_bind (wpAny_mkInt ?_)
  refine wpAny_bind (wpAny_pure ?_)
  simp only [List.forIn_cons, List.forIn_nil]
  refine wpAny_bind (wpAny_bind (wpAny_bind (wpAny_isInstance (T := "int") (b := false) (typeIs_int _ _ _) PySem.sub_int_str ?_)))
  simp only [Bool.false_eq_true, if_false]
  refine wpAny_pure (wpAny_bind (wpAny_bind (wpAny_isInstance (T := "int") (b := false) (typeIs_int _ _ _) PySem.sub_int_bytes ?_)))
  simp only [Bool.false_eq_true, if_false]
  refine wpAny_pure (wpAny_bind (wpAny_bind (wpAny_isInstance (T := "int") (b := false) (typeIs_int _ _ _) PySem.sub_int_bytearray ?_)))
  simp only [Bool.false_eq_true, if_false]
  refine wpAny_pure (wpAny_pure ?_)
  refine wpAny_bind (wpAny_newObj_type ?_)
  have hSf : s₂.heap.objs.size ∉ fp := fun hm => Nat.lt_irrefl _ (hfp _ hm)
  refine wpAny_pure ⟨plainId_quiet F.plain_sum_loop _, codeAny_sum_loopG W val hval s₂.heap.objs.size hSf n 0 _ s₂.toks 0 0 (Or.inl rfl) rfl (Nat.zero_le _)
    (W.frame _ _ _ hst fun b _ o e => Heap.get?_push_of_some _ e) (Heap.get?_push_size _ rfl) fun h' tk t' hk => ?_⟩
  exact hQ h' tk t' fun b o hbw e => hk b o hbw (Nat.ne_of_lt (Heap.lt_size e)) (Heap.get?_push_of_some _ e)
theorem sum0_raw {l : Addr} {its : List Value} {ns : List Int} {t0 : Tok} {Q : Value → Shared → Prop} (hh : A.handled = none) (hl : s.heap.IsList l its.toArray) (hi : IntsAre its ns)
    (h : ∀ h' tk t', (∀ b o, s.heap.get? b = some o → h'.get? b = some o) → Q (.int ns.sum t') { s with heap := h', toks := tk }) : wpAny (model prog w) A (call (.builtin "sum") [.ref l] [(Str.ofString "start", .int 0 t0)]) Q E s := by
  obtain ⟨xs, e⟩ := hi.allInts.items
  have hn : numsOf (intItems xs).toList = ns := by rw [← e]; exact hi.numsOf
  rw [nums_intItems] at hn
  rw [e] at hl
  refine sum_start0 (iter_intList hl fun s₂ e st hfp hlI => ?_)
  subst e
  refine ⟨_, _, _, _, _, _, numAt xs, rfl, Walks.list (A := A.in1) hh _ l hlI (intItems xs), st, hfp, (fun _ _ => intItems_at), fun h' tk t' hk => ?_⟩
  have := h h' tk t' (old_kept hk)
  rw [← hn] at this
  have e2 : (intItems xs).size = xs.size := by simp [intItems]
  rw [e2, preSum_eq, List.take_of_length_le (by simp)]
  exact this
end
theorem foldl_max_mem : ∀ (ns : List Int) (n : Int), ns.foldl max n ∈ n :: ns ∧ ∀ y ∈ n :: ns, y ≤ ns.foldl max n
  | [], n => ⟨List.mem_cons_self .., fun y hy => by
    rw [List.mem_singleton.mp hy]
    exact Int.le_refl _⟩
  | k :: r, n => by
    obtain ⟨h1, h2⟩ := foldl_max_mem r (max n k)
    refine ⟨?_, fun y hy => ?_⟩
    · rcases List.mem_cons.mp h1 with z | z
      · rw [List.foldl_cons, z]
        rcases Int.le_total n k with q | q
        · rw [Int.max_eq_right q]; simp
        · rw [Int.max_eq_left q]; simp
      · exact List.mem_cons_of_mem _ (List.mem_cons_of_mem _ z)
    · have h0 := h2 (max n k) (List.mem_cons_self ..)
      rcases List.mem_cons.mp hy with z | z
      · rw [List.foldl_cons, z]; omega
      · rcases List.mem_cons.mp z with z | z
        · rw [List.foldl_cons, z]; omega
        · exact h2 y (List.mem_cons_of_mem _ z)
theorem foldl_min_mem : ∀ (ns : List Int) (n : Int), ns.foldl min n ∈ n :: ns ∧ ∀ y ∈ n :: ns, ns.foldl min n ≤ y
  | [], n => ⟨List.mem_cons_self .., fun y hy => by
    rw [List.mem_singleton.mp hy]
    exact Int.le_refl _⟩
  | k :: r, n => by
    obtain ⟨h1, h2⟩ := foldl_min_mem r (min n k)
    refine ⟨?_, fun y hy => ?_⟩
    · rcases List.mem_cons.mp h1 with z | z
      · rw [List.foldl_cons, z]
        rcases Int.le_total n k with q | q
        · rw [Int.min_eq_left q]; simp
        · rw [Int.min_eq_right q]; simp
      · exact List.mem_cons_of_mem _ (List.mem_cons_of_mem _ z)
    · have h0 := h2 (min n k) (List.mem_cons_self ..)
      rcases List.mem_cons.mp hy with z | z
      · rw [List.foldl_cons, z]; omega
      · rcases List.mem_cons.mp z with z | z
        · rw [List.foldl_cons, z]; omega
        · exact h2 y (List.mem_cons_of_mem _ z)
theorem alikeInts (ns : List Int) : AlikeAll (ns.map PyData.int) := ⟨fun x hx y hy => by
  obtain ⟨a, _, rfl⟩ := List.mem_map.mp hx
  obtain ⟨b, _, rfl⟩ := List.mem_map.mp hy
  rfl, fun x hx => by
  obtain ⟨a, _, rfl⟩ := List.mem_map.mp hx
  exact fun z => nomatch z⟩
theorem depth_ints : ∀ ns : List Int, PyData.depthAll (ns.map PyData.int) ≤ 1
  | [] => Nat.zero_le _
  | x :: xs => Nat.max_le.mpr ⟨by simp [PyData.depth], depth_ints xs⟩
section
variable {prog : Program} {w : World} {A : Around} {E : Value → Shared → Prop} {s : Shared} {l : Addr} {its : List Value} {ns : List Int} {t0 : Tok} {Q : Value → Shared → Prop}
theorem max0_raw (hh : A.handled = none) (hu : A.units + 5 < cLine) (hl : s.heap.IsList l its.toArray) (hi : ReadsAll s.heap its (ns.map PyData.int) [])
    (h0 : ns = [] → ∀ h' tk, (∀ b o, s.heap.get? b = some o → h'.get? b = some o) → Q (.int 0 t0) { s with heap := h', toks := tk })
    (h : ∀ m t h' tk, m ∈ ns → (∀ y ∈ ns, y ≤ m) → (∀ b o, s.heap.get? b = some o → h'.get? b = some o) → Q (.int m t) { s with heap := h', toks := tk }) : wpAny (model prog w) A (call (.builtin "max") [.ref l] [(Str.ofString "default", .int 0 t0)]) Q E s := by
  have := depth_ints ns
  refine max_list_default hh hl hi (alikeInts ns) (by omega) (fun e => h0 (List.map_eq_nil_iff.mp e)) fun y ys i v h' tk bs e hv r k => ?_
  cases ns with
  | nil => cases e
  | cons n r' =>
    injection e with e1 e2
    subst e1 e2
    rw [maxD_ints] at r
    cases r
    obtain ⟨a, b⟩ := foldl_max_mem r' n
    exact h _ _ _ _ a b k
theorem min0_raw (hh : A.handled = none) (hu : A.units + 5 < cLine) (hl : s.heap.IsList l its.toArray) (hi : ReadsAll s.heap its (ns.map PyData.int) [])
    (h0 : ns = [] → ∀ h' tk, (∀ b o, s.heap.get? b = some o → h'.get? b = some o) → Q (.int 0 t0) { s with heap := h', toks := tk })
    (h : ∀ m t h' tk, m ∈ ns → (∀ y ∈ ns, m ≤ y) → (∀ b o, s.heap.get? b = some o → h'.get? b = some o) → Q (.int m t) { s with heap := h', toks := tk }) : wpAny (model prog w) A (call (.builtin "min") [.ref l] [(Str.ofString "default", .int 0 t0)]) Q E s := by
  have := depth_ints ns
  refine min_list_default hh hl hi (alikeInts ns) (by omega) (fun e => h0 (List.map_eq_nil_iff.mp e)) fun y ys i v h' tk bs e hv r k => ?_
  cases ns with
  | nil => cases e
  | cons n r' =>
    injection e with e1 e2
    subst e1 e2
    rw [minD_ints] at r
    cases r
    obtain ⟨a, b⟩ := foldl_min_mem r' n
    exact h _ _ _ _ a b k
end
end DLm
namespace DL
open PySem PySem.Spec PyProof.Rows L2
variable [Tb]
theorem readsAll_ints {h : Heap} : ∀ {ks : List Int} {us : List Value}, Vals (ks.map V.int) us → ReadsAll h us (ks.map PyData.int) []
  | [], _, .nil => .nil
  | k :: ks, _, .cons r t => by
    obtain ⟨tk, rfl⟩ := r
    exact .cons (as := []) (bs := []) (.int _ _) (readsAll_ints t)
def max0D : D1
  | .lst _ xs, Q => (match intsD xs with | some ns => (ns = [] → Q (.int 0)) ∧ ∀ m, m ∈ ns → (∀ y, y ∈ ns → y ≤ m) → Q (.int m) | none => False)
  | _, _ => False
def min0D : D1
  | .lst _ xs, Q => (match intsD xs with | some ns => (ns = [] → Q (.int 0)) ∧ ∀ m, m ∈ ns → (∀ y, y ∈ ns → m ≤ y) → Q (.int m) | none => False)
  | _, _ => False
/-- a built-in called with one thing and a keyword, nought -/
def Kw0 (X : Cx) (f : String) (kw : Str) (D : D1) : Prop := ∀ (pins : List (Addr × Obj)) (s : Shared) (σ : L2.St) (H : Hp) (vs : List V) (us : List Value) (Q : VK) (t0 : Tok), Inv X pins σ H s → Vals vs us → rC X.K (o1 D) vs H Q → wpAny (model X.prog X.w) X.A (call (.builtin f) us [(kw, .int 0 t0)]) (EP X pins σ Q) X.xe s
section
variable {X : Cx} {e : Expr} {p pos cp kpos : Pos} {te : DT} {k j : Nat} {f : String} {kw : Str} {D : D1}
theorem pd_kw0 (cr : Kw0 X f kw D) (hm : X.mg (Str.ofString f) = none) (ha : PD X e te) (hbt : bootBuiltins (Str.ofString f) = some (.builtin f)) (hg : Gl X (Str.ofString f) := by rfl)
    (he : backTo pos (starEach [e] X.env) = (false, eval e X.env) :: backTo pos (starEach [] X.env) := by rfl) (hs : starEach [e] X.env = (false, eval e X.env) :: starEach [] X.env := by rfl) (hpl : (backTo pos (starEach [e] X.env)).any (·.1) = false := by rfl)
    (hall : (backToKw pos (keywordEach [⟨some kw, .Constant (.int 0) j cp, kpos⟩] X.env)).all (·.1.isSome) = true := by rfl) (hnone : (backToKw pos (keywordEach [⟨some kw, .Constant (.int 0) j cp, kpos⟩] X.env)).any (·.1.isNone) = false := by rfl)
    (hks : (backToKw pos (keywordEach [⟨some kw, .Constant (.int 0) j cp, kpos⟩] X.env)).filterMap (·.1) = [kw] := by rfl) (hn : (Str.ofString f) ≠ "__name__" := by decide) (hd : ((Str.ofString f) == ("__debug__" : Str)) = false := by decide) :
    PD X (.Call (.Name (Str.ofString f) p) [e] [⟨some kw, .Constant (.int 0) j cp, kpos⟩] pos) (dUn (o1 D) te) := by
  refine ⟨fun pins s σ H Q I h => ?_⟩
  have h0 := lift_un h
  refine wpAny_Call_Name_kw (ld_blt I hg hm hbt ?_ hn hd)
  refine PyProof.Rows.callWith_kw (thn ((one_arg ha hs).run pos pins s σ H (fun us H1 => ∃ v, us = [v] ∧ rC X.K (o1 D) [v] H1 Q) I ?_) fun us s1 q => ?_) he hpl hall hnone
  · obtain ⟨P0, M0, B0, ρ, Q0, a1, a2, a3, a4⟩ := h0
    exact ⟨P0, M0, B0, ρ, Q0, a1, a2, a3, fun v H' r => ⟨v, rfl, a4 v H' r⟩⟩
  obtain ⟨vs, H1, I1, r1, v, rfl, q⟩ := q
  rw [hks]
  show wpAny _ _ (evalAll [(do let v ← eval (.Constant (.int 0) j cp) X.env; standAt pos; pure v)]) _ _ _
  refine wpAny_evalAll_cons (wpAny_bind (wpAny_Constant_int (wpAny_bind (wpAny_standAt (wpAny_pure (wpAny_evalAll_nil ?_))))))
  exact cr pins _ σ H1 [v] us Q s1.toks (I1.tok _) r1 q
theorem kw_sum (hc : X.calm = true) : Kw0 X "sum" "start" sumD := fun pins s σ H vs us Q t0 I r h => by
  refine to1 h fun P M B v d L Q0 e A r1 q k => ?_
  subst e
  unfold sumD at q
  split at q
  · obtain ⟨a, vs, L', rfl, h1, rr, _⟩ := r1.lst_inv
    split at q
    · rename_i bs e
      rw [ints_of rr e] at h1
      obtain ⟨its, rv, hl, _⟩ := I.list h1
      rw [Vals.ref1 r]
      exact DLm.sum0_raw (I.ok.hd hc) hl.isList rv.ints fun h' tk t' hk => ⟨.int _, H, I.kept hk, ⟨_, rfl⟩, k _ _ (A.plain (fun {_} => .int) q)⟩
    · exact q.elim
  · exact q.elim
theorem kw_max (d : Gd X k) : Kw0 X "max" "default" max0D := fun pins s σ H vs us Q t0 I r h => by
  refine to1 h fun P M B v dd L Q0 e A r1 q k => ?_
  subst e
  unfold max0D at q
  split at q
  · obtain ⟨a, vs, L', rfl, h1, rr, _⟩ := r1.lst_inv
    split at q
    · rename_i bs e
      rw [ints_of rr e] at h1
      obtain ⟨its, rv, hl, _⟩ := I.list h1
      rw [Vals.ref1 r]
      have := d.u
      exact DLm.max0_raw (I.ok.hd d.calm) (by omega) hl.isList (readsAll_ints rv) (fun z h' tk hk => ⟨.int _, H, I.kept hk, ⟨_, rfl⟩, k _ _ (A.plain (fun {_} => .int) (q.1 z))⟩) fun m t h' tk h1 h2 hk => ⟨.int _, H, I.kept hk, ⟨_, rfl⟩, k _ _ (A.plain (fun {_} => .int) (q.2 m h1 h2))⟩
    · exact q.elim
  · exact q.elim
theorem kw_min (d : Gd X k) : Kw0 X "min" "default" min0D := fun pins s σ H vs us Q t0 I r h => by
  refine to1 h fun P M B v dd L Q0 e A r1 q k => ?_
  subst e
  unfold min0D at q
  split at q
  · obtain ⟨a, vs, L', rfl, h1, rr, _⟩ := r1.lst_inv
    split at q
    · rename_i bs e
      rw [ints_of rr e] at h1
      obtain ⟨its, rv, hl, _⟩ := I.list h1
      rw [Vals.ref1 r]
      have := d.u
      exact DLm.min0_raw (I.ok.hd d.calm) (by omega) hl.isList (readsAll_ints rv) (fun z h' tk hk => ⟨.int _, H, I.kept hk, ⟨_, rfl⟩, k _ _ (A.plain (fun {_} => .int) (q.1 z))⟩) fun m t h' tk h1 h2 hk => ⟨.int _, H, I.kept hk, ⟨_, rfl⟩, k _ _ (A.plain (fun {_} => .int) (q.2 m h1 h2))⟩
    · exact q.elim
  · exact q.elim
end
end DL
set_option maxHeartbeats 4000000
set_option exponentiation.threshold 50000
namespace DL
open PySem PySem.Spec PyProof.Rows L2
variable [Tb]
/-! ### the first of the least, by (len(names), names) -/
def ltNm (a b : List OkS) : Bool := ltT2 ltI (ltL ltS) ((a.length : Int), a) ((b.length : Int), b)
def bestS : List (List OkS) → List OkS
  | [] => []
  | x :: r => r.foldl (fun a y => if ltNm y a then y else a) x
theorem nm_lt (a b : List OkS) : PySem.W.dataLt (DLm.nmD (a.map (·.1))) (DLm.nmD (b.map (·.1))) = ltNm a b := by
  have h := OrdT.h (e := eT2 eI (eL .f eS)) (lt := ltT2 ltI (ltL ltS)) ((a.length : Int), a) ((b.length : Int), b) [] []
  rw [List.append_nil, List.append_nil] at h
  have e : ∀ a : List OkS, (eT2 eI (eL .f eS) ((a.length : Int), a)).py = DLm.nmD (a.map (·.1)) := fun a => by
    have : D.pys (a.map eS) = (a.map (·.1)).map PyData.str := by
      induction a with
      | nil => rfl
      | cons x a ih => show PyData.str x.1 :: D.pys (a.map eS) = _; rw [ih]; rfl
    show PyData.tuple [.int a.length, .list (D.pys (a.map eS))] = _
    rw [this]
    show _ = PyData.tuple [.int (a.map (·.1)).length, _]
    rw [List.length_map]
  show lexD (PySem.W.keyToks _) (PySem.W.keyToks _) = _
  rw [← e, ← e]
  refine h.trans ?_
  show (ltNm a b || (!ltNm b a && false)) = ltNm a b
  rw [Bool.and_false, Bool.or_false]
theorem best_map : ∀ l : List (List OkS), bestN (l.map fun a => a.map (·.1)) = (bestS l).map (·.1)
  | [] => rfl
  | x :: r => by
    show (r.map _).foldl _ _ = (r.foldl _ x).map _
    induction r generalizing x with
    | nil => rfl
    | cons y r ih =>
      rw [List.map_cons, List.foldl_cons, List.foldl_cons, nm_lt]
      by_cases h : ltNm y x = true
      · rw [if_pos h, if_pos h]; exact ih y
      · rw [if_neg h, if_neg h]; exact ih x
theorem o_minK {f : Fl} {l : List (List OkS)} (h : l ≠ []) : Op (o1 minKD) [eL f (eL .f eS) l] (eL .f eS (bestS l)) := fun Q q => by
  refine ⟨l.map fun a => a.map (·.1), fun z => h (List.map_eq_nil_iff.mp z), ?_, ?_⟩
  · rw [List.map_map]
    refine List.map_congr_left fun a _ => ?_
    show D.lst .f (a.map eS) = .lst .f ((a.map (·.1)).map D.str)
    rw [List.map_map]; rfl
  · rw [best_map]
    have : namD ((bestS l).map (·.1)) = eL .f eS (bestS l) := by
      show D.lst .f (((bestS l).map (·.1)).map D.str) = D.lst .f ((bestS l).map eS)
      rw [List.map_map]; rfl
    rw [this]; exact q
/-! ### default=0 -/
def max0L : List Int → Int
  | [] => 0
  | l => maxL l
def min0L : List Int → Int
  | [] => 0
  | l => minL l
theorem o_max0 {f : Fl} {l : List Int} : Op (o1 max0D) [eL f eI l] (eI (max0L l)) := fun Q q => by
  show (match intsD (l.map eI) with | some ns => (ns = [] → Q (.int 0)) ∧ ∀ m, m ∈ ns → (∀ y, y ∈ ns → y ≤ m) → Q (.int m) | none => False)
  rw [ints_map]
  refine ⟨fun z => by subst z; exact q, fun m hm hy => ?_⟩
  cases l with
  | nil => cases hm
  | cons x r =>
    have : Op (o1 maxD) [eL f eI (x :: r)] (eI (maxL (x :: r))) := o_maxL (by simp)
    have h2 := this Q q
    have h3 : (match intsD ((x :: r).map eI) with | some ns => 0 < ns.length ∧ ∀ m, m ∈ ns → (∀ y, y ∈ ns → y ≤ m) → Q (.int m) | none => False) := h2
    rw [ints_map] at h3
    exact h3.2 m hm hy
theorem o_min0 {f : Fl} {l : List Int} : Op (o1 min0D) [eL f eI l] (eI (min0L l)) := fun Q q => by
  show (match intsD (l.map eI) with | some ns => (ns = [] → Q (.int 0)) ∧ ∀ m, m ∈ ns → (∀ y, y ∈ ns → m ≤ y) → Q (.int m) | none => False)
  rw [ints_map]
  refine ⟨fun z => by subst z; exact q, fun m hm hy => ?_⟩
  cases l with
  | nil => cases hm
  | cons x r =>
    have : Op (o1 minD) [eL f eI (x :: r)] (eI (minL (x :: r))) := o_minL (by simp)
    have h2 := this Q q
    have h3 : (match intsD ((x :: r).map eI) with | some ns => 0 < ns.length ∧ ∀ m, m ∈ ns → (∀ y, y ∈ ns → m ≤ y) → Q (.int m) | none => False) := h2
    rw [ints_map] at h3
    exact h3.2 m hm hy
/-! ### four in a row, a tuple's head put on and taken off -/
section
variable {α β γ δ : Type} {a : α → D} {b : β → D} {c : γ → D} {d : δ → D} {f : α → α → Bool} {g : β → β → Bool} {h : γ → γ → Bool} {k : δ → δ → Bool}
def ltT4 (f : α → α → Bool) (g : β → β → Bool) (h : γ → γ → Bool) (k : δ → δ → Bool) : α × β × γ × δ → α × β × γ × δ → Bool := fun p q => f p.1 q.1 || (!f q.1 p.1 && (g p.2.1 q.2.1 || (!g q.2.1 p.2.1 && (h p.2.2.1 q.2.2.1 || (!h q.2.2.1 p.2.2.1 && k p.2.2.2 q.2.2.2)))))
theorem tk_tup4 {x y z w : D} {s : List (Int ⊕ List Nat)} : tkD (.tup [x, y, z, w]) ++ s = .inl 1 :: (tkD x ++ (.inl 1 :: (tkD y ++ (.inl 1 :: (tkD z ++ (.inl 1 :: (tkD w ++ (.inl 0 :: s)))))))) := by
  show ((Sum.inl 1 :: (tkD x ++ (Sum.inl 1 :: (tkD y ++ (Sum.inl 1 :: (tkD z ++ (Sum.inl 1 :: (tkD w ++ [Sum.inl 0])))))))) ++ s : List (Int ⊕ List Nat)) = _
  simp
instance [OrdT a f] [OrdT b g] [OrdT c h] [OrdT d k] : OrdT (eT4 a b c d) (ltT4 f g h k) := ⟨fun x y s t => by
  show lexD (tkD (.tup [a x.1, b x.2.1, c x.2.2.1, d x.2.2.2]) ++ s) (tkD (.tup [a y.1, b y.2.1, c y.2.2.1, d y.2.2.2]) ++ t) = _
  rw [tk_tup4, tk_tup4, lexD_1, OrdT.h (e := a), lexD_1, OrdT.h (e := b), lexD_1, OrdT.h (e := c), lexD_1, OrdT.h (e := d), lexD_0]
  unfold ltT4
  cases f x.1 y.1 <;> cases f y.1 x.1 <;> cases g x.2.1 y.2.1 <;> cases g y.2.1 x.2.1 <;> cases h x.2.2.1 y.2.2.1 <;> cases h y.2.2.1 x.2.2.1 <;> simp, fun x y => by
  show (alikeD (a x.1) (a y.1) && (alikeD (b x.2.1) (b y.2.1) && (alikeD (c x.2.2.1) (c y.2.2.1) && (alikeD (d x.2.2.2) (d y.2.2.2) && true)))) = true
  rw [OrdT.al (e := a), OrdT.al (e := b), OrdT.al (e := c), OrdT.al (e := d)]; rfl⟩
instance : Kd1 (eT4 a b c d) := ⟨.inl fun _ => ⟨_, _, rfl⟩⟩
theorem o_add13 {x : α} {y : β × γ × δ} : Op (o2 addD) [eT1 a x, eT3 b c d y] (eT4 a b c d (x, y)) := fun Q q => ⟨by simp, by simp, show 1 + 3 ≤ sizeLine by decide, q⟩
theorem ev_tl4 {ta ti tj : DT} {ρ : Env} {x : α × β × γ × δ} (h' : Ev ta ρ (eT4 a b c d x)) (ha : EvO ti ρ (some 1)) (hb : EvO tj ρ none) : Ev (dSl ta ti tj) ρ (eT3 b c d x.2) := fun Q q => by
  obtain ⟨d1, e1, p1⟩ := ha
  obtain ⟨d2, e2, p2⟩ := hb
  refine h' _ (e1 _ (e2 _ ?_))
  show slD (eT4 a b c d x) d1 d2 Q
  unfold slD
  rw [p1, p2]
  exact ⟨fun z => absurd (show HT.sIx 4 0 (some 1) = 0 from z.1) (by decide), q⟩
end
/-! ### what is there -/
def oG {α : Type} [Inhabited α] (o : Option α) : α := o.getD default
theorem ev_O {α : Type} [Inhabited α] {e : α → D} {t : DT} {ρ : Env} {v : Option α} (h : Ev t ρ (eO e v)) (hs : v.isSome = true) : Ev t ρ (e (oG v)) := by
  cases v with
  | none => cases hs
  | some x => exact h
end DL
set_option maxHeartbeats 4000000
set_option exponentiation.threshold 50000
/-! for over one's own list, which the body (one assignment to a name) leaves alone -/
namespace DL
open PySem PySem.Spec PyProof.Rows L2
variable [Tb]
def dForO (i : Nat) (g : G) (j : Nat) (te : DT) (vs : List Nat) : DS := fun N ρ => match Env.at ρ i with
  | some (.lst .o xs) => D.pfs xs = true ∧ i ≠ j ∧ i ∉ g.slots ∧ i ∉ vs ∧ forGo g (dSeq (dAsg (.nm j) te) (dWipe vs)) N xs ρ
  | _ => False
theorem wipeE_at {ρ : Env} {i : Nat} : ∀ {vs : List Nat}, i ∉ vs → (wipeE ρ vs)[i]? = ρ[i]?
  | [], _ => rfl
  | v :: vs, h => by
    unfold wipeE
    rw [List.getElem?_set_ne (fun z => h (by rw [z]; exact List.mem_cons_self ..))]
    exact wipeE_at fun z => h (List.mem_cons_of_mem _ z)
mutual
theorem G.go_at {i : Nat} : ∀ {g : G} {d : DL.D} {ρ : Env} {N : Env → Prop}, i ∉ g.slots → G.go g d ρ N → G.go g d ρ fun ρ' => N ρ' ∧ ρ'[i]? = ρ[i]?
  | .nm j, d, ρ, N, hi, h => by
    simp only [G.go] at h ⊢
    refine ⟨h, ?_⟩
    rw [List.getElem?_set_ne]
    intro z
    exact hi (by simp [G.slots, z])
  | .tp gs, .tup ds, ρ, N, hi, h => by
    simp only [G.go] at h ⊢
    exact Gs.go_at (by simpa [G.slots] using hi) h
  | .tp gs, .non, ρ, N, _, h => by simp [G.go] at h
  | .tp gs, .bl _, ρ, N, _, h => by simp [G.go] at h
  | .tp gs, .int _, ρ, N, _, h => by simp [G.go] at h
  | .tp gs, .str _, ρ, N, _, h => by simp [G.go] at h
  | .tp gs, .pen, ρ, N, _, h => by simp [G.go] at h
  | .tp gs, .lst _ _, ρ, N, _, h => by simp [G.go] at h
theorem Gs.go_at {i : Nat} : ∀ {gs : Gs} {ds : List DL.D} {ρ : Env} {N : Env → Prop}, i ∉ gs.slots → Gs.go gs ds ρ N → Gs.go gs ds ρ fun ρ' => N ρ' ∧ ρ'[i]? = ρ[i]?
  | .nil, [], ρ, N, _, h => by
    simp only [Gs.go] at h ⊢
    exact ⟨h, trivial⟩
  | .nil, _ :: _, ρ, N, _, h => by simp [Gs.go] at h
  | .cons g gs, [], ρ, N, _, h => by simp [Gs.go] at h
  | .cons g gs, d :: ds, ρ, N, hi, h => by
    simp only [Gs.go] at h ⊢
    have h1 : i ∉ g.slots := fun z => hi (by simp [Gs.slots, z])
    have h2 : i ∉ gs.slots := fun z => hi (by simp [Gs.slots, z])
    refine G.go_mono (G.go_at h1 h) fun ρ' ⟨h', e'⟩ => ?_
    exact Gs.go_mono (Gs.go_at h2 h') fun ρ2 ⟨a, b⟩ => ⟨a, b.trans e'⟩
end
theorem Gs.go_mono' : True := trivial
section
variable {K : PySem.W.Frag} {E : Ends} {σ : Sg} {H : Hp}
theorem wipe_keep {σ σ' : Sg} {sv : List Nat} (h : wipe σ' sv = wipe σ sv) {i : Nat} (hi : i ∉ sv) : σ'[i]? = σ[i]? := by
  have a := wipe_at σ i sv
  have b := wipe_at σ' i sv
  rw [if_neg (fun z => hi z.1)] at a b
  rw [← a, ← b, h]
theorem lift_forO {i j : Nat} {g : G} {te : DT} {wv : List Nat} (h : liftS K (dForO i g j te wv) E σ H) : tFor (iAny K (tVar i)) (G.tg K g) (tAsg (lift K te) (gName j)) E σ H := by
  obtain ⟨P, M, B, ρ, N, s, sl, e, t, f⟩ := h
  unfold dForO at t
  split at t
  · rename_i xs ei
    obtain ⟨hp, hij, hig, hiv, q⟩ := t
    obtain ⟨v, L, ev, rv, _, _⟩ := sl.get (Env.at_get ei)
    cases rv with
    | @lstO a vs ds L h1 n r =>
    obtain ⟨_, r0⟩ := Reps.pf r hp
    refine ⟨_, ev, .inl ⟨a, vs, rfl, .inl (.inl h1), ?_⟩⟩
    refine ⟨fun n m σ2 H2 => n ≤ xs.length ∧ m = xs.length - n ∧ ∃ P' M' ρ', StAft P M B H P' M' H2 ∧ Stt P' M' B H2 ∧ Slots K P' M' B H2 σ2 ρ' ∧ EnvNb ρ' ∧ forGo g (dSeq (dAsg (.nm j) te) (dWipe wv)) N (xs.drop n) ρ' ∧ Env.at ρ' i = some (.lst .o xs) ∧ σ2[i]? = some (some (.ref a)),
      ⟨xs.length, Nat.zero_le _, by omega, P, M, ρ, .refl, s, sl, e, q, ei, ev⟩, ?_⟩
    rintro n m σ2 H2 ⟨hi, rfl, P', M', ρ', a2, s2, sl2, e2, q, ei2, ev2⟩
    obtain ⟨v2, L2, ev3, rv2, _, _⟩ := sl2.get (Env.at_get ei2)
    rw [ev2] at ev3
    injection ev3 with ev3
    injection ev3 with ev3
    subst ev3
    cases rv2 with
    | @lstO _ vs2 _ L2 h2 n2 r2 =>
    obtain ⟨z2, r3⟩ := Reps.pf r2 hp
    have w : Wk K P' M' B H2 xs (Itl K a) := (Src.lst (N := []) (.inl ⟨.inl h2, fun z => nomatch z⟩) (by subst z2; exact r2)).now s2.lists
    by_cases hlt : n < xs.length
    · refine .inr ⟨w.go n hlt, fun σ' H' => ∃ P' M' ρ', StAft P M B H P' M' H' ∧ Stt P' M' B H' ∧ Slots K P' M' B H' σ' ρ' ∧ EnvNb ρ' ∧ forGo g (dSeq (dAsg (.nm j) te) (dWipe wv)) N (xs.drop (n + 1)) ρ' ∧ Env.at ρ' i = some (.lst .o xs) ∧ σ'[i]? = some (some (.ref a)), fun σ' H' h' => ⟨_, by omega, hlt, rfl, h'⟩, fun x H3 y => ?_⟩
      obtain ⟨hg, d, ed, rd⟩ := w.yld n x H3 hlt y
      have g3 : Gr P'.as H2 H3 := by
        rcases hg with e | ⟨T, ys, e1, e2⟩
        · rw [e]; exact Gr.refl
        · rw [e2]; exact Gr.laid e1
      have p3 : PensOk P' M' H3 := by
        rcases hg with e | ⟨T, ys, e1, e2⟩
        · rw [e]; exact s2.pens
        · rw [e2]; exact s2.pens.laid e1
      have s3 := s2.keep g3 p3
      have a3 := a2.trans (.expr s2 g3 p3 fun _ z => .inl z)
      rw [drop_at ed] at q
      simp only [forGo] at q
      have pd : d.nb = true := D.pf_nb d (pfs_at hp ed)
      refine G.ok g.slots (g := g) (R := []) (L := []) (fun _ z => z) ((sl2.keep s2 g3).x.res fun a z => z) rd (fun _ z => nomatch z) List.nodup_nil (fun _ z => nomatch z) (G.go_nb pd e2 (G.go_at hig q)) fun ρ4 σ4 h4 sl4 wp => ?_
      obtain ⟨⟨q4, eq4⟩, nb4⟩ := h4
      have ei4 : Env.at ρ4 i = some (.lst .o xs) := by
        unfold Env.at at ei2 ⊢
        rw [eq4]; exact ei2
      have ev4 : σ4[i]? = some (some (.ref a)) := (wipe_keep wp hig).trans ev2
      refine ⟨P', M', B, ρ4, _, s3, sl4.s, q4, fun v H5 r5 => ?_⟩
      obtain ⟨c, Lr, q5, g5, p5, r5, n5, f5⟩ := r5
      have f5 : ∀ a ∈ Lr, H3 a = none := fun a z => (f5 a z).elim id fun q => nomatch q
      have s5 : Stt P' (Lr ++ M') B H5 := by
        have := s3.after g5 p5 fun a z => (Rep.own r5 a z).1
        exact ⟨p5, fun a z => in_r a (s3.sub a z), this.ls, this.tabs⟩
      have sl5 := sl4.s.after s3 g5 f5
      have a5 : StAft P' M' B H3 P' (Lr ++ M') H5 := .expr s3 g5 p5 (new_or f5)
      have slx : SlotsX K P' (Lr ++ M') B H5 σ4 ρ4 (Lr ++ []) := by
        obtain ⟨hl, F, h1, h2, h3, h4⟩ := sl5
        refine ⟨hl, F, fun i d e => ?_, fun i a z => ⟨(h2 i a z).1, fun q => (h2 i a z).2 (in_r a q)⟩, h3, h4, fun i a z q => ?_⟩
        · obtain ⟨v, e1, r⟩ := h1 i d e
          exact ⟨v, e1, Rep.sub (fun _ z => z) in_r r⟩
        · rw [nil_app] at q
          exact (h2 i a z).2 (List.mem_append_left _ q)
      have set5 := slx.set (Rep.sub (fun _ z => z) in_r r5) (fun a z => ⟨List.mem_append_left _ z, fun q => s3.trk a (s3.sub a q) (f5 a z)⟩) n5 (fun _ _ z => nomatch z) j
      refine ⟨P', Lr ++ M', wipeE (ρ4.set j (some c)) wv, a3.trans a5, s5, set5.s.wipeE wv, EnvNb.wipeE ?_ wv, (by
        have := q5.2
        simp only [G.go] at this
        exact this), ?_, ?_⟩
      · exact (G.go_nb (g := .nm j) (N := fun _ => True) q5.1 nb4 (by simp only [G.go])).2
      · unfold Env.at at ei4 ⊢
        rw [wipeE_at hiv, List.getElem?_set_ne (Ne.symm hij)]; exact ei4
      · rw [List.getElem?_set_ne (Ne.symm hij)]; exact ev4
    · have e0 : n = xs.length := by omega
      subst e0
      rw [List.drop_length] at q
      simp only [forGo] at q
      exact .inl ⟨w.stop, f.nx _ _ _ _ _ q a2 s2 sl2 e2⟩
  · exact t.elim
end
section
variable {X : Cx} {k : Nat} {tg e : Expr} {x y : Str} {p py p2 pos : Pos} {g : G} {te : DT}
theorem s_forO (i j : Nat) (vs : List Nat) (d : Gd X k) (hp : PassesOwn (model X.prog X.w) X.A X.env X.xe) (hg : PDG X tg g) (he : PD X e te)
    (hN : X.N[i]? = some x := by rfl) (hv : Vis X.env.scope x := by first | exact Or.inl rfl | exact Or.inr (Or.inl rfl) | exact Or.inr (Or.inr rfl)) (hd : (x == ("__debug__" : Str)) = false := by decide) (hcd : (x == ("__classdict__" : Str)) = false := by decide)
    (hi : X.N[j]? = some y := by rfl) (hx : Loc X.env.scope y := by first | exact Or.inl rfl | exact Or.inr rfl) (hs : swapsWith e (some (.Name y py)) p2.line X.env = pure false := by rfl) (hf : X.fn y = true ∨ X.env.scope.names.lookup y = some .local := by first | exact .inl rfl | exact .inr rfl)
    (hs2 : ∀ z, foldedSetIterable (.Name x p) X.env z = pure z := by intro _; rfl) : PDS X (.For tg (.Name x p) [.Assign [.Name y py] e p2] [] pos) (dForO i g j te vs) :=
  mPS (ps_for hp d.calm (pi_any (pv i hN hv hd hcd)) hg (pss_one (ps_set d.nd hi hx he hs hf)) hs2) fun _ _ _ h => lift_forO h
end
end DL
namespace DL
open PySem PySem.Spec PyProof.Rows L2
variable [Tb]
/-- one's own list's items -/
def dOwn (i : Nat) : DTI := fun ρ Q => match Env.at ρ i with
  | some (.lst .o xs) => D.pfs xs = true ∧ Q xs
  | _ => False
section
variable {X : Cx} {k : Nat} {tg e : Expr} {x y : Str} {p py p2 pos : Pos} {g : G} {te : DT}
theorem lift_forOwn {K : PySem.W.Frag} {E : Ends} {σ : Sg} {H : Hp} {i j : Nat} {g : G} {te : DT} {vs : List Nat} {b : DS} (hb : b = dSeq (dAsg (.nm j) te) (dWipe vs)) (hij : i ≠ j) (hig : i ∉ g.slots) (hiv : i ∉ vs) (h : liftS K (dFor (dOwn i) g b) E σ H) : liftS K (dForO i g j te vs) E σ H := by
  subst hb
  obtain ⟨P, M, B, ρ, N, s, sl, e, t, f⟩ := h
  refine ⟨P, M, B, ρ, N, s, sl, e, ?_, f⟩
  unfold dFor dOwn at t
  unfold dForO
  split at t
  · exact ⟨t.1, hij, hig, hiv, t.2⟩
  · exact t.elim
theorem s_forOwn (i j : Nat) (vs : List Nat) {b : DS} (hb : b = dSeq (dAsg (.nm j) te) (dWipe vs)) (d : Gd X k) (hp : PassesOwn (model X.prog X.w) X.A X.env X.xe) (hg : PDG X tg g) (he : PD X e te) (hij : i ≠ j := by decide) (hig : i ∉ g.slots := by decide) (hiv : i ∉ vs := by decide)
    (hN : X.N[i]? = some x := by rfl) (hv : Vis X.env.scope x := by first | exact Or.inl rfl | exact Or.inr (Or.inl rfl) | exact Or.inr (Or.inr rfl)) (hd : (x == ("__debug__" : Str)) = false := by decide) (hcd : (x == ("__classdict__" : Str)) = false := by decide)
    (hi : X.N[j]? = some y := by rfl) (hx : Loc X.env.scope y := by first | exact Or.inl rfl | exact Or.inr rfl) (hs : swapsWith e (some (.Name y py)) p2.line X.env = pure false := by rfl) (hf : X.fn y = true ∨ X.env.scope.names.lookup y = some .local := by first | exact .inl rfl | exact .inr rfl)
    (hs2 : ∀ z, foldedSetIterable (.Name x p) X.env z = pure z := by intro _; rfl) : PDS X (.For tg (.Name x p) [.Assign [.Name y py] e p2] [] pos) (dFor (dOwn i) g b) :=
  mPS (s_forO i j vs d hp hg he hN hv hd hcd hi hx hs hf hs2) fun _ _ _ h => lift_forOwn hb hij hig hiv h
end
theorem ei_own {α : Type} (i : Nat) {ρ : Env} {e : α → D} [Pf e] {l : List α} (h : Env.at ρ i = some (eL .o e l)) : EvI (dOwn i) ρ (l.map e) := fun Q q => by
  unfold dOwn
  rw [h]
  exact ⟨pfs_of _ fun x hx => by
    obtain ⟨a, _, rfl⟩ := List.mem_map.mp hx
    exact Pf.h a, q⟩
end DL
set_option maxHeartbeats 4000000
set_option exponentiation.threshold 50000
namespace DL
open PySem PySem.Spec PyProof.Rows L2
variable [Tb]
section
variable {α β γ : Type}
instance {a a' : α → D} [DecidableEq α] [EqX a a'] [NN a] [NN a'] : EqX (eO a) (eO a') := ⟨fun x y => by
  cases x with
  | none =>
    cases y with
    | none => rfl
    | some y =>
      show eqD .non (a' y) = _
      rw [NN.l]; rfl
  | some x =>
    cases y with
    | none =>
      show eqD (a x) .non = _
      rw [NN.r]; rfl
    | some y =>
      show eqD (a x) (a' y) = _
      rw [EqX.h]; exact decide_eq_decide.mpr (by simp)⟩
theorem eO_oG {e : α → D} [Inhabited α] {v : Option α} (h : v.isSome = true) : eO e v = e (oG v) := by
  cases v with
  | none => cases h
  | some x => rfl
theorem c_O {e : α → D} [Inhabited α] {v : Option α} {Q : D → Prop} (h : v.isSome = true) (q : Q (e (oG v))) : Q (eO e v) := c_eq (eO_oG h) q
/-! lists of three unlike places -/
def eH3 (k : Fl) (a : α → D) (b : β → D) (c : γ → D) : α × β × γ → D := fun p => .lst k [a p.1, b p.2.1, c p.2.2]
variable {a a' : α → D} {b b' : β → D} {c c' : γ → D}
instance [Pf a] [Pf b] [Pf c] : Pf (eH3 .f a b c) := ⟨fun x => by show (true && ((a x.1).pf && ((b x.2.1).pf && ((c x.2.2).pf && true)))) = true; rw [Pf.h, Pf.h, Pf.h]; rfl, fun x => npS (ds := [a x.1, b x.2.1, c x.2.2]) (by simp [Pf.np])⟩
instance [Nb a] [Nb b] [Nb c] : Nb (eH3 .o a b c) := ⟨fun x => nbS (ds := [a x.1, b x.2.1, c x.2.2]) (by simp [Nb.h])⟩
instance {k : Fl} [Np a] [Np b] [Np c] : Np (eH3 k a b c) := ⟨fun x => npS (ds := [a x.1, b x.2.1, c x.2.2]) (by simp [Np.h])⟩
instance [Vw a a'] [Vw b b'] [Vw c c'] : Vw (eH3 .o a b c) (eH3 .b a' b' c') := ⟨fun x => by show D.lst .b [(a x.1).vw, (b x.2.1).vw, (c x.2.2).vw] = _; rw [Vw.h (e' := a'), Vw.h (e' := b'), Vw.h (e' := c')]; rfl⟩
instance : Vw (eH3 .b a b c) (eH3 .b a b c) := ⟨fun _ => rfl⟩
instance : Vw (eH3 .f a b c) (eH3 .f a b c) := ⟨fun _ => rfl⟩
instance : Fz (eH3 .f a b c) (eH3 .f a b c) := ⟨fun _ => rfl⟩
instance [Fz a a'] [Fz b b'] [Fz c c'] : Fz (eH3 .o a b c) (eH3 .f a' b' c') := ⟨fun x => by show D.lst .f [(a x.1).fz, (b x.2.1).fz, (c x.2.2).fz] = _; rw [Fz.h (e' := a'), Fz.h (e' := b'), Fz.h (e' := c')]; rfl⟩
instance [Fz a a'] [Fz b b'] [Fz c c'] : Fz (eH3 .b a b c) (eH3 .f a' b' c') := ⟨fun x => by show D.lst .f [(a x.1).fz, (b x.2.1).fz, (c x.2.2).fz] = _; rw [Fz.h (e' := a'), Fz.h (e' := b'), Fz.h (e' := c')]; rfl⟩
instance [Rt a a'] [Rt b b'] [Rt c c'] : Rt (eH3 .o a b c) (eH3 .o a' b' c') := ⟨fun x => by show D.lst .o [(a x.1).rt, (b x.2.1).rt, (c x.2.2).rt] = _; rw [Rt.h (e' := a'), Rt.h (e' := b'), Rt.h (e' := c')]; rfl⟩
instance : FlC true (eH3 .f a b c) := ⟨fun _ => rfl⟩
instance : FlC false (eH3 .o a b c) := ⟨fun _ => rfl⟩
instance : FlC false (eH3 .b a b c) := ⟨fun _ => rfl⟩
instance {n : Nat} {k : Fl} [ShC n a] [ShC n b] [ShC n c] : ShC (n + 1) (eH3 k a b c) := ⟨fun x => sh_lst (by simp [ShC.h])⟩
instance {k : Fl} : NN (eH3 k a b c) := ⟨fun _ => rfl, fun _ => rfl, fun _ => rfl⟩
end
end DL
namespace DL
open PySem PySem.Spec PyProof.Rows L2
variable [Tb]
def isBD : D2
  | .bl a, .bl b, Q => Q (.bl (decide (a = b)))
  | _, _, _ => False
section
variable {X : Cx}
theorem op_isBD : OpR X (compareOp .Is) (rD X.K (o2 isBD)) := opr op_is_bl fun x y H Q P M B d e L1 L3 Q0 A r1 r2 q k => by
  unfold isBD at q
  split at q
  · obtain ⟨rfl, rfl⟩ := r1.bl_inv
    obtain ⟨rfl, rfl⟩ := r2.bl_inv
    exact ⟨_, _, rfl, rfl, k _ _ (A.plain (fun {_} => .bl) q)⟩
  · exact q.elim
end
theorem o_isB {a b : Bool} : Op (o2 isBD) [eB a, eB b] (eB (decide (a = b))) := fun _ q => q
end DL
namespace DL
open PySem PySem.Spec PyProof.Rows L2
variable [Tb]
instance {α : Type} {a : α → D} [Np a] : Np (eO a) := ⟨fun x => by
  cases x with
  | none => rfl
  | some x => exact Np.h x⟩
end DL
set_option maxHeartbeats 0
set_option exponentiation.threshold 50000
namespace DL
open PySem PySem.Spec PyProof.Rows L2
def top (i : Nat) : Stmt := PySem.Challenge.pw_scalesheet_k28_whole_symbols_elsewhere.main.body.getD i (.Pass ⟨0, 0, 0, 0⟩)
abbrev FnP (K : PySem.W.Frag) (x : Str) (st : Stmt) (f : Addr) (fd : FuncData) : Prop := FunD K x x (defArgs st) (defBody st) (defScope st) [] [] f fd
abbrev s_is_name : Stmt := top 7
abbrev s_need_symbols : Stmt := top 12
abbrev s_need_size : Stmt := top 13
abbrev s_ordered : Stmt := top 14
abbrev s_room_for : Stmt := top 15
abbrev s_chains_to : Stmt := top 16
abbrev s_greatest_of : Stmt := top 17
abbrev s_worst_chain : Stmt := top 18
abbrev s_least_of : Stmt := top 19
abbrev s_least_move : Stmt := top 20
abbrev s_apart_of : Stmt := top 21
abbrev s_apart : Stmt := top 22
abbrev s_chain : Stmt := top 23
abbrev s__law_shuffled : Stmt := top 27
abbrev s__law_folk : Stmt := top 28
abbrev s_law : Stmt := top 29
abbrev s__law_pick : Stmt := top 26
abbrev s__law_pen : Stmt := top 25
variable [Tb]
def Pre__law_shuffled {α : Type} (w : List α) : Prop := w.length < 1000
def Post__law_shuffled {α : Type} (w : List α) (r : List α) : Prop := r.Perm w
theorem poly_pre__law_shuffled {α : Type} {e : α → D} [Pf e] {w : List α} (h : Pre__law_shuffled w) : Pre__law_shuffled (w.map (toX (e := e))) := by
  show (w.map (toX (e := e))).length < 1000
  rw [List.length_map]; exact h

/-- a symbol -/
abbrev Mk : Type := OkS × Int × Int
/-- a chain: its need, its names -/
abbrev Cand : Type := Int × List OkS
/-- a good name -/
def Nm (s : OkS) : Prop := 0 < sLen s ∧ sLen s ≤ 8 ∧ ∀ c ∈ sCs s, 97 ≤ c ∧ c ≤ 122
instance (s : OkS) : Decidable (Nm s) := by unfold Nm; exact inferInstance
def m_is_name (s : OkS) : Bool := decide (Nm s)
def Pre_is_name (s : OkS) : Prop := s.1.length ≤ 100000
def GoodS (w : List Mk) : Prop := w.length ≤ 8 ∧ (w.map (·.1)).Nodup ∧ ∀ p ∈ w, Nm p.1
def m_need_symbols (w : List Mk) : Unit := ()
def Pre_need_symbols (w : List Mk) : Prop := GoodS w
def m_need_size (s : Int) : Unit := ()
def Pre_need_size (s : Int) : Prop := 1 ≤ s ∧ s ≤ 8
def kyS (p : Mk) : Int × OkS := (p.2.1, p.1)
def m_ordered (w : List Mk) : List Mk := w.mergeSort fun p q => leOf (ltT2 ltI ltS) (kyS p) (kyS q)
def Pre_ordered (w : List Mk) : Prop := True
def m_order (w : List Mk) : List OkS := (m_ordered w).map (·.1)
def Pre_order (w : List Mk) : Prop := GoodS w
def m_room_for (a b : Mk) (s : Int) : Int := if absI (a.2.2 - b.2.2) < s then s else 0
def Pre_room_for (a b : Mk) (s : Int) : Prop := True
/-- by how much two lack room -/
def cst (s : Int) (o p : Mk) : Int := m_room_for o p s - (p.2.1 - o.2.1)
def m_greatest_of (l : List Cand) : List Cand := if l = [] then [] else [(maxL (l.map (·.1)), bestS ((l.filter fun c => decide (c.1 = maxL (l.map (·.1)))).map (·.2)))]
def Pre_greatest_of (l : List Cand) : Prop := l.length ≤ 1000
/-- the chains that end at p, each by the one ahead -/
def cands (s : Int) (p : Mk) (of : List (Mk × List Cand)) : List Cand := of.flatMap fun q => (cst s q.1 p, [q.1.1, p.1]) :: q.2.map fun c => (c.1 + cst s q.1 p, c.2 ++ [p.1])
def chGo (s : Int) (of : List (Mk × List Cand)) (p : Mk) : List (Mk × List Cand) := of ++ [(p, m_greatest_of (cands s p of))]
def m_chains_to (row : List Mk) (s : Int) : List (List Cand) := (row.foldl (chGo s) []).map (·.2)
def Pre_chains_to (row : List Mk) (s : Int) : Prop := row.length ≤ 8
def m_worst_chain (w : List Mk) (s : Int) : Option Cand := match m_greatest_of (m_chains_to (m_ordered w) s).flatten with
  | [] => none
  | c :: _ => if c.1 ≤ 0 then none else some c
def Pre_worst_chain (w : List Mk) (s : Int) : Prop := w.length ≤ 8
def m_least_of (w : List Mk) (s : Int) : Int := match m_worst_chain w s with
  | none => 0
  | some c => (c.1 + 1) / 2
def Pre_least_of (w : List Mk) (s : Int) : Prop := w.length ≤ 8
def m_least_move (w : List Mk) (s : Int) : Int := m_least_of w s
def Pre_least_move (w : List Mk) (s : Int) : Prop := GoodS w ∧ 1 ≤ s ∧ s ≤ 8
/-- how far to the right one must stand, at least -/
def lowAt (s : Int) (f : List Mk) (p : Mk) (x : Int) : Int := f.foldl (fun low o => mxI low (o.2.1 + m_room_for o p s)) x
def apStep (s b : Int) (f : List Mk) (p : Mk) : List Mk := f ++ [(p.1, lowAt s f p (p.2.1 - b), p.2.2)]
def m_apart_of (w : List Mk) (s : Int) : List Mk := (m_ordered w).foldl (apStep s (m_least_of w s)) []
def Pre_apart_of (w : List Mk) (s : Int) : Prop := w.length ≤ 8
def m_apart (w : List Mk) (s : Int) : List Mk := m_apart_of w s
def Pre_apart (w : List Mk) (s : Int) : Prop := GoodS w ∧ 1 ≤ s ∧ s ≤ 8
def m_chain (w : List Mk) (s : Int) : Option (List OkS) := (m_worst_chain w s).map (·.2)
def Pre_chain (w : List Mk) (s : Int) : Prop := GoodS w ∧ 1 ≤ s ∧ s ≤ 8
def Pre__law_folk (many : Int) : Prop := 0 ≤ many ∧ many ≤ 26
def Post__law_folk (many : Int) (r : List OkS) : Prop := r.length = many.toNat ∧ r.Nodup ∧ ∀ s ∈ r, Nm s
def Pre__law_marks (folk : List OkS) : Prop := folk.length ≤ 1000
def Post__law_marks (folk : List OkS) (r : List Mk) : Prop := r.map (·.1) = folk
def m__law_in_order (w : List Mk) : List Mk := m_ordered w
def Pre__law_in_order (w : List Mk) : Prop := w.length ≤ 1000 ∧ (w.map (·.1)).Nodup
def m__law_room (a b : Mk) (s : Int) : Int := m_room_for a b s
def Pre__law_room (a b : Mk) (s : Int) : Prop := True
def lmGo (s b : Int) : List Mk → List Mk → Option (List Mk)
  | [], f => some f
  | p :: r, f => if lowAt s f p (p.2.1 - b) > p.2.1 + b then none else lmGo s b r (apStep s b f p)
def m__law_left_most (w : List Mk) (s b : Int) : Option (List Mk) := lmGo s b (m_ordered w) []
def Pre__law_left_most (w : List Mk) (s b : Int) : Prop := w.length ≤ 1000 ∧ (w.map (·.1)).Nodup
def m__law_least (w : List Mk) (s : Int) : Int := m_least_of w s
def Pre__law_least (w : List Mk) (s : Int) : Prop := w.length ≤ 8 ∧ (w.map (·.1)).Nodup ∧ 0 ≤ s ∧ s ≤ 8

def S_is_name : DSpec := fun ds Q => ∃ (x0 : OkS), ds = [eS x0] ∧ (Pre_is_name x0) ∧ Q (eB (m_is_name x0))
theorem s_is_name_c {x0 : OkS} (h : Pre_is_name x0) : ∀ Q : D → Prop, Q (eB (m_is_name x0)) → S_is_name [eS x0] Q := fun Q q => ⟨x0, rfl, h, q⟩
def S_need_symbols : DSpec := fun ds Q => ∃ (x0 : (List (OkS × Int × Int))), ds = [(eL .f (eT3 eS eI eI)) x0] ∧ (Pre_need_symbols x0) ∧ Q (eU (m_need_symbols x0))
theorem s_need_symbols_c {x0 : (List (OkS × Int × Int))} (h : Pre_need_symbols x0) : ∀ Q : D → Prop, Q (eU (m_need_symbols x0)) → S_need_symbols [(eL .f (eT3 eS eI eI)) x0] Q := fun Q q => ⟨x0, rfl, h, q⟩
def S_need_size : DSpec := fun ds Q => ∃ (x0 : Int), ds = [eI x0] ∧ (Pre_need_size x0) ∧ Q (eU (m_need_size x0))
theorem s_need_size_c {x0 : Int} (h : Pre_need_size x0) : ∀ Q : D → Prop, Q (eU (m_need_size x0)) → S_need_size [eI x0] Q := fun Q q => ⟨x0, rfl, h, q⟩
def S_ordered : DSpec := fun ds Q => ∃ (x0 : (List (OkS × Int × Int))), ds = [(eL .f (eT3 eS eI eI)) x0] ∧ (Pre_ordered x0) ∧ Q ((eL .o (eT3 eS eI eI)) (m_ordered x0))
theorem s_ordered_c {x0 : (List (OkS × Int × Int))} (h : Pre_ordered x0) : ∀ Q : D → Prop, Q ((eL .o (eT3 eS eI eI)) (m_ordered x0)) → S_ordered [(eL .f (eT3 eS eI eI)) x0] Q := fun Q q => ⟨x0, rfl, h, q⟩
def S_room_for : DSpec := fun ds Q => ∃ (x0 : (OkS × Int × Int)) (x1 : (OkS × Int × Int)) (x2 : Int), ds = [(eT3 eS eI eI) x0, (eT3 eS eI eI) x1, eI x2] ∧ (Pre_room_for x0 x1 x2) ∧ Q (eI (m_room_for x0 x1 x2))
theorem s_room_for_c {x0 : (OkS × Int × Int)} {x1 : (OkS × Int × Int)} {x2 : Int} (h : Pre_room_for x0 x1 x2) : ∀ Q : D → Prop, Q (eI (m_room_for x0 x1 x2)) → S_room_for [(eT3 eS eI eI) x0, (eT3 eS eI eI) x1, eI x2] Q := fun Q q => ⟨x0, x1, x2, rfl, h, q⟩
def S_chains_to : DSpec := fun ds Q => ∃ (x0 : (List (OkS × Int × Int))) (x1 : Int), ds = [(eL .f (eT3 eS eI eI)) x0, eI x1] ∧ (Pre_chains_to x0 x1) ∧ Q ((eL .o (eL .f (eT2 eI (eL .f eS)))) (m_chains_to x0 x1))
theorem s_chains_to_c {x0 : (List (OkS × Int × Int))} {x1 : Int} (h : Pre_chains_to x0 x1) : ∀ Q : D → Prop, Q ((eL .o (eL .f (eT2 eI (eL .f eS)))) (m_chains_to x0 x1)) → S_chains_to [(eL .f (eT3 eS eI eI)) x0, eI x1] Q := fun Q q => ⟨x0, x1, rfl, h, q⟩
def S_greatest_of : DSpec := fun ds Q => ∃ (x0 : (List (Int × (List OkS)))), ds = [(eL .f (eT2 eI (eL .f eS))) x0] ∧ (Pre_greatest_of x0) ∧ Q ((eL .o (eT2 eI (eL .f eS))) (m_greatest_of x0))
theorem s_greatest_of_c {x0 : (List (Int × (List OkS)))} (h : Pre_greatest_of x0) : ∀ Q : D → Prop, Q ((eL .o (eT2 eI (eL .f eS))) (m_greatest_of x0)) → S_greatest_of [(eL .f (eT2 eI (eL .f eS))) x0] Q := fun Q q => ⟨x0, rfl, h, q⟩
def S_worst_chain : DSpec := fun ds Q => ∃ (x0 : (List (OkS × Int × Int))) (x1 : Int), ds = [(eL .f (eT3 eS eI eI)) x0, eI x1] ∧ (Pre_worst_chain x0 x1) ∧ Q ((eO (eT2 eI (eL .f eS))) (m_worst_chain x0 x1))
theorem s_worst_chain_c {x0 : (List (OkS × Int × Int))} {x1 : Int} (h : Pre_worst_chain x0 x1) : ∀ Q : D → Prop, Q ((eO (eT2 eI (eL .f eS))) (m_worst_chain x0 x1)) → S_worst_chain [(eL .f (eT3 eS eI eI)) x0, eI x1] Q := fun Q q => ⟨x0, x1, rfl, h, q⟩
def S_least_of : DSpec := fun ds Q => ∃ (x0 : (List (OkS × Int × Int))) (x1 : Int), ds = [(eL .f (eT3 eS eI eI)) x0, eI x1] ∧ (Pre_least_of x0 x1) ∧ Q (eI (m_least_of x0 x1))
theorem s_least_of_c {x0 : (List (OkS × Int × Int))} {x1 : Int} (h : Pre_least_of x0 x1) : ∀ Q : D → Prop, Q (eI (m_least_of x0 x1)) → S_least_of [(eL .f (eT3 eS eI eI)) x0, eI x1] Q := fun Q q => ⟨x0, x1, rfl, h, q⟩
def S_least_move : DSpec := fun ds Q => ∃ (x0 : (List (OkS × Int × Int))) (x1 : Int), ds = [(eL .f (eT3 eS eI eI)) x0, eI x1] ∧ (Pre_least_move x0 x1) ∧ Q (eI (m_least_move x0 x1))
theorem s_least_move_c {x0 : (List (OkS × Int × Int))} {x1 : Int} (h : Pre_least_move x0 x1) : ∀ Q : D → Prop, Q (eI (m_least_move x0 x1)) → S_least_move [(eL .f (eT3 eS eI eI)) x0, eI x1] Q := fun Q q => ⟨x0, x1, rfl, h, q⟩
def S_apart_of : DSpec := fun ds Q => ∃ (x0 : (List (OkS × Int × Int))) (x1 : Int), ds = [(eL .f (eT3 eS eI eI)) x0, eI x1] ∧ (Pre_apart_of x0 x1) ∧ Q ((eL .o (eT3 eS eI eI)) (m_apart_of x0 x1))
theorem s_apart_of_c {x0 : (List (OkS × Int × Int))} {x1 : Int} (h : Pre_apart_of x0 x1) : ∀ Q : D → Prop, Q ((eL .o (eT3 eS eI eI)) (m_apart_of x0 x1)) → S_apart_of [(eL .f (eT3 eS eI eI)) x0, eI x1] Q := fun Q q => ⟨x0, x1, rfl, h, q⟩
def S_apart : DSpec := fun ds Q => ∃ (x0 : (List (OkS × Int × Int))) (x1 : Int), ds = [(eL .f (eT3 eS eI eI)) x0, eI x1] ∧ (Pre_apart x0 x1) ∧ Q ((eL .o (eT3 eS eI eI)) (m_apart x0 x1))
theorem s_apart_c {x0 : (List (OkS × Int × Int))} {x1 : Int} (h : Pre_apart x0 x1) : ∀ Q : D → Prop, Q ((eL .o (eT3 eS eI eI)) (m_apart x0 x1)) → S_apart [(eL .f (eT3 eS eI eI)) x0, eI x1] Q := fun Q q => ⟨x0, x1, rfl, h, q⟩
def S_chain : DSpec := fun ds Q => ∃ (x0 : (List (OkS × Int × Int))) (x1 : Int), ds = [(eL .f (eT3 eS eI eI)) x0, eI x1] ∧ (Pre_chain x0 x1) ∧ Q ((eO (eL .f eS)) (m_chain x0 x1))
theorem s_chain_c {x0 : (List (OkS × Int × Int))} {x1 : Int} (h : Pre_chain x0 x1) : ∀ Q : D → Prop, Q ((eO (eL .f eS)) (m_chain x0 x1)) → S_chain [(eL .f (eT3 eS eI eI)) x0, eI x1] Q := fun Q q => ⟨x0, x1, rfl, h, q⟩
def S__law_shuffled : DSpec := fun ds Q => ∃ (x0 : Unit) (x1 : (List XD)), ds = [ePen x0, (eL .f eX) x1] ∧ (Pre__law_shuffled x1) ∧ ∀ r, Post__law_shuffled x1 r → Q ((eL .o eX) r)
theorem s__law_shuffled_c {α : Type} {e : α → D} [Pf e] {x0 : Unit} {x1 : List α} (h : Pre__law_shuffled x1) : ∀ Q : D → Prop, (∀ r, Post__law_shuffled x1 r → Q (eL .o e r)) → S__law_shuffled [(ePen x0), (eL .f e x1)] Q := fun Q q => by
  rw [← toX_map .f x1]
  exact ⟨x0, (x1.map (toX (e := e))), rfl, poly_pre__law_shuffled h, fun r hr => by
    obtain ⟨r2, rfl, h2⟩ := perm_map hr rfl
    rw [toX_map .o r2]
    exact q r2 h2⟩
def S__law_folk : DSpec := fun ds Q => ∃ (x0 : Unit) (x1 : Int), ds = [ePen x0, eI x1] ∧ (Pre__law_folk x1) ∧ ∀ r, Post__law_folk x1 r → Q ((eL .o eS) r)
theorem s__law_folk_c {x0 : Unit} {x1 : Int} (h : Pre__law_folk x1) : ∀ Q : D → Prop, (∀ r, Post__law_folk x1 r → Q ((eL .o eS) r)) → S__law_folk [ePen x0, eI x1] Q := fun Q q => ⟨x0, x1, rfl, h, q⟩
theorem sc__law_pick : FnScope ["_law_pen_here", "_law_many", "_law_cell", "_law_mixed", "_law_got", "_law_seed", "_law_square"] ["_law_pen_here", "_law_many"] (defScope s__law_pick) := ⟨rfl, rfl, rfl, by decide +kernel, rfl, by decide +kernel, by decide +kernel⟩
theorem w__law_pick {P : Program} {w : World} {K : PySem.W.Frag} {mg : Str → Option Value} {base : Heap} (m_len : mg "len" = none) {fa : Addr} (cdv : Value) (A : Around) (outer : List PySem.Env) (s : Shared) (H : Hp) (E : XK) : PSs (cxOf CX0 P w K mg base ["_law_pen_here", "_law_many", "_law_cell", "_law_mixed", "_law_got", "_law_seed", "_law_square"] "_law_pick" (defScope s__law_pick) fa cdv A outer s H E).nox (defBody s__law_pick) (tPick K) :=
  (pss_cons (ps_if (PW.pt (pw_and (pt_cmpR op_eq (pe_ix ix_list (pv 0) pe_int (fun _ _ => rfl)) pe_int (nomark _)) (pw_and1 (pt_cmpR op_lt (pe_ix ix_list (pv 0) pe_int (fun _ _ => rfl)) (pe_callB call_len rfl m_len bo_len (pa_cons (pe_ix ix_list (pv 0) pe_int (fun _ _ => rfl)) pa_nil)) (nomark _))))) (pss_cons (ps_set (i := 2) sc__law_pick.nd rfl (.inl rfl) (pe_ix ix_list (pe_ix ix_list (pv 0) pe_int (fun _ _ => rfl)) (pe_ix ix_list (pv 0) pe_int (fun _ _ => rfl)) (fun _ _ => rfl))) (pss_cons (ps_augS (pv 0) pe_int get_listL pe_int ip_add set_list) (pss_one (ps_if (pt_cmpR op_ge (pv 2) (pe_op op_pow pe_int pe_int) (nomark _)) (pss_one (ps_asg (pv 2) (pg_sub (pv 0) pe_int set_list))) (pss_cons (ps_set (i := 3) sc__law_pick.nd rfl (.inl rfl) (pe_op op_add (pe_op op_mulW (pe_op op_mod (pv 2) pe_int) pe_int) (pe_op op_mulW pe_int (pe_ix ix_list (pv 0) pe_int (fun _ _ => rfl))))) (pss_one (ps_asg (pe_op op_mod (pe_op op_add (pe_op op_mulW (pe_ix ix_list (pv 0) pe_int (fun _ _ => rfl)) pe_int) (pv 3)) pe_int) (pg_sub (pv 0) pe_int set_list)))))))) pss_nil)
    (pss_cons (ps_if (pt_cmpR op_gt (pe_ix ix_list (pv 0) pe_int (fun _ _ => rfl)) pe_int (nomark _)) (pss_cons (ps_set (i := 4) sc__law_pick.nd rfl (.inl rfl) (pe_op op_mod (pe_ix ix_list (pv 0) pe_int (fun _ _ => rfl)) (pv 1))) (pss_cons (ps_asg (pe_op op_fdivW (pe_ix ix_list (pv 0) pe_int (fun _ _ => rfl)) (pv 1)) (pg_sub (pv 0) pe_int set_list)) (pss_one (ps_ret (pv 4))))) pss_nil) (pss_cons (ps_set (i := 5) sc__law_pick.nd rfl (.inl rfl) (pe_ix ix_list (pv 0) pe_int (fun _ _ => rfl))) (pss_cons (ps_set (i := 6) sc__law_pick.nd rfl (.inl rfl) (pe_op op_mod (pe_op op_mulW (pv 5) (pv 5)) pe_int)) (pss_cons (ps_set (i := 5) sc__law_pick.nd rfl (.inl rfl) (pe_op op_mod (pe_op op_add (pe_op op_add (pe_op op_mulW (pv 6) pe_int) (pe_op op_mulW (pv 5) pe_int)) pe_int) pe_int)) (pss_cons (ps_asg (pe_op op_mod (pe_op op_add (pe_op op_add (pe_op op_mulW (pv 5) pe_int) (pe_op op_mod (pe_ix ix_list (pv 0) pe_int (fun _ _ => rfl)) pe_int)) pe_int) pe_int) (pg_sub (pv 0) pe_int set_list)) (pss_one (ps_ret (pe_op op_mod (pe_op op_add (pe_op op_fdivW (pv 5) pe_int) (pe_op op_mulW (pe_op op_mod (pv 5) pe_int) pe_int)) (pv 1))))))))))
theorem ok__law_pick {P : Program} {w : World} {K : PySem.W.Frag} {mg : Str → Option Value} {base : Heap} {k : Nat} (m_len : mg "len" = none) {f : Addr} {fd : FuncData} (F : FnP K "_law_pick" s__law_pick f fd) (gm : mg "_law_pick" = some (.ref f)) : Fd P w K mg base (k + 1) "_law_pick" S__law_pick :=
  Fd.pick F gm sc__law_pick (fun _ _ _ _ _ _ us hl => match us, hl with | [_, _], _ => rfl) fun cdv A outer s H E => w__law_pick m_len cdv A outer s H E
theorem sc__law_pen : FnScope ["_law_script"] ["_law_script"] (defScope s__law_pen) := ⟨rfl, rfl, rfl, by decide +kernel, rfl, by decide +kernel, by decide +kernel⟩
theorem w__law_pen {P : Program} {w : World} {K : PySem.W.Frag} {mg : Str → Option Value} {base : Heap} (m_len : mg "len" = none) (m_list : mg "list" = none) {fa : Addr} (cdv : Value) (A : Around) (outer : List PySem.Env) (s : Shared) (H : Hp) (E : XK) : PSs (cxOf CX0 P w K mg base ["_law_script"] "_law_pen" (defScope s__law_pen) fa cdv A outer s H E).nox (defBody s__law_pen) (tPen K) :=
  (pss_one (ps_ret (pe_lst (pa_cons (pe_callTy call_list_of rfl m_list bo_list (pa_cons (pe_slice sl_list (pv 0) po_none (po_some pe_int)) pa_nil)) (pa_cons pe_int (pa_cons pe_int (pa_cons (pe_op op_add pe_int (pe_op op_mulW pe_int (pe_callB call_len rfl m_len bo_len (pa_cons (pe_slice sl_list (pv 0) po_none (po_some pe_int)) pa_nil)))) pa_nil)))))))
theorem ok__law_pen {P : Program} {w : World} {K : PySem.W.Frag} {mg : Str → Option Value} {base : Heap} {k : Nat} (m_len : mg "len" = none) (m_list : mg "list" = none) {f : Addr} {fd : FuncData} (F : FnP K "_law_pen" s__law_pen f fd) (gm : mg "_law_pen" = some (.ref f)) : FnPen P w K mg base (k + 1) "_law_pen" :=
  FnPen.of F gm sc__law_pen (fun _ _ _ _ _ _ us hl => match us, hl with | [_], _ => rfl) fun cdv A outer s H E => w__law_pen m_len m_list cdv A outer s H E

theorem sc_is_name : FnScope ["text", "sign"] ["text"] (defScope s_is_name) := ⟨rfl, rfl, rfl, by decide +kernel, rfl, by decide +kernel, by decide +kernel⟩
def t_is_name : DS := (dRet (dAnd (dChain ltO leO (dC (.int 0)) (dCall (o1 lenD) (dCons (dVar 0) dNil)) (dC (.int 8))) (dCall (o1 allD) (dCons (dLc (dIter itemsC (dVar 0)) [1] (.nm 1) dYes (dBin (o2 (inO id)) (dVar 1) (dC (.str "abcdefghijklmnopqrstuvwxyz")))) dNil))))
def W_is_name (v_text : OkS) (rt : Bool → Prop) : Prop := ((v_text).1.length ≤ sizeLine) ∧ (((decide ((0 : Int) < (sLen v_text)) && decide ((sLen v_text) ≤ (8 : Int)))) = true → ((((sCh v_text)).length ≤ 1000000) ∧ (∀ x1 ∈ (sCh v_text), (((x1).1.cps.size = 1))))) ∧ (rt ((decide ((0 : Int) < (sLen v_text)) && decide ((sLen v_text) ≤ (8 : Int))) && (((sCh v_text)).all (fun (x1 : OkS) => decide (sCode x1 ∈ sCs (⟨"abcdefghijklmnopqrstuvwxyz", by decide +kernel⟩ : OkS))))))
theorem wt_is_name {N : DE} (v_text : OkS) {rt : Bool → Prop} (hrt : ∀ r, rt r → N.rt (eB r)) (h : W_is_name v_text rt) : t_is_name N [some (eS v_text), none] :=
  (w_ret (d := eB ((decide ((0 : Int) < (sLen v_text)) && decide ((sLen v_text) ≤ (8 : Int))) && (((sCh v_text)).all (fun (x1 : OkS) => decide (sCode x1 ∈ sCs (⟨"abcdefghijklmnopqrstuvwxyz", by decide +kernel⟩ : OkS)))))) (ev_and (ev_chain (ev_c (d := eI 0)) (ev_call (ea_cons (ev_var 0 (e := eS) (e' := eS) (v := v_text) rfl) ea_nil) (by exact (o_lenS h.1))) (@o_lt _ (0 : Int) (sLen v_text)) (fun hk => (ev_c (d := eI 8))) (fun hk => (@o_le _ (sLen v_text) (8 : Int)))) (fun k2 => (ev_call (ea_cons (ev_lcM (eX := eS) (eY := eB) (l := (sCh v_text)) (f := (fun (x1 : OkS) => decide (sCode x1 ∈ sCs (⟨"abcdefghijklmnopqrstuvwxyz", by decide +kernel⟩ : OkS)))) (fun x1 => [some (eS v_text), some (eS x1)]) (ei_CS (s := v_text) (ev_var 0 (e := eS) (e' := eS) (v := v_text) rfl)) (h.2.1 k2).1 (fun x1 N q => (g_nm q)) (fun x1 hx => (ev_bin (ev_var 1 (e := eS) (e' := eS) (v := x1) rfl) (ev_c (d := .str "abcdefghijklmnopqrstuvwxyz")) (o_inS ((h.2.1 k2).2 x1 hx))))) ea_nil) (by exact o_allM)))) (Rt.h (e := eB) (e' := eB) _) (by exact hrt _ h.2.2))
theorem w_is_name {P : Program} {w : World} {K : PySem.W.Frag} {mg : Str → Option Value} {base : Heap} {k : Nat} (m_len : mg "len" = none) (m_all : mg "all" = none) (g_MOST_NAME : ∃ t, mg "MOST_NAME" = some (.int 8 t)) (g_LETTERS : ∃ t, mg "LETTERS" = some (.str "abcdefghijklmnopqrstuvwxyz" t)) {fa : Addr} (cdv : Value) (A : Around) (outer : List PySem.Env) (s : Shared) (H : Hp) (E : XK) (hr : Room k (A.deeper (envOfC "is_name" (defScope s_is_name) s.heap.objs.size fa cdv))) :
    PDB (cxOf CX0 P w K mg base ["text", "sign"] "is_name" (defScope s_is_name) fa cdv A outer s H E).nox (defBody s_is_name) t_is_name :=
  have d : Gd (cxOf CX0 P w K mg base ["text", "sign"] "is_name" (defScope s_is_name) fa cdv A outer s H E).nox k := ⟨rfl, sc_is_name.nd, hr⟩
  (b_one (s_ret (pd_and (pd_chain op_ltD op_leD pd_int (pd_callB cr_lenD m_len (pda_cons (pd_var 0) pda_nil) bo_len) (pd_gintX g_MOST_NAME)) (pd_one (pd_callB (cr_allD d.calm) m_all (pda_cons (pd_lc (own := [("sign", 1)]) ⟨d.calm, d.nd, d.room⟩ (pic_any (pd_var 0)) (by kernel_rfl) (by decide) (fun _ _ _ _ _ => (pdg_nm 1 d.nd)) (fun _ _ _ _ _ => pts_nild) (fun _ _ _ _ _ => (pd_cmp (op_inO d.u) (pd_var 1) (pd_gstrX g_LETTERS)))) pda_nil) bo_all)))))
theorem ok_is_name {P : Program} {w : World} {K : PySem.W.Frag} {mg : Str → Option Value} {base : Heap} {k : Nat} (m_len : mg "len" = none) (m_all : mg "all" = none) (g_MOST_NAME : ∃ t, mg "MOST_NAME" = some (.int 8 t)) (g_LETTERS : ∃ t, mg "LETTERS" = some (.str "abcdefghijklmnopqrstuvwxyz" t)) {f : Addr} {fd : FuncData} (F : FnP K "is_name" s_is_name f fd) (gm : mg "is_name" = some (.ref f)) {S : DSpec} (hS : ∀ ds Q, S ds Q → ds.length = 1 ∧ t_is_name (endD Q) (startE 2 ds)) : Fd P w K mg base (k + 1) "is_name" S :=
  Fd.of F gm sc_is_name (fun _ _ _ _ _ _ us hl => match us, hl with | [_], _ => rfl) (fun cdv A outer s H E hr => w_is_name m_len m_all g_MOST_NAME g_LETTERS cdv A outer s H E hr) hS
theorem p_is_name_of (c : ∀ (x0 : OkS), Pre_is_name x0 → ∀ K : Bool → Prop, K (m_is_name x0) → W_is_name x0 K) : ∀ ds Q, S_is_name ds Q → ds.length = 1 ∧ t_is_name (endD Q) (startE 2 ds) := by
  rintro ds Q ⟨x0, rfl, hp, q⟩
  exact ⟨rfl, wt_is_name (N := endD Q) x0 (rt := fun r => Q (eB r)) (fun r h => ⟨Np.h (e := eB) r, h⟩) (c x0 hp _ q)⟩

theorem sc_need_symbols : FnScope ["symbols", "names", "name", "x", "y"] ["symbols"] (defScope s_need_symbols) := ⟨rfl, rfl, rfl, by decide +kernel, rfl, by decide +kernel, by decide +kernel⟩
def t_need_symbols_1 : DS := (dIfS (dOrT (dB (dBin (o2 gtO) (dCall (o1 lenD) (dCons (dVar 0) dNil)) (dC (.int 8)))) (dOrT (dB (dBin (o2 ltO) (dUn (o1 lenSetS) (dVar 1)) (dCall (o1 lenD) (dCons (dVar 1) dNil)))) (dNotT (dTru (dCall (o1 allD) (dCons (dLc (dIter itemsC (dVar 1)) [2] (.nm 2) dYes (dFn S_is_name (dCons (dVar 2) dNil))) dNil)))))) dNever dNext)
def W_need_symbols_1 (v_symbols : (List (OkS × Int × Int))) (v_names : (List OkS)) (rt : Unit → Prop) : Prop := ((decide (((v_symbols).length : Int) > (8 : Int))) = false → (((v_names).length < 1000) ∧ ((decide (((DLm.metK v_names).length : Int) < ((v_names).length : Int))) = false → (((v_names).length ≤ 1000000) ∧ (∀ x2 ∈ v_names, ((Pre_is_name x2))))))) ∧ (((decide (((v_symbols).length : Int) > (8 : Int)) || (decide (((DLm.metK v_names).length : Int) < ((v_names).length : Int)) || (!((v_names).all (fun (x2 : OkS) => (m_is_name x2)))))) = true → (False)) ∧ ((decide (((v_symbols).length : Int) > (8 : Int)) || (decide (((DLm.metK v_names).length : Int) < ((v_names).length : Int)) || (!((v_names).all (fun (x2 : OkS) => (m_is_name x2)))))) = false → (rt ())))
theorem wt_need_symbols_1 {N : DE} (v_symbols : (List (OkS × Int × Int))) (v_names : (List OkS)) {rt : Unit → Prop} (hrt : ∀ r, rt r → N.rt (eU r)) (hN : ∀ ρ, rt () → N.nx ρ) (h : W_need_symbols_1 v_symbols v_names rt) : t_need_symbols_1 N [some ((eL .f (eT3 eS eI eI)) v_symbols), some ((eL .f eS) v_names), none, none, none] :=
  (w_ifS (et_or (et_b (ev_bin (ev_call (ea_cons (ev_var 0 (e := (eL .f (eT3 eS eI eI))) (e' := (eL .f (eT3 eS eI eI))) (v := v_symbols) rfl) ea_nil) (by exact (o_lenL (e := (eT3 eS eI eI)) (l := v_symbols)))) (ev_c (d := eI 8)) (@o_gt _ ((v_symbols).length : Int) (8 : Int)))) (fun k4 => (et_or (et_b (ev_bin (ev_un (ev_var 1 (e := (eL .f eS)) (e' := (eL .f eS)) (v := v_names) rfl) (o_lensetS (f := .f) (l := v_names) (h.1 k4).1)) (ev_call (ea_cons (ev_var 1 (e := (eL .f eS)) (e' := (eL .f eS)) (v := v_names) rfl) ea_nil) (by exact (o_lenL (e := eS) (l := v_names)))) (@o_lt _ ((DLm.metK v_names).length : Int) ((v_names).length : Int)))) (fun k3 => (et_not (et_tru (ev_call (ea_cons (ev_lcM (eX := eS) (eY := eB) (l := v_names) (f := (fun (x2 : OkS) => (m_is_name x2))) (fun x2 => [some ((eL .f (eT3 eS eI eI)) v_symbols), some ((eL .f eS) v_names), some (eS x2), none, none]) (ei_C (e := eS) (ev_var 1 (e := (eL .f eS)) (e' := (eL .f eS)) (v := v_names) rfl)) ((h.1 k4).2 k3).1 (fun x2 N q => (g_nm q)) (fun x2 hx => (ev_fn (ea_cons (ev_var 2 (e := eS) (e' := eS) (v := x2) rfl) ea_nil) (fz_c (Fz.h (e := eS) (e' := eS) _) fz_n) (fl_c (FlC.h (b := true) (e := eS) _) fl_n) (s_is_name_c (((h.1 k4).2 k3).2 x2 hx))))) ea_nil) (by exact o_allM)) tru_b)))))) (fun hk => (h.2.1 hk)) (fun hk => (hN _ (h.2.2 hk))))
def t_need_symbols : DS := (dSeq (dAsg (.nm 1) (dLc (dIter itemsC (dVar 0)) [2, 3, 4] (.tp (.cons (.nm 2) (.cons (.nm 3) (.cons (.nm 4) .nil)))) dYes (dVar 2))) (dSeq (dFrz 1) t_need_symbols_1))
def W_need_symbols (v_symbols : (List (OkS × Int × Int))) (rt : Unit → Prop) : Prop := ((v_symbols).length ≤ 1000000) ∧ (W_need_symbols_1 v_symbols ((v_symbols).map (fun (x1 : (OkS × Int × Int)) => x1.1)) rt)
theorem wt_need_symbols {N : DE} (v_symbols : (List (OkS × Int × Int))) {rt : Unit → Prop} (hrt : ∀ r, rt r → N.rt (eU r)) (hN : ∀ ρ, rt () → N.nx ρ) (h : W_need_symbols v_symbols rt) : t_need_symbols N [some ((eL .f (eT3 eS eI eI)) v_symbols), none, none, none, none] :=
  (w_setS (d := (eL .o eS) ((v_symbols).map (fun (x1 : (OkS × Int × Int)) => x1.1))) 1 (ev_lcM (eX := (eT3 eS eI eI)) (eY := eS) (l := v_symbols) (f := (fun (x1 : (OkS × Int × Int)) => x1.1)) (fun x1 => [some ((eL .f (eT3 eS eI eI)) v_symbols), none, some (eS x1.1), some (eI x1.2.1), some (eI x1.2.2)]) (ei_C (e := (eT3 eS eI eI)) (ev_var 0 (e := (eL .f (eT3 eS eI eI))) (e' := (eL .f (eT3 eS eI eI))) (v := v_symbols) rfl)) h.1 (fun x1 N q => (g_tp (gs_cons (g_nm (gs_cons (g_nm (gs_cons (g_nm (gs_nil q))))))))) (fun x1 hx => (ev_var 2 (e := eS) (e' := eS) (v := x1.1) rfl))) (Nb.h (e := (eL .o eS)) _) (w_frzS 1 (e := (eL .o eS)) (e' := (eL .f eS)) (v := ((v_symbols).map (fun (x1 : (OkS × Int × Int)) => x1.1))) rfl (wt_need_symbols_1 (N := N) v_symbols ((v_symbols).map (fun (x1 : (OkS × Int × Int)) => x1.1)) hrt hN h.2)))
theorem w_need_symbols {P : Program} {w : World} {K : PySem.W.Frag} {mg : Str → Option Value} {base : Heap} {k : Nat} (m_len : mg "len" = none) (m_set : mg "set" = none) (m_all : mg "all" = none) (g_MOST_SYMBOLS : ∃ t, mg "MOST_SYMBOLS" = some (.int 8 t)) (f_is_name : Fd P w K mg base k "is_name" S_is_name) {fa : Addr} (cdv : Value) (A : Around) (outer : List PySem.Env) (s : Shared) (H : Hp) (E : XK) (hr : Room k (A.deeper (envOfC "need_symbols" (defScope s_need_symbols) s.heap.objs.size fa cdv))) :
    PDB (cxOf CX0 P w K mg base ["symbols", "names", "name", "x", "y"] "need_symbols" (defScope s_need_symbols) fa cdv A outer s H E).nox (defBody s_need_symbols) t_need_symbols :=
  have d : Gd (cxOf CX0 P w K mg base ["symbols", "names", "name", "x", "y"] "need_symbols" (defScope s_need_symbols) fa cdv A outer s H E).nox k := ⟨rfl, sc_need_symbols.nd, hr⟩
  (b_cons (s_setLc 1 (own := [("name", 2), ("x", 3), ("y", 4)]) ⟨d.calm, d.nd, d.room⟩ (pic_any (pd_var 0)) (by kernel_rfl) (by decide) (fun _ _ _ _ _ => (pdg_tp d.calm (pdg_cons (pdg_nm 2 d.nd) (pdg_cons (pdg_nm 3 d.nd) (pdg_cons (pdg_nm 4 d.nd) pdg_nil))))) (fun _ _ _ _ _ => pts_nild) (fun _ _ _ _ _ => (pd_var 2)))
    (b_frz 1 (b_one (s_if (pt_pw (pw_ord (pt_cmpd op_gtD (pd_callB cr_lenD m_len (pda_cons (pd_var 0) pda_nil) bo_len) (pd_gintX g_MOST_SYMBOLS)) (pw_ord (pt_cmpd op_ltD (pd_lensetS d m_len m_set (pd_var 1)) (pd_callB cr_lenD m_len (pda_cons (pd_var 1) pda_nil) bo_len)) (pw_or1d (pt_notd (pt_vald (pd_callB (cr_allD d.calm) m_all (pda_cons (pd_lc (own := [("name", 2)]) ⟨d.calm, d.nd, d.room⟩ (pic_any (pd_var 1)) (by kernel_rfl) (by decide) (fun _ _ _ _ _ => (pdg_nm 2 d.nd)) (fun _ _ _ _ _ => pts_nild) (fun _ _ _ _ _ => (pd_fn f_is_name hr (pda_cons (pd_var 2) pda_nil)))) pda_nil) bo_all))))))) (b_one s_never) b_nil))))
theorem ok_need_symbols {P : Program} {w : World} {K : PySem.W.Frag} {mg : Str → Option Value} {base : Heap} {k : Nat} (m_len : mg "len" = none) (m_set : mg "set" = none) (m_all : mg "all" = none) (g_MOST_SYMBOLS : ∃ t, mg "MOST_SYMBOLS" = some (.int 8 t)) (f_is_name : Fd P w K mg base k "is_name" S_is_name) {f : Addr} {fd : FuncData} (F : FnP K "need_symbols" s_need_symbols f fd) (gm : mg "need_symbols" = some (.ref f)) {S : DSpec} (hS : ∀ ds Q, S ds Q → ds.length = 1 ∧ t_need_symbols (endD Q) (startE 5 ds)) : Fd P w K mg base (k + 1) "need_symbols" S :=
  Fd.of F gm sc_need_symbols (fun _ _ _ _ _ _ us hl => match us, hl with | [_], _ => rfl) (fun cdv A outer s H E hr => w_need_symbols m_len m_set m_all g_MOST_SYMBOLS f_is_name cdv A outer s H E hr) hS
theorem p_need_symbols_of (c : ∀ (x0 : (List (OkS × Int × Int))), Pre_need_symbols x0 → ∀ K : Unit → Prop, K (m_need_symbols x0) → W_need_symbols x0 K) : ∀ ds Q, S_need_symbols ds Q → ds.length = 1 ∧ t_need_symbols (endD Q) (startE 5 ds) := by
  rintro ds Q ⟨x0, rfl, hp, q⟩
  exact ⟨rfl, wt_need_symbols (N := endD Q) x0 (rt := fun r => Q (eU r)) (fun r h => ⟨Np.h (e := eU) r, h⟩) (fun _ h => h) (c x0 hp _ q)⟩

theorem sc_need_size : FnScope ["size"] ["size"] (defScope s_need_size) := ⟨rfl, rfl, rfl, by decide +kernel, rfl, by decide +kernel, by decide +kernel⟩
def t_need_size : DS := (dIfS (dNotT (dB (dChain leO leO (dC (.int 1)) (dVar 0) (dC (.int 8))))) dNever dNext)
def W_need_size (v_size : Int) (rt : Unit → Prop) : Prop := ((decide ((1 : Int) ≤ v_size) && decide (v_size ≤ (8 : Int))) = false → (False)) ∧ ((decide ((1 : Int) ≤ v_size) && decide (v_size ≤ (8 : Int))) = true → (rt ()))
theorem wt_need_size {N : DE} (v_size : Int) {rt : Unit → Prop} (hrt : ∀ r, rt r → N.rt (eU r)) (hN : ∀ ρ, rt () → N.nx ρ) (h : W_need_size v_size rt) : t_need_size N [some (eI v_size)] :=
  (w_ifS (et_not (et_b (ev_chain (ev_c (d := eI 1)) (ev_var 0 (e := eI) (e' := eI) (v := v_size) rfl) (@o_le _ (1 : Int) v_size) (fun hk => (ev_c (d := eI 8))) (fun hk => (@o_le _ v_size (8 : Int)))))) (fun hk => (h.1 (not_t hk))) (fun hk => (hN _ (h.2 (not_f hk)))))
theorem w_need_size {P : Program} {w : World} {K : PySem.W.Frag} {mg : Str → Option Value} {base : Heap} {k : Nat} (g_MOST_SIZE : ∃ t, mg "MOST_SIZE" = some (.int 8 t)) {fa : Addr} (cdv : Value) (A : Around) (outer : List PySem.Env) (s : Shared) (H : Hp) (E : XK) (hr : Room k (A.deeper (envOfC "need_size" (defScope s_need_size) s.heap.objs.size fa cdv))) :
    PDB (cxOf CX0 P w K mg base ["size"] "need_size" (defScope s_need_size) fa cdv A outer s H E).nox (defBody s_need_size) t_need_size :=
  have d : Gd (cxOf CX0 P w K mg base ["size"] "need_size" (defScope s_need_size) fa cdv A outer s H E).nox k := ⟨rfl, sc_need_size.nd, hr⟩
  (b_one (s_if (pt_notd (pt_chaind op_leD op_leD pd_int (pd_var 0) (pd_gintX g_MOST_SIZE))) (b_one s_never) b_nil))
theorem ok_need_size {P : Program} {w : World} {K : PySem.W.Frag} {mg : Str → Option Value} {base : Heap} {k : Nat} (g_MOST_SIZE : ∃ t, mg "MOST_SIZE" = some (.int 8 t)) {f : Addr} {fd : FuncData} (F : FnP K "need_size" s_need_size f fd) (gm : mg "need_size" = some (.ref f)) {S : DSpec} (hS : ∀ ds Q, S ds Q → ds.length = 1 ∧ t_need_size (endD Q) (startE 1 ds)) : Fd P w K mg base (k + 1) "need_size" S :=
  Fd.of F gm sc_need_size (fun _ _ _ _ _ _ us hl => match us, hl with | [_], _ => rfl) (fun cdv A outer s H E hr => w_need_size g_MOST_SIZE cdv A outer s H E hr) hS
theorem p_need_size_of (c : ∀ (x0 : Int), Pre_need_size x0 → ∀ K : Unit → Prop, K (m_need_size x0) → W_need_size x0 K) : ∀ ds Q, S_need_size ds Q → ds.length = 1 ∧ t_need_size (endD Q) (startE 1 ds) := by
  rintro ds Q ⟨x0, rfl, hp, q⟩
  exact ⟨rfl, wt_need_size (N := endD Q) x0 (rt := fun r => Q (eU r)) (fun r h => ⟨Np.h (e := eU) r, h⟩) (fun _ h => h) (c x0 hp _ q)⟩

theorem sc_ordered : FnScope ["symbols"] ["symbols"] (defScope s_ordered) := ⟨rfl, rfl, rfl, by decide +kernel, rfl, by decide +kernel, by decide +kernel⟩
def t_ordered : DS := (dRet (dUn (o1 (sortKD (.it 1) (.it 0))) (dVar 0)))
def W_ordered (v_symbols : (List (OkS × Int × Int))) (rt : (List (OkS × Int × Int)) → Prop) : Prop := rt ((v_symbols).mergeSort (fun p q => leOf (ltT2 ltI ltS) ((fun (x : (OkS × Int × Int)) => (x.2.1, x.1)) p) ((fun (x : (OkS × Int × Int)) => (x.2.1, x.1)) q)))
theorem wt_ordered {N : DE} (v_symbols : (List (OkS × Int × Int))) {rt : (List (OkS × Int × Int)) → Prop} (hrt : ∀ r, rt r → N.rt ((eL .o (eT3 eS eI eI)) r)) (h : W_ordered v_symbols rt) : t_ordered N [some ((eL .f (eT3 eS eI eI)) v_symbols)] :=
  (w_ret (d := (eL .o (eT3 eS eI eI)) ((v_symbols).mergeSort (fun p q => leOf (ltT2 ltI ltS) ((fun (x : (OkS × Int × Int)) => (x.2.1, x.1)) p) ((fun (x : (OkS × Int × Int)) => (x.2.1, x.1)) q)))) (ev_un (ev_var 0 (e := (eL .f (eT3 eS eI eI))) (e' := (eL .f (eT3 eS eI eI))) (v := v_symbols) rfl) (o_sortK (e := (eT3 eS eI eI)) (eb := (eT2 eI eS)) (k1 := (.it 1)) (k2 := (.it 0)) (l := v_symbols) (key := (fun (x : (OkS × Int × Int)) => (x.2.1, x.1))) (fun _ => rfl) (fun _ => ⟨⟨by decide, .inl ⟨_, rfl⟩⟩, ⟨by decide, .inr ⟨_, rfl⟩⟩⟩))) (Rt.h (e := (eL .o (eT3 eS eI eI))) (e' := (eL .o (eT3 eS eI eI))) _) (by exact hrt _ h))
theorem w_ordered {P : Program} {w : World} {K : PySem.W.Frag} {mg : Str → Option Value} {base : Heap} {k : Nat} (m_sorted : mg "sorted" = none) {fa : Addr} (cdv : Value) (A : Around) (outer : List PySem.Env) (s : Shared) (H : Hp) (E : XK) (hl : LamAt (cxOf CX0 P w K mg base ["symbols"] "ordered" (defScope s_ordered) fa cdv A outer s H E).nox) (hr : Room k (A.deeper (envOfC "ordered" (defScope s_ordered) s.heap.objs.size fa cdv))) :
    PDB (cxOf CX0 P w K mg base ["symbols"] "ordered" (defScope s_ordered) fa cdv A outer s H E).nox (defBody s_ordered) t_ordered :=
  have d : Gd (cxOf CX0 P w K mg base ["symbols"] "ordered" (defScope s_ordered) fa cdv A outer s H E).nox k := ⟨rfl, sc_ordered.nd, hr⟩
  (b_one (s_ret (pd_sortK (x := "symbol") (k1 := (.it 1)) (k2 := (.it 0)) d hl m_sorted (pd_var 0) rfl rfl rfl rfl rfl (fun _ _ _ _ _ => rfl) (by decide) ⟨_, _, _, _, rfl, ⟨_, _, _, _, rfl⟩, ⟨_, _, _, _, rfl⟩, fun _ => ⟨rfl, rfl⟩⟩)))
theorem ok_ordered {P : Program} {w : World} {K : PySem.W.Frag} {mg : Str → Option Value} {base : Heap} {k : Nat} (m_sorted : mg "sorted" = none) {f : Addr} {fd : FuncData} (F : FnP K "ordered" s_ordered f fd) (gm : mg "ordered" = some (.ref f)) (lam : LamF K base mg f "ordered") {S : DSpec} (hS : ∀ ds Q, S ds Q → ds.length = 1 ∧ t_ordered (endD Q) (startE 1 ds)) : Fd P w K mg base (k + 1) "ordered" S :=
  Fd.ofL F gm sc_ordered (fun _ _ _ _ _ _ us hl => match us, hl with | [_], _ => rfl) lam (fun cdv A outer s H E hl hr => w_ordered m_sorted cdv A outer s H E hl hr) hS
theorem p_ordered_of (c : ∀ (x0 : (List (OkS × Int × Int))), Pre_ordered x0 → ∀ K : (List (OkS × Int × Int)) → Prop, K (m_ordered x0) → W_ordered x0 K) : ∀ ds Q, S_ordered ds Q → ds.length = 1 ∧ t_ordered (endD Q) (startE 1 ds) := by
  rintro ds Q ⟨x0, rfl, hp, q⟩
  exact ⟨rfl, wt_ordered (N := endD Q) x0 (rt := fun r => Q ((eL .o (eT3 eS eI eI)) r)) (fun r h => ⟨Np.h (e := (eL .o (eT3 eS eI eI))) r, h⟩) (c x0 hp _ q)⟩

theorem sc_room_for : FnScope ["one", "other", "size"] ["one", "other", "size"] (defScope s_room_for) := ⟨rfl, rfl, rfl, by decide +kernel, rfl, by decide +kernel, by decide +kernel⟩
def t_room_for : DS := (dSeq (dIfS (dB (dBin (o2 ltO) (dCall (o1 absD) (dCons (dBin (o2 subD) (dBin (o2 ixD) (dVar 0) (dC (.int 2))) (dBin (o2 ixD) (dVar 1) (dC (.int 2)))) dNil)) (dVar 2))) (dRetV 2) (dWipe [0, 1, 2])) (dRet (dC (.int 0))))
def W_room_for (v_one : (OkS × Int × Int)) (v_other : (OkS × Int × Int)) (v_size : Int) (rt : Int → Prop) : Prop := (((absI (v_one.2.2 - v_other.2.2)) < v_size) → (rt v_size)) ∧ (¬ ((absI (v_one.2.2 - v_other.2.2)) < v_size) → (rt (0 : Int)))
theorem wt_room_for {N : DE} (v_one : (OkS × Int × Int)) (v_other : (OkS × Int × Int)) (v_size : Int) {rt : Int → Prop} (hrt : ∀ r, rt r → N.rt (eI r)) (h : W_room_for v_one v_other v_size rt) : t_room_for N [some ((eT3 eS eI eI) v_one), some ((eT3 eS eI eI) v_other), some (eI v_size)] :=
  (w_ifSS (et_b (ev_bin (ev_call (ea_cons (ev_bin (ev_bin (ev_var 0 (e := (eT3 eS eI eI)) (e' := (eT3 eS eI eI)) (v := v_one) rfl) (ev_c (d := eI 2)) (o_ixT (ds := [eS v_one.1, eI v_one.2.1, eI v_one.2.2]) (d := eI v_one.2.2) rfl)) (ev_bin (ev_var 1 (e := (eT3 eS eI eI)) (e' := (eT3 eS eI eI)) (v := v_other) rfl) (ev_c (d := eI 2)) (o_ixT (ds := [eS v_other.1, eI v_other.2.1, eI v_other.2.2]) (d := eI v_other.2.2) rfl)) (@o_sub _ v_one.2.2 v_other.2.2)) ea_nil) (by exact (o_abs (i := (v_one.2.2 - v_other.2.2))))) (ev_var 2 (e := eI) (e' := eI) (v := v_size) rfl) (@o_lt _ (absI (v_one.2.2 - v_other.2.2)) v_size))) (fun hk => (w_retV 2 (d := eI v_size) rfl (hrt _ (h.1 (of_decide_eq_true hk))))) (fun hk => (w_wipe (nx_i (w_ret (d := eI (0 : Int)) (ev_c (d := eI 0)) (Rt.h (e := eI) (e' := eI) _) (by exact hrt _ (h.2 (of_decide_eq_false hk))))) rfl)))
theorem w_room_for {P : Program} {w : World} {K : PySem.W.Frag} {mg : Str → Option Value} {base : Heap} {k : Nat} (m_abs : mg "abs" = none) {fa : Addr} (cdv : Value) (A : Around) (outer : List PySem.Env) (s : Shared) (H : Hp) (E : XK) (hr : Room k (A.deeper (envOfC "room_for" (defScope s_room_for) s.heap.objs.size fa cdv))) :
    PDB (cxOf CX0 P w K mg base ["one", "other", "size"] "room_for" (defScope s_room_for) fa cdv A outer s H E).nox (defBody s_room_for) t_room_for :=
  have d : Gd (cxOf CX0 P w K mg base ["one", "other", "size"] "room_for" (defScope s_room_for) fa cdv A outer s H E).nox k := ⟨rfl, sc_room_for.nd, hr⟩
  (b_cons (s_if (pt_cmpd op_ltD (pd_callB cr_absD m_abs (pda_cons (pd_bin op_subD (pd_ix (pd_var 0) pd_int) (pd_ix (pd_var 1) pd_int)) pda_nil) bo_abs) (pd_var 2)) (b_one (s_retV 2)) (b_nilW [0, 1, 2]))
    (b_one (s_ret pd_int)))
theorem ok_room_for {P : Program} {w : World} {K : PySem.W.Frag} {mg : Str → Option Value} {base : Heap} {k : Nat} (m_abs : mg "abs" = none) {f : Addr} {fd : FuncData} (F : FnP K "room_for" s_room_for f fd) (gm : mg "room_for" = some (.ref f)) {S : DSpec} (hS : ∀ ds Q, S ds Q → ds.length = 3 ∧ t_room_for (endD Q) (startE 3 ds)) : Fd P w K mg base (k + 1) "room_for" S :=
  Fd.of F gm sc_room_for (fun _ _ _ _ _ _ us hl => match us, hl with | [_, _, _], _ => rfl) (fun cdv A outer s H E hr => w_room_for m_abs cdv A outer s H E hr) hS
theorem p_room_for_of (c : ∀ (x0 : (OkS × Int × Int)) (x1 : (OkS × Int × Int)) (x2 : Int), Pre_room_for x0 x1 x2 → ∀ K : Int → Prop, K (m_room_for x0 x1 x2) → W_room_for x0 x1 x2 K) : ∀ ds Q, S_room_for ds Q → ds.length = 3 ∧ t_room_for (endD Q) (startE 3 ds) := by
  rintro ds Q ⟨x0, x1, x2, rfl, hp, q⟩
  exact ⟨rfl, wt_room_for (N := endD Q) x0 x1 x2 (rt := fun r => Q (eI r)) (fun r h => ⟨Np.h (e := eI) r, h⟩) (c x0 x1 x2 hp _ q)⟩

theorem sc_chains_to : FnScope ["row", "size", "found", "at", "symbol", "best", "ahead", "other", "more", "need_now", "names"] ["row", "size"] (defScope s_chains_to) := ⟨rfl, rfl, rfl, by decide +kernel, rfl, by decide +kernel, by decide +kernel⟩
def t_chains_to_6 : DS := (dSeq (dMut 5 extS (dCons (dFz (dLc (dIter itemsC (dBin (o2 ixD) (dVar 2) (dVar 6))) [9, 10] (.tp (.cons (.nm 9) (.cons (.nm 10) .nil))) dYes (dTup (dCons (dBin (o2 addD) (dVar 9) (dVar 8)) (dCons (dBin (o2 addD) (dVar 10) (dLst (dCons (dBin (o2 ixD) (dVar 4) (dC (.int 0))) dNil))) dNil))))) dNil) kDrop) (dWipe [6, 8]))
def W_chains_to_6 (v_row : (List (OkS × Int × Int))) (v_size : Int) (v_found : (List (List (Int × (List OkS))))) (v_at : Int) (v_symbol : (OkS × Int × Int)) (v_best : (List (Int × (List OkS)))) (v_ahead : Int) (v_more : Int) (rt : (List (List (Int × (List OkS)))) → Prop) (nx : (List (Int × (List OkS))) → Prop) (bk : (List (Int × (List OkS))) → Prop) (ct : (List (Int × (List OkS))) → Prop) : Prop := ((atI v_found v_ahead).isSome = true) ∧ (((gI v_found v_ahead)).length ≤ 1000000) ∧ (∀ x3 ∈ (gI v_found v_ahead), (((x3.2).length + ([v_symbol.1]).length ≤ sizeLine))) ∧ ((v_best).length + ((((gI v_found v_ahead)).map (fun (x3 : (Int × (List OkS))) => ((x3.1 + v_more), (x3.2 ++ [v_symbol.1]))))).length < 1000000) ∧ (nx (v_best ++ (((gI v_found v_ahead)).map (fun (x3 : (Int × (List OkS))) => ((x3.1 + v_more), (x3.2 ++ [v_symbol.1]))))))
theorem wt_chains_to_6 {N : DE} (v_row : (List (OkS × Int × Int))) (v_size : Int) (v_found : (List (List (Int × (List OkS))))) (v_at : Int) (v_symbol : (OkS × Int × Int)) (v_best : (List (Int × (List OkS)))) (v_ahead : Int) (v_more : Int) {rt : (List (List (Int × (List OkS)))) → Prop} {nx : (List (Int × (List OkS))) → Prop} {bk : (List (Int × (List OkS))) → Prop} {ct : (List (Int × (List OkS))) → Prop} (hrt : ∀ r, rt r → N.rt ((eL .o (eL .f (eT2 eI (eL .f eS)))) r)) (hnx : ∀ (v_best : (List (Int × (List OkS)))), nx v_best → N.nx [some ((eL .f (eT3 eS eI eI)) v_row), some (eI v_size), some ((eL .o (eL .f (eT2 eI (eL .f eS)))) v_found), some (eI v_at), some ((eT3 eS eI eI) v_symbol), some ((eL .o (eT2 eI (eL .f eS))) v_best), none, none, none, none, none]) (hbk : ∀ (v_best : (List (Int × (List OkS)))), bk v_best → N.bk [some ((eL .f (eT3 eS eI eI)) v_row), some (eI v_size), some ((eL .o (eL .f (eT2 eI (eL .f eS)))) v_found), some (eI v_at), some ((eT3 eS eI eI) v_symbol), some ((eL .o (eT2 eI (eL .f eS))) v_best), none, none, none, none, none]) (hct : ∀ (v_best : (List (Int × (List OkS)))), ct v_best → N.ct [some ((eL .f (eT3 eS eI eI)) v_row), some (eI v_size), some ((eL .o (eL .f (eT2 eI (eL .f eS)))) v_found), some (eI v_at), some ((eT3 eS eI eI) v_symbol), some ((eL .o (eT2 eI (eL .f eS))) v_best), none, none, none, none, none]) (h : W_chains_to_6 v_row v_size v_found v_at v_symbol v_best v_ahead v_more rt nx bk ct) : t_chains_to_6 N [some ((eL .f (eT3 eS eI eI)) v_row), some (eI v_size), some ((eL .o (eL .f (eT2 eI (eL .f eS)))) v_found), some (eI v_at), some ((eT3 eS eI eI) v_symbol), some ((eL .o (eT2 eI (eL .f eS))) v_best), some (eI v_ahead), none, some (eI v_more), none, none] :=
  (m_extendS 5 (e := (eT2 eI (eL .f eS))) (f := .f) (l := v_best) (m := (((gI v_found v_ahead)).map (fun (x3 : (Int × (List OkS))) => ((x3.1 + v_more), (x3.2 ++ [v_symbol.1]))))) rfl (ev_fz (a := (eL .o (eT2 eI (eL .o eS)))) (a' := (eL .f (eT2 eI (eL .f eS)))) (ev_lcM (eX := (eT2 eI (eL .f eS))) (eY := (eT2 eI (eL .o eS))) (l := (gI v_found v_ahead)) (f := (fun (x3 : (Int × (List OkS))) => ((x3.1 + v_more), (x3.2 ++ [v_symbol.1])))) (fun x3 => [some ((eL .f (eT3 eS eI eI)) v_row), some (eI v_size), some ((eL .o (eL .f (eT2 eI (eL .f eS)))) v_found), some (eI v_at), some ((eT3 eS eI eI) v_symbol), some ((eL .o (eT2 eI (eL .f eS))) v_best), some (eI v_ahead), none, some (eI v_more), some (eI x3.1), some ((eL .f eS) x3.2)]) (ei_C (e := (eT2 eI (eL .f eS))) (ev_bin (ev_var 2 (e := (eL .o (eL .f (eT2 eI (eL .f eS))))) (e' := (eL .b (eL .f (eT2 eI (eL .f eS))))) (v := v_found) rfl) (ev_var 6 (e := eI) (e' := eI) (v := v_ahead) rfl) (o_ixL (e := (eL .f (eT2 eI (eL .f eS)))) h.1))) h.2.1 (fun x3 N q => (g_tp (gs_cons (g_nm (gs_cons (g_nm (gs_nil q))))))) (fun x3 hx => (ev_tup2 (a := eI) (x := (x3.1 + v_more)) (b := (eL .o eS)) (y := (x3.2 ++ [v_symbol.1])) (ev_bin (ev_var 9 (e := eI) (e' := eI) (v := x3.1) rfl) (ev_var 8 (e := eI) (e' := eI) (v := v_more) rfl) (@o_add _ x3.1 v_more)) (ev_bin (ev_var 10 (e := (eL .f eS)) (e' := (eL .f eS)) (v := x3.2) rfl) (ev_lstT (e := eS) [v_symbol.1] (ea_cons (ev_bin (ev_var 4 (e := (eT3 eS eI eI)) (e' := (eT3 eS eI eI)) (v := v_symbol) rfl) (ev_c (d := eI 0)) (o_ixT (ds := [eS v_symbol.1, eI v_symbol.2.1, eI v_symbol.2.2]) (d := eS v_symbol.1) rfl)) ea_nil) (Nat.le_of_ble_eq_true rfl)) (o_addL (e := eS) (h.2.2.1 x3 hx))))))) (Nb.h (e := (eL .f (eT2 eI (eL .f eS)))) _) h.2.2.2.1 (w_wipe (hnx (v_best ++ (((gI v_found v_ahead)).map (fun (x3 : (Int × (List OkS))) => ((x3.1 + v_more), (x3.2 ++ [v_symbol.1]))))) h.2.2.2.2) rfl))
def t_chains_to_5 : DS := (dSeq (dMut 5 appM (dCons (dTup (dCons (dVar 8) (dCons (dFz (dLst (dCons (dBin (o2 ixD) (dVar 7) (dC (.int 0))) (dCons (dBin (o2 ixD) (dVar 4) (dC (.int 0))) dNil)))) dNil))) dNil) kDrop) (dSeq (dWipe [7]) t_chains_to_6))
def W_chains_to_5 (v_row : (List (OkS × Int × Int))) (v_size : Int) (v_found : (List (List (Int × (List OkS))))) (v_at : Int) (v_symbol : (OkS × Int × Int)) (v_best : (List (Int × (List OkS)))) (v_ahead : Int) (v_other : (OkS × Int × Int)) (v_more : Int) (rt : (List (List (Int × (List OkS)))) → Prop) (nx : (List (Int × (List OkS))) → Prop) (bk : (List (Int × (List OkS))) → Prop) (ct : (List (Int × (List OkS))) → Prop) : Prop := ((v_best).length < 1000000) ∧ (W_chains_to_6 v_row v_size v_found v_at v_symbol (v_best ++ [(v_more, [v_other.1, v_symbol.1])]) v_ahead v_more rt nx bk ct)
theorem wt_chains_to_5 {N : DE} (v_row : (List (OkS × Int × Int))) (v_size : Int) (v_found : (List (List (Int × (List OkS))))) (v_at : Int) (v_symbol : (OkS × Int × Int)) (v_best : (List (Int × (List OkS)))) (v_ahead : Int) (v_other : (OkS × Int × Int)) (v_more : Int) {rt : (List (List (Int × (List OkS)))) → Prop} {nx : (List (Int × (List OkS))) → Prop} {bk : (List (Int × (List OkS))) → Prop} {ct : (List (Int × (List OkS))) → Prop} (hrt : ∀ r, rt r → N.rt ((eL .o (eL .f (eT2 eI (eL .f eS)))) r)) (hnx : ∀ (v_best : (List (Int × (List OkS)))), nx v_best → N.nx [some ((eL .f (eT3 eS eI eI)) v_row), some (eI v_size), some ((eL .o (eL .f (eT2 eI (eL .f eS)))) v_found), some (eI v_at), some ((eT3 eS eI eI) v_symbol), some ((eL .o (eT2 eI (eL .f eS))) v_best), none, none, none, none, none]) (hbk : ∀ (v_best : (List (Int × (List OkS)))), bk v_best → N.bk [some ((eL .f (eT3 eS eI eI)) v_row), some (eI v_size), some ((eL .o (eL .f (eT2 eI (eL .f eS)))) v_found), some (eI v_at), some ((eT3 eS eI eI) v_symbol), some ((eL .o (eT2 eI (eL .f eS))) v_best), none, none, none, none, none]) (hct : ∀ (v_best : (List (Int × (List OkS)))), ct v_best → N.ct [some ((eL .f (eT3 eS eI eI)) v_row), some (eI v_size), some ((eL .o (eL .f (eT2 eI (eL .f eS)))) v_found), some (eI v_at), some ((eT3 eS eI eI) v_symbol), some ((eL .o (eT2 eI (eL .f eS))) v_best), none, none, none, none, none]) (h : W_chains_to_5 v_row v_size v_found v_at v_symbol v_best v_ahead v_other v_more rt nx bk ct) : t_chains_to_5 N [some ((eL .f (eT3 eS eI eI)) v_row), some (eI v_size), some ((eL .o (eL .f (eT2 eI (eL .f eS)))) v_found), some (eI v_at), some ((eT3 eS eI eI) v_symbol), some ((eL .o (eT2 eI (eL .f eS))) v_best), some (eI v_ahead), some ((eT3 eS eI eI) v_other), some (eI v_more), none, none] :=
  (m_appendS 5 (e := (eT2 eI (eL .f eS))) (l := v_best) (v := (v_more, [v_other.1, v_symbol.1])) rfl (ev_tup2 (a := eI) (x := v_more) (b := (eL .f eS)) (y := [v_other.1, v_symbol.1]) (ev_var 8 (e := eI) (e' := eI) (v := v_more) rfl) (ev_fz (a := (eL .o eS)) (a' := (eL .f eS)) (ev_lstT (e := eS) [v_other.1, v_symbol.1] (ea_cons (ev_bin (ev_var 7 (e := (eT3 eS eI eI)) (e' := (eT3 eS eI eI)) (v := v_other) rfl) (ev_c (d := eI 0)) (o_ixT (ds := [eS v_other.1, eI v_other.2.1, eI v_other.2.2]) (d := eS v_other.1) rfl)) (ea_cons (ev_bin (ev_var 4 (e := (eT3 eS eI eI)) (e' := (eT3 eS eI eI)) (v := v_symbol) rfl) (ev_c (d := eI 0)) (o_ixT (ds := [eS v_symbol.1, eI v_symbol.2.1, eI v_symbol.2.2]) (d := eS v_symbol.1) rfl)) ea_nil)) (Nat.le_of_ble_eq_true rfl)))) (Nb.h (e := (eT2 eI (eL .f eS))) (v_more, [v_other.1, v_symbol.1])) h.1 (w_wipeS (wt_chains_to_6 (N := N) v_row v_size v_found v_at v_symbol (v_best ++ [(v_more, [v_other.1, v_symbol.1])]) v_ahead v_more hrt hnx hbk hct h.2) rfl))
def t_chains_to_4 : DS := (dSeq (dAsg (.nm 8) (dBin (o2 subD) (dFn S_room_for (dCons (dVar 7) (dCons (dVar 4) (dCons (dVar 1) dNil)))) (dBin (o2 subD) (dBin (o2 ixD) (dVar 4) (dC (.int 1))) (dBin (o2 ixD) (dVar 7) (dC (.int 1)))))) t_chains_to_5)
def W_chains_to_4 (v_row : (List (OkS × Int × Int))) (v_size : Int) (v_found : (List (List (Int × (List OkS))))) (v_at : Int) (v_symbol : (OkS × Int × Int)) (v_best : (List (Int × (List OkS)))) (v_ahead : Int) (v_other : (OkS × Int × Int)) (rt : (List (List (Int × (List OkS)))) → Prop) (nx : (List (Int × (List OkS))) → Prop) (bk : (List (Int × (List OkS))) → Prop) (ct : (List (Int × (List OkS))) → Prop) : Prop := (Pre_room_for v_other v_symbol v_size) ∧ (W_chains_to_5 v_row v_size v_found v_at v_symbol v_best v_ahead v_other ((m_room_for v_other v_symbol v_size) - (v_symbol.2.1 - v_other.2.1)) rt nx bk ct)
theorem wt_chains_to_4 {N : DE} (v_row : (List (OkS × Int × Int))) (v_size : Int) (v_found : (List (List (Int × (List OkS))))) (v_at : Int) (v_symbol : (OkS × Int × Int)) (v_best : (List (Int × (List OkS)))) (v_ahead : Int) (v_other : (OkS × Int × Int)) {rt : (List (List (Int × (List OkS)))) → Prop} {nx : (List (Int × (List OkS))) → Prop} {bk : (List (Int × (List OkS))) → Prop} {ct : (List (Int × (List OkS))) → Prop} (hrt : ∀ r, rt r → N.rt ((eL .o (eL .f (eT2 eI (eL .f eS)))) r)) (hnx : ∀ (v_best : (List (Int × (List OkS)))), nx v_best → N.nx [some ((eL .f (eT3 eS eI eI)) v_row), some (eI v_size), some ((eL .o (eL .f (eT2 eI (eL .f eS)))) v_found), some (eI v_at), some ((eT3 eS eI eI) v_symbol), some ((eL .o (eT2 eI (eL .f eS))) v_best), none, none, none, none, none]) (hbk : ∀ (v_best : (List (Int × (List OkS)))), bk v_best → N.bk [some ((eL .f (eT3 eS eI eI)) v_row), some (eI v_size), some ((eL .o (eL .f (eT2 eI (eL .f eS)))) v_found), some (eI v_at), some ((eT3 eS eI eI) v_symbol), some ((eL .o (eT2 eI (eL .f eS))) v_best), none, none, none, none, none]) (hct : ∀ (v_best : (List (Int × (List OkS)))), ct v_best → N.ct [some ((eL .f (eT3 eS eI eI)) v_row), some (eI v_size), some ((eL .o (eL .f (eT2 eI (eL .f eS)))) v_found), some (eI v_at), some ((eT3 eS eI eI) v_symbol), some ((eL .o (eT2 eI (eL .f eS))) v_best), none, none, none, none, none]) (h : W_chains_to_4 v_row v_size v_found v_at v_symbol v_best v_ahead v_other rt nx bk ct) : t_chains_to_4 N [some ((eL .f (eT3 eS eI eI)) v_row), some (eI v_size), some ((eL .o (eL .f (eT2 eI (eL .f eS)))) v_found), some (eI v_at), some ((eT3 eS eI eI) v_symbol), some ((eL .o (eT2 eI (eL .f eS))) v_best), some (eI v_ahead), some ((eT3 eS eI eI) v_other), none, none, none] :=
  (w_setS (d := eI ((m_room_for v_other v_symbol v_size) - (v_symbol.2.1 - v_other.2.1))) 8 (ev_bin (ev_fn (ea_cons (ev_var 7 (e := (eT3 eS eI eI)) (e' := (eT3 eS eI eI)) (v := v_other) rfl) (ea_cons (ev_var 4 (e := (eT3 eS eI eI)) (e' := (eT3 eS eI eI)) (v := v_symbol) rfl) (ea_cons (ev_var 1 (e := eI) (e' := eI) (v := v_size) rfl) ea_nil))) (fz_c (Fz.h (e := (eT3 eS eI eI)) (e' := (eT3 eS eI eI)) _) (fz_c (Fz.h (e := (eT3 eS eI eI)) (e' := (eT3 eS eI eI)) _) (fz_c (Fz.h (e := eI) (e' := eI) _) fz_n))) (fl_c (FlC.h (b := true) (e := (eT3 eS eI eI)) _) (fl_c (FlC.h (b := true) (e := (eT3 eS eI eI)) _) (fl_c (FlC.h (b := true) (e := eI) _) fl_n))) (s_room_for_c h.1)) (ev_bin (ev_bin (ev_var 4 (e := (eT3 eS eI eI)) (e' := (eT3 eS eI eI)) (v := v_symbol) rfl) (ev_c (d := eI 1)) (o_ixT (ds := [eS v_symbol.1, eI v_symbol.2.1, eI v_symbol.2.2]) (d := eI v_symbol.2.1) rfl)) (ev_bin (ev_var 7 (e := (eT3 eS eI eI)) (e' := (eT3 eS eI eI)) (v := v_other) rfl) (ev_c (d := eI 1)) (o_ixT (ds := [eS v_other.1, eI v_other.2.1, eI v_other.2.2]) (d := eI v_other.2.1) rfl)) (@o_sub _ v_symbol.2.1 v_other.2.1)) (@o_sub _ (m_room_for v_other v_symbol v_size) (v_symbol.2.1 - v_other.2.1))) (Nb.h (e := eI) _) (wt_chains_to_5 (N := N) v_row v_size v_found v_at v_symbol v_best v_ahead v_other ((m_room_for v_other v_symbol v_size) - (v_symbol.2.1 - v_other.2.1)) hrt hnx hbk hct h.2))
def t_chains_to_7 : DS := (dSeq (dFrz 5) (dSeq (dMut 2 appM (dCons (dFz (dFn S_greatest_of (dCons (dVar 5) dNil))) dNil) kDrop) (dWipe [5])))
def W_chains_to_7 (v_row : (List (OkS × Int × Int))) (v_size : Int) (v_found : (List (List (Int × (List OkS))))) (v_best : (List (Int × (List OkS)))) (rt : (List (List (Int × (List OkS)))) → Prop) (nx : (List (List (Int × (List OkS)))) → Prop) (bk : (List (List (Int × (List OkS)))) → Prop) (ct : (List (List (Int × (List OkS)))) → Prop) : Prop := (Pre_greatest_of v_best) ∧ ((v_found).length < 1000000) ∧ (nx (v_found ++ [(m_greatest_of v_best)]))
theorem wt_chains_to_7 {N : DE} (v_row : (List (OkS × Int × Int))) (v_size : Int) (v_found : (List (List (Int × (List OkS))))) (v_best : (List (Int × (List OkS)))) {rt : (List (List (Int × (List OkS)))) → Prop} {nx : (List (List (Int × (List OkS)))) → Prop} {bk : (List (List (Int × (List OkS)))) → Prop} {ct : (List (List (Int × (List OkS)))) → Prop} (hrt : ∀ r, rt r → N.rt ((eL .o (eL .f (eT2 eI (eL .f eS)))) r)) (hnx : ∀ (v_found : (List (List (Int × (List OkS))))), nx v_found → N.nx [some ((eL .f (eT3 eS eI eI)) v_row), some (eI v_size), some ((eL .o (eL .f (eT2 eI (eL .f eS)))) v_found), none, none, none, none, none, none, none, none]) (hbk : ∀ (v_found : (List (List (Int × (List OkS))))), bk v_found → N.bk [some ((eL .f (eT3 eS eI eI)) v_row), some (eI v_size), some ((eL .o (eL .f (eT2 eI (eL .f eS)))) v_found), none, none, none, none, none, none, none, none]) (hct : ∀ (v_found : (List (List (Int × (List OkS))))), ct v_found → N.ct [some ((eL .f (eT3 eS eI eI)) v_row), some (eI v_size), some ((eL .o (eL .f (eT2 eI (eL .f eS)))) v_found), none, none, none, none, none, none, none, none]) (h : W_chains_to_7 v_row v_size v_found v_best rt nx bk ct) : t_chains_to_7 N [some ((eL .f (eT3 eS eI eI)) v_row), some (eI v_size), some ((eL .o (eL .f (eT2 eI (eL .f eS)))) v_found), none, none, some ((eL .o (eT2 eI (eL .f eS))) v_best), none, none, none, none, none] :=
  (w_frzS 5 (e := (eL .o (eT2 eI (eL .f eS)))) (e' := (eL .f (eT2 eI (eL .f eS)))) (v := v_best) rfl (m_appendS 2 (e := (eL .f (eT2 eI (eL .f eS)))) (l := v_found) (v := (m_greatest_of v_best)) rfl (ev_fz (a := (eL .o (eT2 eI (eL .f eS)))) (a' := (eL .f (eT2 eI (eL .f eS)))) (ev_fn (ea_cons (ev_var 5 (e := (eL .f (eT2 eI (eL .f eS)))) (e' := (eL .f (eT2 eI (eL .f eS)))) (v := v_best) rfl) ea_nil) (fz_c (Fz.h (e := (eL .f (eT2 eI (eL .f eS)))) (e' := (eL .f (eT2 eI (eL .f eS)))) _) fz_n) (fl_c (FlC.h (b := true) (e := (eL .f (eT2 eI (eL .f eS)))) _) fl_n) (s_greatest_of_c h.1))) (Nb.h (e := (eL .f (eT2 eI (eL .f eS)))) _) h.2.1 (w_wipe (hnx (v_found ++ [(m_greatest_of v_best)]) h.2.2) rfl)))
def t_chains_to_3 : DS := (dSeq (dFor (dEnum itemsS (dSl (dVar 0) dNo (dSo (dVar 3)))) (.tp (.cons (.nm 6) (.cons (.nm 7) .nil))) t_chains_to_4) (dSeq (dWipe [3, 4]) t_chains_to_7))
def W_chains_to_3 (v_row : (List (OkS × Int × Int))) (v_size : Int) (v_found : (List (List (Int × (List OkS))))) (v_at : Int) (v_symbol : (OkS × Int × Int)) (v_best : (List (Int × (List OkS)))) (rt : (List (List (Int × (List OkS)))) → Prop) (nx : (List (List (Int × (List OkS)))) → Prop) (bk : (List (List (Int × (List OkS)))) → Prop) (ct : (List (List (Int × (List OkS)))) → Prop) : Prop := forW (fun (x2 : (Int × (OkS × Int × Int))) (s : (List (Int × (List OkS)))) nx bk => W_chains_to_4 v_row v_size v_found v_at v_symbol s x2.1 x2.2 rt (fun v_best => nx v_best) (fun v_best => bk v_best) (fun v_best => nx v_best)) (fun s => W_chains_to_7 v_row v_size v_found s rt nx bk ct) (enumL (cutL v_row none (some v_at))) v_best
theorem wt_chains_to_3 {N : DE} (v_row : (List (OkS × Int × Int))) (v_size : Int) (v_found : (List (List (Int × (List OkS))))) (v_at : Int) (v_symbol : (OkS × Int × Int)) (v_best : (List (Int × (List OkS)))) {rt : (List (List (Int × (List OkS)))) → Prop} {nx : (List (List (Int × (List OkS)))) → Prop} {bk : (List (List (Int × (List OkS)))) → Prop} {ct : (List (List (Int × (List OkS)))) → Prop} (hrt : ∀ r, rt r → N.rt ((eL .o (eL .f (eT2 eI (eL .f eS)))) r)) (hnx : ∀ (v_found : (List (List (Int × (List OkS))))), nx v_found → N.nx [some ((eL .f (eT3 eS eI eI)) v_row), some (eI v_size), some ((eL .o (eL .f (eT2 eI (eL .f eS)))) v_found), none, none, none, none, none, none, none, none]) (hbk : ∀ (v_found : (List (List (Int × (List OkS))))), bk v_found → N.bk [some ((eL .f (eT3 eS eI eI)) v_row), some (eI v_size), some ((eL .o (eL .f (eT2 eI (eL .f eS)))) v_found), none, none, none, none, none, none, none, none]) (hct : ∀ (v_found : (List (List (Int × (List OkS))))), ct v_found → N.ct [some ((eL .f (eT3 eS eI eI)) v_row), some (eI v_size), some ((eL .o (eL .f (eT2 eI (eL .f eS)))) v_found), none, none, none, none, none, none, none, none]) (h : W_chains_to_3 v_row v_size v_found v_at v_symbol v_best rt nx bk ct) : t_chains_to_3 N [some ((eL .f (eT3 eS eI eI)) v_row), some (eI v_size), some ((eL .o (eL .f (eT2 eI (eL .f eS)))) v_found), some (eI v_at), some ((eT3 eS eI eI) v_symbol), some ((eL .o (eT2 eI (eL .f eS))) v_best), none, none, none, none, none] :=
  (w_forS (l := (enumL (cutL v_row none (some v_at)))) (fun (s : (List (Int × (List OkS)))) => [some ((eL .f (eT3 eS eI eI)) v_row), some (eI v_size), some ((eL .o (eL .f (eT2 eI (eL .f eS)))) v_found), some (eI v_at), some ((eT3 eS eI eI) v_symbol), some ((eL .o (eT2 eI (eL .f eS))) s), none, none, none, none, none]) (eT2 eI (eT3 eS eI eI)) (ei_enumSo (e := (eT3 eS eI eI)) (ev_sl (e := (eT3 eS eI eI)) (ev_var 0 (e := (eL .f (eT3 eS eI eI))) (e' := (eL .f (eT3 eS eI eI))) (v := v_row) rfl) es_none (es_some (ev_var 3 (e := eI) (e' := eI) (v := v_at) rfl)))) rfl h (fun s h => (w_wipeS (wt_chains_to_7 (N := N) v_row v_size v_found s hrt hnx hbk hct h) rfl)) (fun x2 s nx N' hn hc hb hr h => (g_tp (gs_cons (g_nm (gs_cons (g_nm (gs_nil (wt_chains_to_4 (N := N') v_row v_size v_found v_at v_symbol s x2.1 x2.2 (rt_eq hr hrt) (fun v_best hq => (hn v_best hq)) (fun v_best hq => (hb v_best hq)) (fun v_best hq => (hc v_best hq)) h)))))))))
def t_chains_to_2 : DS := (dSeq (dAsg (.nm 5) (dLst dNil)) t_chains_to_3)
def W_chains_to_2 (v_row : (List (OkS × Int × Int))) (v_size : Int) (v_found : (List (List (Int × (List OkS))))) (v_at : Int) (v_symbol : (OkS × Int × Int)) (rt : (List (List (Int × (List OkS)))) → Prop) (nx : (List (List (Int × (List OkS)))) → Prop) (bk : (List (List (Int × (List OkS)))) → Prop) (ct : (List (List (Int × (List OkS)))) → Prop) : Prop := W_chains_to_3 v_row v_size v_found v_at v_symbol ([] : List (Int × (List OkS))) rt nx bk ct
theorem wt_chains_to_2 {N : DE} (v_row : (List (OkS × Int × Int))) (v_size : Int) (v_found : (List (List (Int × (List OkS))))) (v_at : Int) (v_symbol : (OkS × Int × Int)) {rt : (List (List (Int × (List OkS)))) → Prop} {nx : (List (List (Int × (List OkS)))) → Prop} {bk : (List (List (Int × (List OkS)))) → Prop} {ct : (List (List (Int × (List OkS)))) → Prop} (hrt : ∀ r, rt r → N.rt ((eL .o (eL .f (eT2 eI (eL .f eS)))) r)) (hnx : ∀ (v_found : (List (List (Int × (List OkS))))), nx v_found → N.nx [some ((eL .f (eT3 eS eI eI)) v_row), some (eI v_size), some ((eL .o (eL .f (eT2 eI (eL .f eS)))) v_found), none, none, none, none, none, none, none, none]) (hbk : ∀ (v_found : (List (List (Int × (List OkS))))), bk v_found → N.bk [some ((eL .f (eT3 eS eI eI)) v_row), some (eI v_size), some ((eL .o (eL .f (eT2 eI (eL .f eS)))) v_found), none, none, none, none, none, none, none, none]) (hct : ∀ (v_found : (List (List (Int × (List OkS))))), ct v_found → N.ct [some ((eL .f (eT3 eS eI eI)) v_row), some (eI v_size), some ((eL .o (eL .f (eT2 eI (eL .f eS)))) v_found), none, none, none, none, none, none, none, none]) (h : W_chains_to_2 v_row v_size v_found v_at v_symbol rt nx bk ct) : t_chains_to_2 N [some ((eL .f (eT3 eS eI eI)) v_row), some (eI v_size), some ((eL .o (eL .f (eT2 eI (eL .f eS)))) v_found), some (eI v_at), some ((eT3 eS eI eI) v_symbol), none, none, none, none, none, none] :=
  (w_setS (d := (eL .o (eT2 eI (eL .f eS))) ([] : List (Int × (List OkS)))) 5 (ev_lstT (e := (eT2 eI (eL .f eS))) [] ea_nil (Nat.le_of_ble_eq_true rfl)) (Nb.h (e := (eL .o (eT2 eI (eL .f eS)))) _) (wt_chains_to_3 (N := N) v_row v_size v_found v_at v_symbol ([] : List (Int × (List OkS))) hrt hnx hbk hct h))
def t_chains_to_1 : DS := (dSeq (dFor (dEnum itemsS (dVar 0)) (.tp (.cons (.nm 3) (.cons (.nm 4) .nil))) t_chains_to_2) (dRetV 2))
def W_chains_to_1 (v_row : (List (OkS × Int × Int))) (v_size : Int) (v_found : (List (List (Int × (List OkS))))) (rt : (List (List (Int × (List OkS)))) → Prop) : Prop := forW (fun (x1 : (Int × (OkS × Int × Int))) (s : (List (List (Int × (List OkS))))) nx bk => W_chains_to_2 v_row v_size s x1.1 x1.2 rt (fun v_found => nx v_found) (fun v_found => bk v_found) (fun v_found => nx v_found)) (fun s => rt s) (enumL v_row) v_found
theorem wt_chains_to_1 {N : DE} (v_row : (List (OkS × Int × Int))) (v_size : Int) (v_found : (List (List (Int × (List OkS))))) {rt : (List (List (Int × (List OkS)))) → Prop} (hrt : ∀ r, rt r → N.rt ((eL .o (eL .f (eT2 eI (eL .f eS)))) r)) (h : W_chains_to_1 v_row v_size v_found rt) : t_chains_to_1 N [some ((eL .f (eT3 eS eI eI)) v_row), some (eI v_size), some ((eL .o (eL .f (eT2 eI (eL .f eS)))) v_found), none, none, none, none, none, none, none, none] :=
  (w_forS (l := (enumL v_row)) (fun (s : (List (List (Int × (List OkS))))) => [some ((eL .f (eT3 eS eI eI)) v_row), some (eI v_size), some ((eL .o (eL .f (eT2 eI (eL .f eS)))) s), none, none, none, none, none, none, none, none]) (eT2 eI (eT3 eS eI eI)) (ei_enumS (e := (eT3 eS eI eI)) (ev_var 0 (e := (eL .f (eT3 eS eI eI))) (e' := (eL .f (eT3 eS eI eI))) (v := v_row) rfl)) rfl h (fun s h => (w_retV 2 (d := (eL .o (eL .f (eT2 eI (eL .f eS)))) s) rfl (hrt _ h))) (fun x1 s nx N' hn hc hb hr h => (g_tp (gs_cons (g_nm (gs_cons (g_nm (gs_nil (wt_chains_to_2 (N := N') v_row v_size s x1.1 x1.2 (rt_eq hr hrt) (fun v_found hq => (hn v_found hq)) (fun v_found hq => (hb v_found hq)) (fun v_found hq => (hc v_found hq)) h)))))))))
def t_chains_to : DS := (dSeq (dAsg (.nm 2) (dLst dNil)) t_chains_to_1)
def W_chains_to (v_row : (List (OkS × Int × Int))) (v_size : Int) (rt : (List (List (Int × (List OkS)))) → Prop) : Prop := W_chains_to_1 v_row v_size ([] : List (List (Int × (List OkS)))) rt
theorem wt_chains_to {N : DE} (v_row : (List (OkS × Int × Int))) (v_size : Int) {rt : (List (List (Int × (List OkS)))) → Prop} (hrt : ∀ r, rt r → N.rt ((eL .o (eL .f (eT2 eI (eL .f eS)))) r)) (h : W_chains_to v_row v_size rt) : t_chains_to N [some ((eL .f (eT3 eS eI eI)) v_row), some (eI v_size), none, none, none, none, none, none, none, none, none] :=
  (w_setS (d := (eL .o (eL .f (eT2 eI (eL .f eS)))) ([] : List (List (Int × (List OkS))))) 2 (ev_lstT (e := (eL .f (eT2 eI (eL .f eS)))) [] ea_nil (Nat.le_of_ble_eq_true rfl)) (Nb.h (e := (eL .o (eL .f (eT2 eI (eL .f eS))))) _) (wt_chains_to_1 (N := N) v_row v_size ([] : List (List (Int × (List OkS)))) hrt h))
theorem w_chains_to {P : Program} {w : World} {K : PySem.W.Frag} {mg : Str → Option Value} {base : Heap} {k : Nat} (m_enumerate : mg "enumerate" = none) (f_room_for : Fd P w K mg base k "room_for" S_room_for) (f_greatest_of : Fd P w K mg base k "greatest_of" S_greatest_of) {fa : Addr} (cdv : Value) (A : Around) (outer : List PySem.Env) (s : Shared) (H : Hp) (E : XK) (hr : Room k (A.deeper (envOfC "chains_to" (defScope s_chains_to) s.heap.objs.size fa cdv))) :
    PDB (cxOf CX0 P w K mg base ["row", "size", "found", "at", "symbol", "best", "ahead", "other", "more", "need_now", "names"] "chains_to" (defScope s_chains_to) fa cdv A outer s H E).nox (defBody s_chains_to) t_chains_to :=
  have d : Gd (cxOf CX0 P w K mg base ["row", "size", "found", "at", "symbol", "best", "ahead", "other", "more", "need_now", "names"] "chains_to" (defScope s_chains_to) fa cdv A outer s H E).nox k := ⟨rfl, sc_chains_to.nd, hr⟩
  (b_cons (s_set 2 d (pd_lst pda_nil))
    (b_cons (s_for d PassesOwn.never (pis_enum m_enumerate (pd_var 0)) (pdg_tp d.calm (pdg_cons (pdg_nm 3 d.nd) (pdg_cons (pdg_nm 4 d.nd) pdg_nil))) (b_cons (s_set 5 d (pd_lst pda_nil))
    (b_cons (s_for d PassesOwn.never (pis_enum m_enumerate (pd_sl (pd_var 0) po_noned (po_somed (pd_var 3)))) (pdg_tp d.calm (pdg_cons (pdg_nm 6 d.nd) (pdg_cons (pdg_nm 7 d.nd) pdg_nil))) (b_cons (s_set 8 d (pd_bin op_subD (pd_fn f_room_for hr (pda_cons (pd_var 7) (pda_cons (pd_var 4) (pda_cons (pd_var 1) pda_nil)))) (pd_bin op_subD (pd_ix (pd_var 4) pd_int) (pd_ix (pd_var 7) pd_int))))
    (b_cons (s_mut1 mut_append PySem.F.slot_list_append PySem.F.type_list_append mt_append 5 (pda_cons (pd_tup (pda_cons (pd_var 8) (pda_cons (pd_fz (pd_lst (pda_cons (pd_ix (pd_var 7) pd_int) (pda_cons (pd_ix (pd_var 4) pd_int) pda_nil)))) pda_nil))) pda_nil))
    (b_wipe [7] (b_cons (s_mut1 mut_extS PySem.F.slot_list_extend PySem.F.type_list_extend mt_extS 5 (pda_cons (pd_fz (pd_lc (own := [("need_now", 9), ("names", 10)]) ⟨d.calm, d.nd, d.room⟩ (pic_any (pd_ix (pd_var 2) (pd_var 6))) (by kernel_rfl) (by decide) (fun _ _ _ _ _ => (pdg_tp d.calm (pdg_cons (pdg_nm 9 d.nd) (pdg_cons (pdg_nm 10 d.nd) pdg_nil)))) (fun _ _ _ _ _ => pts_nild) (fun _ _ _ _ _ => (pd_tup (pda_cons (pd_bin op_addD (pd_var 9) (pd_var 8)) (pda_cons (pd_bin op_addD (pd_var 10) (pd_lst (pda_cons (pd_ix (pd_var 4) pd_int) pda_nil))) pda_nil)))))) pda_nil))
    (b_nilW [6, 8]))))))
    (b_wipe [3, 4] (b_frz 5 (b_cons (s_mut1 mut_append PySem.F.slot_list_append PySem.F.type_list_append mt_append 2 (pda_cons (pd_fz (pd_fn f_greatest_of hr (pda_cons (pd_var 5) pda_nil))) pda_nil))
    (b_nilW [5])))))))
    (b_one (s_retV 2))))
theorem ok_chains_to {P : Program} {w : World} {K : PySem.W.Frag} {mg : Str → Option Value} {base : Heap} {k : Nat} (m_enumerate : mg "enumerate" = none) (f_room_for : Fd P w K mg base k "room_for" S_room_for) (f_greatest_of : Fd P w K mg base k "greatest_of" S_greatest_of) {f : Addr} {fd : FuncData} (F : FnP K "chains_to" s_chains_to f fd) (gm : mg "chains_to" = some (.ref f)) {S : DSpec} (hS : ∀ ds Q, S ds Q → ds.length = 2 ∧ t_chains_to (endD Q) (startE 11 ds)) : Fd P w K mg base (k + 1) "chains_to" S :=
  Fd.of F gm sc_chains_to (fun _ _ _ _ _ _ us hl => match us, hl with | [_, _], _ => rfl) (fun cdv A outer s H E hr => w_chains_to m_enumerate f_room_for f_greatest_of cdv A outer s H E hr) hS
theorem p_chains_to_of (c : ∀ (x0 : (List (OkS × Int × Int))) (x1 : Int), Pre_chains_to x0 x1 → ∀ K : (List (List (Int × (List OkS)))) → Prop, K (m_chains_to x0 x1) → W_chains_to x0 x1 K) : ∀ ds Q, S_chains_to ds Q → ds.length = 2 ∧ t_chains_to (endD Q) (startE 11 ds) := by
  rintro ds Q ⟨x0, x1, rfl, hp, q⟩
  exact ⟨rfl, wt_chains_to (N := endD Q) x0 x1 (rt := fun r => Q ((eL .o (eL .f (eT2 eI (eL .f eS)))) r)) (fun r h => ⟨Np.h (e := (eL .o (eL .f (eT2 eI (eL .f eS))))) r, h⟩) (c x0 x1 hp _ q)⟩

theorem sc_greatest_of : FnScope ["rows", "top", "good", "need_now", "names"] ["rows"] (defScope s_greatest_of) := ⟨rfl, rfl, rfl, by decide +kernel, rfl, by decide +kernel, by decide +kernel⟩
def t_greatest_of_2 : DS := (dSeq (dAsg (.nm 2) (dLc (dIter itemsC (dVar 0)) [3, 4] (.tp (.cons (.nm 3) (.cons (.nm 4) .nil))) (dB (dBin (o2 (eqO id)) (dVar 3) (dVar 1))) (dVar 4))) (dSeq (dFrz 2) (dRet (dLst (dCons (dTup (dCons (dVar 1) (dCons (dUn (o1 minKD) (dVar 2)) dNil))) dNil)))))
def W_greatest_of_2 (v_rows : (List (Int × (List OkS)))) (v_top : Int) (rt : (List (Int × (List OkS))) → Prop) : Prop := ((v_rows).length ≤ 1000000) ∧ (((((v_rows).filter (fun x2 => decide (x2.1 = v_top))).map (fun (x2 : (Int × (List OkS))) => x2.2)) ≠ []) ∧ (rt [(v_top, (bestS (((v_rows).filter (fun x2 => decide (x2.1 = v_top))).map (fun (x2 : (Int × (List OkS))) => x2.2))))]))
theorem wt_greatest_of_2 {N : DE} (v_rows : (List (Int × (List OkS)))) (v_top : Int) {rt : (List (Int × (List OkS))) → Prop} (hrt : ∀ r, rt r → N.rt ((eL .o (eT2 eI (eL .f eS))) r)) (h : W_greatest_of_2 v_rows v_top rt) : t_greatest_of_2 N [some ((eL .f (eT2 eI (eL .f eS))) v_rows), some (eI v_top), none, none, none] :=
  (w_setS (d := (eL .o (eL .f eS)) (((v_rows).filter (fun x2 => decide (x2.1 = v_top))).map (fun (x2 : (Int × (List OkS))) => x2.2))) 2 (by exact (ev_lc (eX := (eT2 eI (eL .f eS))) (eY := (eL .f eS)) (l := v_rows) (c := fun x2 => decide (x2.1 = v_top)) (f := (fun (x2 : (Int × (List OkS))) => x2.2)) (fun x2 => [some ((eL .f (eT2 eI (eL .f eS))) v_rows), some (eI v_top), none, some (eI x2.1), some ((eL .f eS) x2.2)]) (ei_C (e := (eT2 eI (eL .f eS))) (ev_var 0 (e := (eL .f (eT2 eI (eL .f eS)))) (e' := (eL .f (eT2 eI (eL .f eS)))) (v := v_rows) rfl)) h.1 (fun x2 N q => (g_tp (gs_cons (g_nm (gs_cons (g_nm (gs_nil q))))))) (fun x2 hx => (et_b (ev_bin (ev_var 3 (e := eI) (e' := eI) (v := x2.1) rfl) (ev_var 1 (e := eI) (e' := eI) (v := v_top) rfl) (o_eq (e := eI) (e' := eI) (u := x2.1) (v := v_top))))) (fun x2 hx hk => (ev_var 4 (e := (eL .f eS)) (e' := (eL .f eS)) (v := x2.2) rfl)))) (Nb.h (e := (eL .o (eL .f eS))) _) (w_frzS 2 (e := (eL .o (eL .f eS))) (e' := (eL .f (eL .f eS))) (v := (((v_rows).filter (fun x2 => decide (x2.1 = v_top))).map (fun (x2 : (Int × (List OkS))) => x2.2))) rfl (w_ret (d := (eL .o (eT2 eI (eL .f eS))) [(v_top, (bestS (((v_rows).filter (fun x2 => decide (x2.1 = v_top))).map (fun (x2 : (Int × (List OkS))) => x2.2))))]) (ev_lstT (e := (eT2 eI (eL .f eS))) [(v_top, (bestS (((v_rows).filter (fun x2 => decide (x2.1 = v_top))).map (fun (x2 : (Int × (List OkS))) => x2.2))))] (ea_cons (ev_tup2 (a := eI) (x := v_top) (b := (eL .f eS)) (y := (bestS (((v_rows).filter (fun x2 => decide (x2.1 = v_top))).map (fun (x2 : (Int × (List OkS))) => x2.2)))) (ev_var 1 (e := eI) (e' := eI) (v := v_top) rfl) (ev_un (ev_var 2 (e := (eL .f (eL .f eS))) (e' := (eL .f (eL .f eS))) (v := (((v_rows).filter (fun x2 => decide (x2.1 = v_top))).map (fun (x2 : (Int × (List OkS))) => x2.2))) rfl) (o_minK (f := .f) (l := (((v_rows).filter (fun x2 => decide (x2.1 = v_top))).map (fun (x2 : (Int × (List OkS))) => x2.2))) h.2.1))) ea_nil) (Nat.le_of_ble_eq_true rfl)) (Rt.h (e := (eL .o (eT2 eI (eL .f eS)))) (e' := (eL .o (eT2 eI (eL .f eS)))) _) (by exact hrt _ h.2.2))))
def t_greatest_of_1 : DS := (dSeq (dAsg (.nm 1) (dCall (o1 maxD) (dCons (dLc (dIter itemsC (dVar 0)) [3, 4] (.tp (.cons (.nm 3) (.cons (.nm 4) .nil))) dYes (dVar 3)) dNil))) t_greatest_of_2)
def W_greatest_of_1 (v_rows : (List (Int × (List OkS)))) (rt : (List (Int × (List OkS))) → Prop) : Prop := ((v_rows).length ≤ 1000000) ∧ (((v_rows).map (fun (x1 : (Int × (List OkS))) => x1.1)) ≠ []) ∧ (W_greatest_of_2 v_rows (maxL ((v_rows).map (fun (x1 : (Int × (List OkS))) => x1.1))) rt)
theorem wt_greatest_of_1 {N : DE} (v_rows : (List (Int × (List OkS)))) {rt : (List (Int × (List OkS))) → Prop} (hrt : ∀ r, rt r → N.rt ((eL .o (eT2 eI (eL .f eS))) r)) (h : W_greatest_of_1 v_rows rt) : t_greatest_of_1 N [some ((eL .f (eT2 eI (eL .f eS))) v_rows), none, none, none, none] :=
  (w_setS (d := eI (maxL ((v_rows).map (fun (x1 : (Int × (List OkS))) => x1.1)))) 1 (ev_call (ea_cons (ev_lcM (eX := (eT2 eI (eL .f eS))) (eY := eI) (l := v_rows) (f := (fun (x1 : (Int × (List OkS))) => x1.1)) (fun x1 => [some ((eL .f (eT2 eI (eL .f eS))) v_rows), none, none, some (eI x1.1), some ((eL .f eS) x1.2)]) (ei_C (e := (eT2 eI (eL .f eS))) (ev_var 0 (e := (eL .f (eT2 eI (eL .f eS)))) (e' := (eL .f (eT2 eI (eL .f eS)))) (v := v_rows) rfl)) h.1 (fun x1 N q => (g_tp (gs_cons (g_nm (gs_cons (g_nm (gs_nil q))))))) (fun x1 hx => (ev_var 3 (e := eI) (e' := eI) (v := x1.1) rfl))) ea_nil) (by exact (o_maxL h.2.1))) (Nb.h (e := eI) _) (wt_greatest_of_2 (N := N) v_rows (maxL ((v_rows).map (fun (x1 : (Int × (List OkS))) => x1.1))) hrt h.2.2))
def t_greatest_of : DS := (dSeq (dIfS (dB (dBin (o2 (eqO id)) (dVar 0) (dLst dNil))) (dRet (dLst dNil)) dNext) t_greatest_of_1)
def W_greatest_of (v_rows : (List (Int × (List OkS)))) (rt : (List (Int × (List OkS))) → Prop) : Prop := ((v_rows = ([] : List (Int × (List OkS)))) → (rt ([] : List (Int × (List OkS))))) ∧ (¬ (v_rows = ([] : List (Int × (List OkS)))) → (W_greatest_of_1 v_rows rt))
theorem wt_greatest_of {N : DE} (v_rows : (List (Int × (List OkS)))) {rt : (List (Int × (List OkS))) → Prop} (hrt : ∀ r, rt r → N.rt ((eL .o (eT2 eI (eL .f eS))) r)) (h : W_greatest_of v_rows rt) : t_greatest_of N [some ((eL .f (eT2 eI (eL .f eS))) v_rows), none, none, none, none] :=
  (w_ifSS (et_b (ev_bin (ev_var 0 (e := (eL .f (eT2 eI (eL .f eS)))) (e' := (eL .f (eT2 eI (eL .f eS)))) (v := v_rows) rfl) (ev_lstT (e := (eT2 eI (eL .f eS))) [] ea_nil (Nat.le_of_ble_eq_true rfl)) (o_eq (e := (eL .f (eT2 eI (eL .f eS)))) (e' := (eL .o (eT2 eI (eL .f eS)))) (u := v_rows) (v := ([] : List (Int × (List OkS))))))) (fun hk => (w_ret (d := (eL .o (eT2 eI (eL .f eS))) ([] : List (Int × (List OkS)))) (ev_lstT (e := (eT2 eI (eL .f eS))) [] ea_nil (Nat.le_of_ble_eq_true rfl)) (Rt.h (e := (eL .o (eT2 eI (eL .f eS)))) (e' := (eL .o (eT2 eI (eL .f eS)))) _) (by exact hrt _ (h.1 (of_decide_eq_true hk))))) (fun hk => (w_next (nx_i (wt_greatest_of_1 (N := N) v_rows hrt (h.2 (of_decide_eq_false hk)))))))
theorem w_greatest_of {P : Program} {w : World} {K : PySem.W.Frag} {mg : Str → Option Value} {base : Heap} {k : Nat} (m_max : mg "max" = none) (m_min : mg "min" = none) (m_len : mg "len" = none) {fa : Addr} (cdv : Value) (A : Around) (outer : List PySem.Env) (s : Shared) (H : Hp) (E : XK) (hl : LamAt (cxOf CX0 P w K mg base ["rows", "top", "good", "need_now", "names"] "greatest_of" (defScope s_greatest_of) fa cdv A outer s H E).nox) (hr : Room k (A.deeper (envOfC "greatest_of" (defScope s_greatest_of) s.heap.objs.size fa cdv))) :
    PDB (cxOf CX0 P w K mg base ["rows", "top", "good", "need_now", "names"] "greatest_of" (defScope s_greatest_of) fa cdv A outer s H E).nox (defBody s_greatest_of) t_greatest_of :=
  have d : Gd (cxOf CX0 P w K mg base ["rows", "top", "good", "need_now", "names"] "greatest_of" (defScope s_greatest_of) fa cdv A outer s H E).nox k := ⟨rfl, sc_greatest_of.nd, hr⟩
  (b_cons (s_if (pt_cmpd (op_eqO d.u') (pd_var 0) (pd_lst pda_nil)) (b_one (s_ret (pd_lst pda_nil))) b_nil)
    (b_cons (s_set 1 d (pd_callB (cr_maxD d.calm) m_max (pda_cons (pd_lc (own := [("need_now", 3), ("names", 4)]) ⟨d.calm, d.nd, d.room⟩ (pic_any (pd_var 0)) (by kernel_rfl) (by decide) (fun _ _ _ _ _ => (pdg_tp d.calm (pdg_cons (pdg_nm 3 d.nd) (pdg_cons (pdg_nm 4 d.nd) pdg_nil)))) (fun _ _ _ _ _ => pts_nild) (fun _ _ _ _ _ => (pd_var 3))) pda_nil) bo_max))
    (b_cons (s_setLc 2 (own := [("need_now", 3), ("names", 4)]) ⟨d.calm, d.nd, d.room⟩ (pic_any (pd_var 0)) (by kernel_rfl) (by decide) (fun _ _ _ _ _ => (pdg_tp d.calm (pdg_cons (pdg_nm 3 d.nd) (pdg_cons (pdg_nm 4 d.nd) pdg_nil)))) (fun _ _ _ _ _ => (pts_oned (pt_cmpd (op_eqO d.u') (pd_var 3) (pd_var 1)))) (fun _ _ _ _ _ => (pd_var 4)))
    (b_frz 2 (b_one (s_ret (pd_lst (pda_cons (pd_tup (pda_cons (pd_var 1) (pda_cons (pd_minK (x := "names") d hl m_min m_len (pd_var 2) rfl rfl rfl rfl rfl (fun _ _ _ _ _ => rfl) (by decide) (by decide) ⟨_, _, _, _, _, _, rfl⟩) pda_nil))) pda_nil))))))))
theorem ok_greatest_of {P : Program} {w : World} {K : PySem.W.Frag} {mg : Str → Option Value} {base : Heap} {k : Nat} (m_max : mg "max" = none) (m_min : mg "min" = none) (m_len : mg "len" = none) {f : Addr} {fd : FuncData} (F : FnP K "greatest_of" s_greatest_of f fd) (gm : mg "greatest_of" = some (.ref f)) (lam : LamF K base mg f "greatest_of") {S : DSpec} (hS : ∀ ds Q, S ds Q → ds.length = 1 ∧ t_greatest_of (endD Q) (startE 5 ds)) : Fd P w K mg base (k + 1) "greatest_of" S :=
  Fd.ofL F gm sc_greatest_of (fun _ _ _ _ _ _ us hl => match us, hl with | [_], _ => rfl) lam (fun cdv A outer s H E hl hr => w_greatest_of m_max m_min m_len cdv A outer s H E hl hr) hS
theorem p_greatest_of_of (c : ∀ (x0 : (List (Int × (List OkS)))), Pre_greatest_of x0 → ∀ K : (List (Int × (List OkS))) → Prop, K (m_greatest_of x0) → W_greatest_of x0 K) : ∀ ds Q, S_greatest_of ds Q → ds.length = 1 ∧ t_greatest_of (endD Q) (startE 5 ds) := by
  rintro ds Q ⟨x0, rfl, hp, q⟩
  exact ⟨rfl, wt_greatest_of (N := endD Q) x0 (rt := fun r => Q ((eL .o (eT2 eI (eL .f eS))) r)) (fun r h => ⟨Np.h (e := (eL .o (eT2 eI (eL .f eS)))) r, h⟩) (c x0 hp _ q)⟩

theorem sc_worst_chain : FnScope ["symbols", "size", "every", "pairs", "pair"] ["symbols", "size"] (defScope s_worst_chain) := ⟨rfl, rfl, rfl, by decide +kernel, rfl, by decide +kernel, by decide +kernel⟩
def t_worst_chain_1 : DS := (dSeq (dIfS (dOrT (dB (dBin (o2 (eqO id)) (dVar 2) (dLst dNil))) (dB (dBin (o2 leO) (dBin (o2 ixD) (dBin (o2 ixD) (dVar 2) (dC (.int 0))) (dC (.int 0))) (dC (.int 0))))) (dRet (dC .non)) dNext) (dRet (dBin (o2 ixD) (dVar 2) (dC (.int 0)))))
def W_worst_chain_1 (v_every : (List (Int × (List OkS)))) (rt : (Option (Int × (List OkS))) → Prop) : Prop := ((decide (v_every = ([] : List (Int × (List OkS))))) = false → (((atI v_every (0 : Int)).isSome = true))) ∧ (((decide (v_every = ([] : List (Int × (List OkS)))) || decide ((gI v_every (0 : Int)).1 ≤ (0 : Int))) = true → (rt (none : (Option (Int × (List OkS)))))) ∧ ((decide (v_every = ([] : List (Int × (List OkS)))) || decide ((gI v_every (0 : Int)).1 ≤ (0 : Int))) = false → (((atI v_every (0 : Int)).isSome = true) ∧ (rt (some (gI v_every (0 : Int)))))))
theorem wt_worst_chain_1 {N : DE} (v_every : (List (Int × (List OkS)))) {rt : (Option (Int × (List OkS))) → Prop} (hrt : ∀ r, rt r → N.rt ((eO (eT2 eI (eL .f eS))) r)) (h : W_worst_chain_1 v_every rt) : t_worst_chain_1 N [none, none, some ((eL .f (eT2 eI (eL .f eS))) v_every), none, none] :=
  (w_ifSS (et_or (et_b (ev_bin (ev_var 2 (e := (eL .f (eT2 eI (eL .f eS)))) (e' := (eL .f (eT2 eI (eL .f eS)))) (v := v_every) rfl) (ev_lstT (e := (eT2 eI (eL .f eS))) [] ea_nil (Nat.le_of_ble_eq_true rfl)) (o_eq (e := (eL .f (eT2 eI (eL .f eS)))) (e' := (eL .o (eT2 eI (eL .f eS)))) (u := v_every) (v := ([] : List (Int × (List OkS))))))) (fun k3 => (et_b (ev_bin (ev_bin (ev_bin (ev_var 2 (e := (eL .f (eT2 eI (eL .f eS)))) (e' := (eL .f (eT2 eI (eL .f eS)))) (v := v_every) rfl) (ev_c (d := eI 0)) (o_ixL (e := (eT2 eI (eL .f eS))) (h.1 k3))) (ev_c (d := eI 0)) (o_ixT (ds := [eI (gI v_every (0 : Int)).1, (eL .f eS) (gI v_every (0 : Int)).2]) (d := eI (gI v_every (0 : Int)).1) rfl)) (ev_c (d := eI 0)) (@o_le _ (gI v_every (0 : Int)).1 (0 : Int)))))) (fun hk => (w_ret (d := (eO (eT2 eI (eL .f eS))) (none : (Option (Int × (List OkS))))) (ev_c (d := eU ())) (Rt.h (e := (eO (eT2 eI (eL .f eS)))) (e' := (eO (eT2 eI (eL .f eS)))) _) (by exact hrt _ (h.2.1 hk)))) (fun hk => (w_next (nx_i (w_ret (d := (eO (eT2 eI (eL .f eS))) (some (gI v_every (0 : Int)))) (ev_bin (ev_var 2 (e := (eL .f (eT2 eI (eL .f eS)))) (e' := (eL .f (eT2 eI (eL .f eS)))) (v := v_every) rfl) (ev_c (d := eI 0)) (o_ixL (e := (eT2 eI (eL .f eS))) (h.2.2 hk).1)) (Rt.h (e := (eO (eT2 eI (eL .f eS)))) (e' := (eO (eT2 eI (eL .f eS)))) _) (by exact hrt _ (h.2.2 hk).2))))))
def t_worst_chain : DS := (dSeq (dAsg (.nm 2) (dFn S_greatest_of (dCons (dFz (dLc2 (dIter itemsC (dFn S_chains_to (dCons (dFz (dFn S_ordered (dCons (dVar 0) dNil))) (dCons (dVar 1) dNil)))) [3, 4] (.nm 3) dYes (dIter itemsC (dVar 3)) [4] (.nm 4) dYes (dVar 4))) dNil))) (dSeq (dFrz 2) (dSeq (dWipe [0, 1]) t_worst_chain_1)))
def W_worst_chain (v_symbols : (List (OkS × Int × Int))) (v_size : Int) (rt : (Option (Int × (List OkS))) → Prop) : Prop := (Pre_ordered v_symbols) ∧ (Pre_chains_to (m_ordered v_symbols) v_size) ∧ ((((m_chains_to (m_ordered v_symbols) v_size)).flatMap (fun x1 => x1)).length ≤ 1000000) ∧ (Pre_greatest_of (((m_chains_to (m_ordered v_symbols) v_size)).flatMap (fun x1 => x1.map (fun y2 => y2)))) ∧ (W_worst_chain_1 (m_greatest_of (((m_chains_to (m_ordered v_symbols) v_size)).flatMap (fun x1 => x1.map (fun y2 => y2)))) rt)
theorem wt_worst_chain {N : DE} (v_symbols : (List (OkS × Int × Int))) (v_size : Int) {rt : (Option (Int × (List OkS))) → Prop} (hrt : ∀ r, rt r → N.rt ((eO (eT2 eI (eL .f eS))) r)) (h : W_worst_chain v_symbols v_size rt) : t_worst_chain N [some ((eL .f (eT3 eS eI eI)) v_symbols), some (eI v_size), none, none, none] :=
  (w_setS (d := (eL .o (eT2 eI (eL .f eS))) (m_greatest_of (((m_chains_to (m_ordered v_symbols) v_size)).flatMap (fun x1 => x1.map (fun y2 => y2))))) 2 (ev_fn (ea_cons (ev_fz (a := (eL .o (eT2 eI (eL .f eS)))) (a' := (eL .f (eT2 eI (eL .f eS)))) (ev_lc2M (eX := (eL .f (eT2 eI (eL .f eS)))) (eY := (eT2 eI (eL .f eS))) (eZ := (eT2 eI (eL .f eS))) (l := (m_chains_to (m_ordered v_symbols) v_size)) (l1 := (fun x1 => x1)) (f := (fun x1 y2 => y2)) (fun x1 => [some ((eL .f (eT3 eS eI eI)) v_symbols), some (eI v_size), none, some ((eL .f (eT2 eI (eL .f eS))) x1), none]) (fun x1 y2 => [some ((eL .f (eT3 eS eI eI)) v_symbols), some (eI v_size), none, some ((eL .f (eT2 eI (eL .f eS))) x1), some ((eT2 eI (eL .f eS)) y2)]) (ei_C (e := (eL .f (eT2 eI (eL .f eS)))) (ev_fn (ea_cons (ev_fz (a := (eL .o (eT3 eS eI eI))) (a' := (eL .f (eT3 eS eI eI))) (ev_fn (ea_cons (ev_var 0 (e := (eL .f (eT3 eS eI eI))) (e' := (eL .f (eT3 eS eI eI))) (v := v_symbols) rfl) ea_nil) (fz_c (Fz.h (e := (eL .f (eT3 eS eI eI))) (e' := (eL .f (eT3 eS eI eI))) _) fz_n) (fl_c (FlC.h (b := true) (e := (eL .f (eT3 eS eI eI))) _) fl_n) (s_ordered_c h.1))) (ea_cons (ev_var 1 (e := eI) (e' := eI) (v := v_size) rfl) ea_nil)) (fz_c (Fz.h (e := (eL .f (eT3 eS eI eI))) (e' := (eL .f (eT3 eS eI eI))) _) (fz_c (Fz.h (e := eI) (e' := eI) _) fz_n)) (fl_c (FlC.h (b := true) (e := (eL .f (eT3 eS eI eI))) _) (fl_c (FlC.h (b := true) (e := eI) _) fl_n)) (s_chains_to_c h.2.1))) h.2.2.1 (fun x1 N q => (g_nm q)) (fun x1 hx => (ei_C (e := (eT2 eI (eL .f eS))) (ev_var 3 (e := (eL .f (eT2 eI (eL .f eS)))) (e' := (eL .f (eT2 eI (eL .f eS)))) (v := x1) rfl))) (fun x1 y2 N q => (g_nm q)) (fun x1 hx y2 hy => (ev_var 4 (e := (eT2 eI (eL .f eS))) (e' := (eT2 eI (eL .f eS))) (v := y2) rfl)))) ea_nil) (fz_c (Fz.h (e := (eL .f (eT2 eI (eL .f eS)))) (e' := (eL .f (eT2 eI (eL .f eS)))) _) fz_n) (fl_c (FlC.h (b := true) (e := (eL .f (eT2 eI (eL .f eS)))) _) fl_n) (s_greatest_of_c h.2.2.2.1)) (Nb.h (e := (eL .o (eT2 eI (eL .f eS)))) _) (w_frzS 2 (e := (eL .o (eT2 eI (eL .f eS)))) (e' := (eL .f (eT2 eI (eL .f eS)))) (v := (m_greatest_of (((m_chains_to (m_ordered v_symbols) v_size)).flatMap (fun x1 => x1.map (fun y2 => y2))))) rfl (w_wipeS (wt_worst_chain_1 (N := N) (m_greatest_of (((m_chains_to (m_ordered v_symbols) v_size)).flatMap (fun x1 => x1.map (fun y2 => y2)))) hrt h.2.2.2.2) rfl)))
theorem w_worst_chain {P : Program} {w : World} {K : PySem.W.Frag} {mg : Str → Option Value} {base : Heap} {k : Nat} (f_greatest_of : Fd P w K mg base k "greatest_of" S_greatest_of) (f_chains_to : Fd P w K mg base k "chains_to" S_chains_to) (f_ordered : Fd P w K mg base k "ordered" S_ordered) {fa : Addr} (cdv : Value) (A : Around) (outer : List PySem.Env) (s : Shared) (H : Hp) (E : XK) (hr : Room k (A.deeper (envOfC "worst_chain" (defScope s_worst_chain) s.heap.objs.size fa cdv))) :
    PDB (cxOf CX0 P w K mg base ["symbols", "size", "every", "pairs", "pair"] "worst_chain" (defScope s_worst_chain) fa cdv A outer s H E).nox (defBody s_worst_chain) t_worst_chain :=
  have d : Gd (cxOf CX0 P w K mg base ["symbols", "size", "every", "pairs", "pair"] "worst_chain" (defScope s_worst_chain) fa cdv A outer s H E).nox k := ⟨rfl, sc_worst_chain.nd, hr⟩
  (b_cons (s_set 2 d (pd_fn f_greatest_of hr (pda_cons (pd_fz (pd_lc2 (own := [("pairs", 3), ("pair", 4)]) [4] ⟨d.calm, d.nd, d.room⟩ (pic_any (pd_fn f_chains_to hr (pda_cons (pd_fz (pd_fn f_ordered hr (pda_cons (pd_var 0) pda_nil))) (pda_cons (pd_var 1) pda_nil)))) (by kernel_rfl) (by decide) (by decide) (by decide) (fun _ _ _ _ _ => (pdg_nm 3 d.nd)) (fun _ _ _ _ _ => pts_nild) (fun _ _ _ _ _ => (pic_any (pd_var 3))) (fun _ _ _ _ _ => (pdg_nm 4 d.nd)) (fun _ _ _ _ _ => pts_nild) (fun _ _ _ _ _ => (pd_var 4)))) pda_nil)))
    (b_frz 2 (b_wipe [0, 1] (b_cons (s_if (pt_pw (pw_ord (pt_cmpd (op_eqO d.u') (pd_var 2) (pd_lst pda_nil)) (pw_or1d (pt_cmpd op_leD (pd_ix (pd_ix (pd_var 2) pd_int) pd_int) pd_int)))) (b_one (s_ret pd_non)) b_nil)
    (b_one (s_ret (pd_ix (pd_var 2) pd_int)))))))
theorem ok_worst_chain {P : Program} {w : World} {K : PySem.W.Frag} {mg : Str → Option Value} {base : Heap} {k : Nat} (f_greatest_of : Fd P w K mg base k "greatest_of" S_greatest_of) (f_chains_to : Fd P w K mg base k "chains_to" S_chains_to) (f_ordered : Fd P w K mg base k "ordered" S_ordered) {f : Addr} {fd : FuncData} (F : FnP K "worst_chain" s_worst_chain f fd) (gm : mg "worst_chain" = some (.ref f)) {S : DSpec} (hS : ∀ ds Q, S ds Q → ds.length = 2 ∧ t_worst_chain (endD Q) (startE 5 ds)) : Fd P w K mg base (k + 1) "worst_chain" S :=
  Fd.of F gm sc_worst_chain (fun _ _ _ _ _ _ us hl => match us, hl with | [_, _], _ => rfl) (fun cdv A outer s H E hr => w_worst_chain f_greatest_of f_chains_to f_ordered cdv A outer s H E hr) hS
theorem p_worst_chain_of (c : ∀ (x0 : (List (OkS × Int × Int))) (x1 : Int), Pre_worst_chain x0 x1 → ∀ K : (Option (Int × (List OkS))) → Prop, K (m_worst_chain x0 x1) → W_worst_chain x0 x1 K) : ∀ ds Q, S_worst_chain ds Q → ds.length = 2 ∧ t_worst_chain (endD Q) (startE 5 ds) := by
  rintro ds Q ⟨x0, x1, rfl, hp, q⟩
  exact ⟨rfl, wt_worst_chain (N := endD Q) x0 x1 (rt := fun r => Q ((eO (eT2 eI (eL .f eS))) r)) (fun r h => ⟨Np.h (e := (eO (eT2 eI (eL .f eS)))) r, h⟩) (c x0 x1 hp _ q)⟩

theorem sc_least_of : FnScope ["symbols", "size", "found"] ["symbols", "size"] (defScope s_least_of) := ⟨rfl, rfl, rfl, by decide +kernel, rfl, by decide +kernel, by decide +kernel⟩
def t_least_of_1 : DS := (dSeq (dIfS (dB (dBin (o2 (isO id)) (dVar 2) (dC .non))) (dRet (dC (.int 0))) dNext) (dRet (dBin (o2 fdivD) (dBin (o2 addD) (dBin (o2 ixD) (dVar 2) (dC (.int 0))) (dC (.int 1))) (dC (.int 2)))))
def W_least_of_1 (v_found : (Option (Int × (List OkS)))) (rt : Int → Prop) : Prop := (((v_found).isNone) = true → (rt (0 : Int))) ∧ (((v_found).isNone) = false → (((v_found).isSome = true) ∧ (DivOk (2 : Int)) ∧ (rt (((oG v_found).1 + (1 : Int)) / (2 : Int)))))
theorem wt_least_of_1 {N : DE} (v_found : (Option (Int × (List OkS)))) {rt : Int → Prop} (hrt : ∀ r, rt r → N.rt (eI r)) (h : W_least_of_1 v_found rt) : t_least_of_1 N [none, none, some ((eO (eT2 eI (eL .f eS))) v_found)] :=
  (w_ifSS (et_b (ev_bin (ev_var 2 (e := (eO (eT2 eI (eL .f eS)))) (e' := (eO (eT2 eI (eL .f eS)))) (v := v_found) rfl) (ev_c (d := eU ())) (o_isn (e := (eT2 eI (eL .f eS))) (v := v_found)))) (fun hk => (w_ret (d := eI (0 : Int)) (ev_c (d := eI 0)) (Rt.h (e := eI) (e' := eI) _) (by exact hrt _ (h.1 hk)))) (fun hk => (w_next (nx_i (w_ret (d := eI (((oG v_found).1 + (1 : Int)) / (2 : Int))) (ev_bin (ev_bin (ev_bin (ev_O (e := (eT2 eI (eL .f eS))) (v := v_found) (ev_var 2 (e := (eO (eT2 eI (eL .f eS)))) (e' := (eO (eT2 eI (eL .f eS)))) (v := v_found) rfl) (h.2 hk).1) (ev_c (d := eI 0)) (o_ixT (ds := [eI (oG v_found).1, (eL .f eS) (oG v_found).2]) (d := eI (oG v_found).1) rfl)) (ev_c (d := eI 1)) (@o_add _ (oG v_found).1 (1 : Int))) (ev_c (d := eI 2)) (o_fdiv (h.2 hk).2.1)) (Rt.h (e := eI) (e' := eI) _) (by exact hrt _ (h.2 hk).2.2))))))
def t_least_of : DS := (dSeq (dAsg (.nm 2) (dFn S_worst_chain (dCons (dVar 0) (dCons (dVar 1) dNil)))) (dSeq (dWipe [0, 1]) t_least_of_1))
def W_least_of (v_symbols : (List (OkS × Int × Int))) (v_size : Int) (rt : Int → Prop) : Prop := (Pre_worst_chain v_symbols v_size) ∧ (W_least_of_1 (m_worst_chain v_symbols v_size) rt)
theorem wt_least_of {N : DE} (v_symbols : (List (OkS × Int × Int))) (v_size : Int) {rt : Int → Prop} (hrt : ∀ r, rt r → N.rt (eI r)) (h : W_least_of v_symbols v_size rt) : t_least_of N [some ((eL .f (eT3 eS eI eI)) v_symbols), some (eI v_size), none] :=
  (w_setS (d := (eO (eT2 eI (eL .f eS))) (m_worst_chain v_symbols v_size)) 2 (ev_fn (ea_cons (ev_var 0 (e := (eL .f (eT3 eS eI eI))) (e' := (eL .f (eT3 eS eI eI))) (v := v_symbols) rfl) (ea_cons (ev_var 1 (e := eI) (e' := eI) (v := v_size) rfl) ea_nil)) (fz_c (Fz.h (e := (eL .f (eT3 eS eI eI))) (e' := (eL .f (eT3 eS eI eI))) _) (fz_c (Fz.h (e := eI) (e' := eI) _) fz_n)) (fl_c (FlC.h (b := true) (e := (eL .f (eT3 eS eI eI))) _) (fl_c (FlC.h (b := true) (e := eI) _) fl_n)) (s_worst_chain_c h.1)) (Nb.h (e := (eO (eT2 eI (eL .f eS)))) _) (w_wipeS (wt_least_of_1 (N := N) (m_worst_chain v_symbols v_size) hrt h.2) rfl))
theorem w_least_of {P : Program} {w : World} {K : PySem.W.Frag} {mg : Str → Option Value} {base : Heap} {k : Nat} (f_worst_chain : Fd P w K mg base k "worst_chain" S_worst_chain) {fa : Addr} (cdv : Value) (A : Around) (outer : List PySem.Env) (s : Shared) (H : Hp) (E : XK) (hr : Room k (A.deeper (envOfC "least_of" (defScope s_least_of) s.heap.objs.size fa cdv))) :
    PDB (cxOf CX0 P w K mg base ["symbols", "size", "found"] "least_of" (defScope s_least_of) fa cdv A outer s H E).nox (defBody s_least_of) t_least_of :=
  have d : Gd (cxOf CX0 P w K mg base ["symbols", "size", "found"] "least_of" (defScope s_least_of) fa cdv A outer s H E).nox k := ⟨rfl, sc_least_of.nd, hr⟩
  (b_cons (s_set 2 d (pd_fn f_worst_chain hr (pda_cons (pd_var 0) (pda_cons (pd_var 1) pda_nil))))
    (b_wipe [0, 1] (b_cons (s_if (pt_cmpd op_isO (pd_var 2) pd_non) (b_one (s_ret pd_int)) b_nil)
    (b_one (s_ret (pd_bin op_fdivD (pd_bin op_addD (pd_ix (pd_var 2) pd_int) pd_int) pd_int))))))
theorem ok_least_of {P : Program} {w : World} {K : PySem.W.Frag} {mg : Str → Option Value} {base : Heap} {k : Nat} (f_worst_chain : Fd P w K mg base k "worst_chain" S_worst_chain) {f : Addr} {fd : FuncData} (F : FnP K "least_of" s_least_of f fd) (gm : mg "least_of" = some (.ref f)) {S : DSpec} (hS : ∀ ds Q, S ds Q → ds.length = 2 ∧ t_least_of (endD Q) (startE 3 ds)) : Fd P w K mg base (k + 1) "least_of" S :=
  Fd.of F gm sc_least_of (fun _ _ _ _ _ _ us hl => match us, hl with | [_, _], _ => rfl) (fun cdv A outer s H E hr => w_least_of f_worst_chain cdv A outer s H E hr) hS
theorem p_least_of_of (c : ∀ (x0 : (List (OkS × Int × Int))) (x1 : Int), Pre_least_of x0 x1 → ∀ K : Int → Prop, K (m_least_of x0 x1) → W_least_of x0 x1 K) : ∀ ds Q, S_least_of ds Q → ds.length = 2 ∧ t_least_of (endD Q) (startE 3 ds) := by
  rintro ds Q ⟨x0, x1, rfl, hp, q⟩
  exact ⟨rfl, wt_least_of (N := endD Q) x0 x1 (rt := fun r => Q (eI r)) (fun r h => ⟨Np.h (e := eI) r, h⟩) (c x0 x1 hp _ q)⟩

theorem sc_least_move : FnScope ["symbols", "size"] ["symbols", "size"] (defScope s_least_move) := ⟨rfl, rfl, rfl, by decide +kernel, rfl, by decide +kernel, by decide +kernel⟩
def t_least_move_1 : DS := (dSeq (dDrop (dFn S_need_size (dCons (dVar 1) dNil))) (dRet (dFn S_least_of (dCons (dVar 0) (dCons (dVar 1) dNil)))))
def W_least_move_1 (v_symbols : (List (OkS × Int × Int))) (v_size : Int) (rt : Int → Prop) : Prop := (Pre_need_size v_size) ∧ ((Pre_least_of v_symbols v_size) ∧ (rt (m_least_of v_symbols v_size)))
theorem wt_least_move_1 {N : DE} (v_symbols : (List (OkS × Int × Int))) (v_size : Int) {rt : Int → Prop} (hrt : ∀ r, rt r → N.rt (eI r)) (h : W_least_move_1 v_symbols v_size rt) : t_least_move_1 N [some ((eL .f (eT3 eS eI eI)) v_symbols), some (eI v_size)] :=
  (w_dropS (ev_fn (ea_cons (ev_var 1 (e := eI) (e' := eI) (v := v_size) rfl) ea_nil) (fz_c (Fz.h (e := eI) (e' := eI) _) fz_n) (fl_c (FlC.h (b := true) (e := eI) _) fl_n) (s_need_size_c h.1)) (w_ret (d := eI (m_least_of v_symbols v_size)) (ev_fn (ea_cons (ev_var 0 (e := (eL .f (eT3 eS eI eI))) (e' := (eL .f (eT3 eS eI eI))) (v := v_symbols) rfl) (ea_cons (ev_var 1 (e := eI) (e' := eI) (v := v_size) rfl) ea_nil)) (fz_c (Fz.h (e := (eL .f (eT3 eS eI eI))) (e' := (eL .f (eT3 eS eI eI))) _) (fz_c (Fz.h (e := eI) (e' := eI) _) fz_n)) (fl_c (FlC.h (b := true) (e := (eL .f (eT3 eS eI eI))) _) (fl_c (FlC.h (b := true) (e := eI) _) fl_n)) (s_least_of_c h.2.1)) (Rt.h (e := eI) (e' := eI) _) (by exact hrt _ h.2.2)))
def t_least_move : DS := (dSeq (dDrop (dFn S_need_symbols (dCons (dVar 0) dNil))) t_least_move_1)
def W_least_move (v_symbols : (List (OkS × Int × Int))) (v_size : Int) (rt : Int → Prop) : Prop := (Pre_need_symbols v_symbols) ∧ (W_least_move_1 v_symbols v_size rt)
theorem wt_least_move {N : DE} (v_symbols : (List (OkS × Int × Int))) (v_size : Int) {rt : Int → Prop} (hrt : ∀ r, rt r → N.rt (eI r)) (h : W_least_move v_symbols v_size rt) : t_least_move N [some ((eL .f (eT3 eS eI eI)) v_symbols), some (eI v_size)] :=
  (w_dropS (ev_fn (ea_cons (ev_var 0 (e := (eL .f (eT3 eS eI eI))) (e' := (eL .f (eT3 eS eI eI))) (v := v_symbols) rfl) ea_nil) (fz_c (Fz.h (e := (eL .f (eT3 eS eI eI))) (e' := (eL .f (eT3 eS eI eI))) _) fz_n) (fl_c (FlC.h (b := true) (e := (eL .f (eT3 eS eI eI))) _) fl_n) (s_need_symbols_c h.1)) (wt_least_move_1 (N := N) v_symbols v_size hrt h.2))
theorem w_least_move {P : Program} {w : World} {K : PySem.W.Frag} {mg : Str → Option Value} {base : Heap} {k : Nat} (f_need_symbols : Fd P w K mg base k "need_symbols" S_need_symbols) (f_need_size : Fd P w K mg base k "need_size" S_need_size) (f_least_of : Fd P w K mg base k "least_of" S_least_of) {fa : Addr} (cdv : Value) (A : Around) (outer : List PySem.Env) (s : Shared) (H : Hp) (E : XK) (hr : Room k (A.deeper (envOfC "least_move" (defScope s_least_move) s.heap.objs.size fa cdv))) :
    PDB (cxOf CX0 P w K mg base ["symbols", "size"] "least_move" (defScope s_least_move) fa cdv A outer s H E).nox (defBody s_least_move) t_least_move :=
  have d : Gd (cxOf CX0 P w K mg base ["symbols", "size"] "least_move" (defScope s_least_move) fa cdv A outer s H E).nox k := ⟨rfl, sc_least_move.nd, hr⟩
  (b_cons (s_expr (pd_fn f_need_symbols hr (pda_cons (pd_var 0) pda_nil)))
    (b_cons (s_expr (pd_fn f_need_size hr (pda_cons (pd_var 1) pda_nil)))
    (b_one (s_ret (pd_fn f_least_of hr (pda_cons (pd_var 0) (pda_cons (pd_var 1) pda_nil)))))))
theorem ok_least_move {P : Program} {w : World} {K : PySem.W.Frag} {mg : Str → Option Value} {base : Heap} {k : Nat} (f_need_symbols : Fd P w K mg base k "need_symbols" S_need_symbols) (f_need_size : Fd P w K mg base k "need_size" S_need_size) (f_least_of : Fd P w K mg base k "least_of" S_least_of) {f : Addr} {fd : FuncData} (F : FunD K "least_move" "least_move" (defArgs s_least_move) (defBody s_least_move) (defScope s_least_move) [] [("size", V.int (2))] f fd) (gm : mg "least_move" = some (.ref f)) {S : DSpec} (hS : ∀ ds Q, S ds Q → ds.length = 2 ∧ t_least_move (endD Q) (startE 2 ds)) : FdK P w K mg base (k + 1) "least_move" s_least_move ["symbols", "size"] [("size", V.int (2))] S :=
  FdK.of F gm sc_least_move (fun cdv A outer s H E hr => w_least_move f_need_symbols f_need_size f_least_of cdv A outer s H E hr) hS
theorem p_least_move_of (c : ∀ (x0 : (List (OkS × Int × Int))) (x1 : Int), Pre_least_move x0 x1 → ∀ K : Int → Prop, K (m_least_move x0 x1) → W_least_move x0 x1 K) : ∀ ds Q, S_least_move ds Q → ds.length = 2 ∧ t_least_move (endD Q) (startE 2 ds) := by
  rintro ds Q ⟨x0, x1, rfl, hp, q⟩
  exact ⟨rfl, wt_least_move (N := endD Q) x0 x1 (rt := fun r => Q (eI r)) (fun r h => ⟨Np.h (e := eI) r, h⟩) (c x0 x1 hp _ q)⟩

theorem sc_apart_of : FnScope ["symbols", "size", "limit", "found", "name", "x", "y", "low", "other"] ["symbols", "size"] (defScope s_apart_of) := ⟨rfl, rfl, rfl, by decide +kernel, rfl, by decide +kernel, by decide +kernel⟩
def t_apart_of_5 : DS := (dSeq (dAsg (.nm 7) (dCall (o2 max2D) (dCons (dVar 7) (dCons (dBin (o2 addD) (dBin (o2 ixD) (dVar 8) (dC (.int 1))) (dFn S_room_for (dCons (dVar 8) (dCons (dTup (dCons (dVar 4) (dCons (dVar 5) (dCons (dVar 6) dNil)))) (dCons (dVar 1) dNil))))) dNil)))) (dWipe [8]))
def W_apart_of_5 (v_symbols : (List (OkS × Int × Int))) (v_size : Int) (v_limit : Int) (v_found : (List (OkS × Int × Int))) (v_name : OkS) (v_x : Int) (v_y : Int) (v_low : Int) (v_other : (OkS × Int × Int)) (rt : (List (OkS × Int × Int)) → Prop) (nx : Int → Prop) (bk : Int → Prop) (ct : Int → Prop) : Prop := (Pre_room_for v_other (v_name, v_x, v_y) v_size) ∧ (nx (mxI v_low (v_other.2.1 + (m_room_for v_other (v_name, v_x, v_y) v_size))))
theorem wt_apart_of_5 {N : DE} (v_symbols : (List (OkS × Int × Int))) (v_size : Int) (v_limit : Int) (v_found : (List (OkS × Int × Int))) (v_name : OkS) (v_x : Int) (v_y : Int) (v_low : Int) (v_other : (OkS × Int × Int)) {rt : (List (OkS × Int × Int)) → Prop} {nx : Int → Prop} {bk : Int → Prop} {ct : Int → Prop} (hrt : ∀ r, rt r → N.rt ((eL .o (eT3 eS eI eI)) r)) (hnx : ∀ (v_low : Int), nx v_low → N.nx [some ((eL .f (eT3 eS eI eI)) v_symbols), some (eI v_size), some (eI v_limit), some ((eL .o (eT3 eS eI eI)) v_found), some (eS v_name), some (eI v_x), some (eI v_y), some (eI v_low), none]) (hbk : ∀ (v_low : Int), bk v_low → N.bk [some ((eL .f (eT3 eS eI eI)) v_symbols), some (eI v_size), some (eI v_limit), some ((eL .o (eT3 eS eI eI)) v_found), some (eS v_name), some (eI v_x), some (eI v_y), some (eI v_low), none]) (hct : ∀ (v_low : Int), ct v_low → N.ct [some ((eL .f (eT3 eS eI eI)) v_symbols), some (eI v_size), some (eI v_limit), some ((eL .o (eT3 eS eI eI)) v_found), some (eS v_name), some (eI v_x), some (eI v_y), some (eI v_low), none]) (h : W_apart_of_5 v_symbols v_size v_limit v_found v_name v_x v_y v_low v_other rt nx bk ct) : t_apart_of_5 N [some ((eL .f (eT3 eS eI eI)) v_symbols), some (eI v_size), some (eI v_limit), some ((eL .o (eT3 eS eI eI)) v_found), some (eS v_name), some (eI v_x), some (eI v_y), some (eI v_low), some ((eT3 eS eI eI) v_other)] :=
  (w_setS (d := eI (mxI v_low (v_other.2.1 + (m_room_for v_other (v_name, v_x, v_y) v_size)))) 7 (ev_call (ea_cons (ev_var 7 (e := eI) (e' := eI) (v := v_low) rfl) (ea_cons (ev_bin (ev_bin (ev_var 8 (e := (eT3 eS eI eI)) (e' := (eT3 eS eI eI)) (v := v_other) rfl) (ev_c (d := eI 1)) (o_ixT (ds := [eS v_other.1, eI v_other.2.1, eI v_other.2.2]) (d := eI v_other.2.1) rfl)) (ev_fn (ea_cons (ev_var 8 (e := (eT3 eS eI eI)) (e' := (eT3 eS eI eI)) (v := v_other) rfl) (ea_cons (ev_tup3 (a := eS) (x := v_name) (b := eI) (y := v_x) (c := eI) (z := v_y) (ev_var 4 (e := eS) (e' := eS) (v := v_name) rfl) (ev_var 5 (e := eI) (e' := eI) (v := v_x) rfl) (ev_var 6 (e := eI) (e' := eI) (v := v_y) rfl)) (ea_cons (ev_var 1 (e := eI) (e' := eI) (v := v_size) rfl) ea_nil))) (fz_c (Fz.h (e := (eT3 eS eI eI)) (e' := (eT3 eS eI eI)) _) (fz_c (Fz.h (e := (eT3 eS eI eI)) (e' := (eT3 eS eI eI)) _) (fz_c (Fz.h (e := eI) (e' := eI) _) fz_n))) (fl_c (FlC.h (b := true) (e := (eT3 eS eI eI)) _) (fl_c (FlC.h (b := true) (e := (eT3 eS eI eI)) _) (fl_c (FlC.h (b := true) (e := eI) _) fl_n))) (s_room_for_c h.1)) (@o_add _ v_other.2.1 (m_room_for v_other (v_name, v_x, v_y) v_size))) ea_nil)) (by exact (o_max2 (i := v_low) (j := (v_other.2.1 + (m_room_for v_other (v_name, v_x, v_y) v_size)))))) (Nb.h (e := eI) _) (w_wipe (hnx (mxI v_low (v_other.2.1 + (m_room_for v_other (v_name, v_x, v_y) v_size))) h.2) rfl))
def t_apart_of_6 : DS := (dSeq (dMut 3 appM (dCons (dTup (dCons (dVar 4) (dCons (dVar 7) (dCons (dVar 6) dNil)))) dNil) kDrop) (dWipe [4, 6, 7]))
def W_apart_of_6 (v_symbols : (List (OkS × Int × Int))) (v_size : Int) (v_limit : Int) (v_found : (List (OkS × Int × Int))) (v_name : OkS) (v_y : Int) (v_low : Int) (rt : (List (OkS × Int × Int)) → Prop) (nx : (List (OkS × Int × Int)) → Prop) (bk : (List (OkS × Int × Int)) → Prop) (ct : (List (OkS × Int × Int)) → Prop) : Prop := ((v_found).length < 1000000) ∧ (nx (v_found ++ [(v_name, v_low, v_y)]))
theorem wt_apart_of_6 {N : DE} (v_symbols : (List (OkS × Int × Int))) (v_size : Int) (v_limit : Int) (v_found : (List (OkS × Int × Int))) (v_name : OkS) (v_y : Int) (v_low : Int) {rt : (List (OkS × Int × Int)) → Prop} {nx : (List (OkS × Int × Int)) → Prop} {bk : (List (OkS × Int × Int)) → Prop} {ct : (List (OkS × Int × Int)) → Prop} (hrt : ∀ r, rt r → N.rt ((eL .o (eT3 eS eI eI)) r)) (hnx : ∀ (v_found : (List (OkS × Int × Int))), nx v_found → N.nx [some ((eL .f (eT3 eS eI eI)) v_symbols), some (eI v_size), some (eI v_limit), some ((eL .o (eT3 eS eI eI)) v_found), none, none, none, none, none]) (hbk : ∀ (v_found : (List (OkS × Int × Int))), bk v_found → N.bk [some ((eL .f (eT3 eS eI eI)) v_symbols), some (eI v_size), some (eI v_limit), some ((eL .o (eT3 eS eI eI)) v_found), none, none, none, none, none]) (hct : ∀ (v_found : (List (OkS × Int × Int))), ct v_found → N.ct [some ((eL .f (eT3 eS eI eI)) v_symbols), some (eI v_size), some (eI v_limit), some ((eL .o (eT3 eS eI eI)) v_found), none, none, none, none, none]) (h : W_apart_of_6 v_symbols v_size v_limit v_found v_name v_y v_low rt nx bk ct) : t_apart_of_6 N [some ((eL .f (eT3 eS eI eI)) v_symbols), some (eI v_size), some (eI v_limit), some ((eL .o (eT3 eS eI eI)) v_found), some (eS v_name), none, some (eI v_y), some (eI v_low), none] :=
  (m_appendS 3 (e := (eT3 eS eI eI)) (l := v_found) (v := (v_name, v_low, v_y)) rfl (ev_tup3 (a := eS) (x := v_name) (b := eI) (y := v_low) (c := eI) (z := v_y) (ev_var 4 (e := eS) (e' := eS) (v := v_name) rfl) (ev_var 7 (e := eI) (e' := eI) (v := v_low) rfl) (ev_var 6 (e := eI) (e' := eI) (v := v_y) rfl)) (Nb.h (e := (eT3 eS eI eI)) (v_name, v_low, v_y)) h.1 (w_wipe (hnx (v_found ++ [(v_name, v_low, v_y)]) h.2) rfl))
def t_apart_of_4 : DS := (dSeq (dFor (dOwn 3) (.nm 8) t_apart_of_5) (dSeq (dWipe [5]) t_apart_of_6))
def W_apart_of_4 (v_symbols : (List (OkS × Int × Int))) (v_size : Int) (v_limit : Int) (v_found : (List (OkS × Int × Int))) (v_name : OkS) (v_x : Int) (v_y : Int) (v_low : Int) (rt : (List (OkS × Int × Int)) → Prop) (nx : (List (OkS × Int × Int)) → Prop) (bk : (List (OkS × Int × Int)) → Prop) (ct : (List (OkS × Int × Int)) → Prop) : Prop := forW (fun (x2 : (OkS × Int × Int)) (s : Int) nx bk => W_apart_of_5 v_symbols v_size v_limit v_found v_name v_x v_y s x2 rt (fun v_low => nx v_low) (fun v_low => bk v_low) (fun v_low => nx v_low)) (fun s => W_apart_of_6 v_symbols v_size v_limit v_found v_name v_y s rt nx bk ct) v_found v_low
theorem wt_apart_of_4 {N : DE} (v_symbols : (List (OkS × Int × Int))) (v_size : Int) (v_limit : Int) (v_found : (List (OkS × Int × Int))) (v_name : OkS) (v_x : Int) (v_y : Int) (v_low : Int) {rt : (List (OkS × Int × Int)) → Prop} {nx : (List (OkS × Int × Int)) → Prop} {bk : (List (OkS × Int × Int)) → Prop} {ct : (List (OkS × Int × Int)) → Prop} (hrt : ∀ r, rt r → N.rt ((eL .o (eT3 eS eI eI)) r)) (hnx : ∀ (v_found : (List (OkS × Int × Int))), nx v_found → N.nx [some ((eL .f (eT3 eS eI eI)) v_symbols), some (eI v_size), some (eI v_limit), some ((eL .o (eT3 eS eI eI)) v_found), none, none, none, none, none]) (hbk : ∀ (v_found : (List (OkS × Int × Int))), bk v_found → N.bk [some ((eL .f (eT3 eS eI eI)) v_symbols), some (eI v_size), some (eI v_limit), some ((eL .o (eT3 eS eI eI)) v_found), none, none, none, none, none]) (hct : ∀ (v_found : (List (OkS × Int × Int))), ct v_found → N.ct [some ((eL .f (eT3 eS eI eI)) v_symbols), some (eI v_size), some (eI v_limit), some ((eL .o (eT3 eS eI eI)) v_found), none, none, none, none, none]) (h : W_apart_of_4 v_symbols v_size v_limit v_found v_name v_x v_y v_low rt nx bk ct) : t_apart_of_4 N [some ((eL .f (eT3 eS eI eI)) v_symbols), some (eI v_size), some (eI v_limit), some ((eL .o (eT3 eS eI eI)) v_found), some (eS v_name), some (eI v_x), some (eI v_y), some (eI v_low), none] :=
  (w_forS (l := v_found) (fun (s : Int) => [some ((eL .f (eT3 eS eI eI)) v_symbols), some (eI v_size), some (eI v_limit), some ((eL .o (eT3 eS eI eI)) v_found), some (eS v_name), some (eI v_x), some (eI v_y), some (eI s), none]) (eT3 eS eI eI) (ei_own 3 (e := (eT3 eS eI eI)) (l := v_found) rfl) rfl h (fun s h => (w_wipeS (wt_apart_of_6 (N := N) v_symbols v_size v_limit v_found v_name v_y s hrt hnx hbk hct h) rfl)) (fun x2 s nx N' hn hc hb hr h => (g_nm (wt_apart_of_5 (N := N') v_symbols v_size v_limit v_found v_name v_x v_y s x2 (rt_eq hr hrt) (fun v_low hq => (hn v_low hq)) (fun v_low hq => (hb v_low hq)) (fun v_low hq => (hc v_low hq)) h))))
def t_apart_of_3 : DS := (dSeq (dAsg (.nm 7) (dBin (o2 subD) (dVar 5) (dVar 2))) t_apart_of_4)
def W_apart_of_3 (v_symbols : (List (OkS × Int × Int))) (v_size : Int) (v_limit : Int) (v_found : (List (OkS × Int × Int))) (v_name : OkS) (v_x : Int) (v_y : Int) (rt : (List (OkS × Int × Int)) → Prop) (nx : (List (OkS × Int × Int)) → Prop) (bk : (List (OkS × Int × Int)) → Prop) (ct : (List (OkS × Int × Int)) → Prop) : Prop := W_apart_of_4 v_symbols v_size v_limit v_found v_name v_x v_y (v_x - v_limit) rt nx bk ct
theorem wt_apart_of_3 {N : DE} (v_symbols : (List (OkS × Int × Int))) (v_size : Int) (v_limit : Int) (v_found : (List (OkS × Int × Int))) (v_name : OkS) (v_x : Int) (v_y : Int) {rt : (List (OkS × Int × Int)) → Prop} {nx : (List (OkS × Int × Int)) → Prop} {bk : (List (OkS × Int × Int)) → Prop} {ct : (List (OkS × Int × Int)) → Prop} (hrt : ∀ r, rt r → N.rt ((eL .o (eT3 eS eI eI)) r)) (hnx : ∀ (v_found : (List (OkS × Int × Int))), nx v_found → N.nx [some ((eL .f (eT3 eS eI eI)) v_symbols), some (eI v_size), some (eI v_limit), some ((eL .o (eT3 eS eI eI)) v_found), none, none, none, none, none]) (hbk : ∀ (v_found : (List (OkS × Int × Int))), bk v_found → N.bk [some ((eL .f (eT3 eS eI eI)) v_symbols), some (eI v_size), some (eI v_limit), some ((eL .o (eT3 eS eI eI)) v_found), none, none, none, none, none]) (hct : ∀ (v_found : (List (OkS × Int × Int))), ct v_found → N.ct [some ((eL .f (eT3 eS eI eI)) v_symbols), some (eI v_size), some (eI v_limit), some ((eL .o (eT3 eS eI eI)) v_found), none, none, none, none, none]) (h : W_apart_of_3 v_symbols v_size v_limit v_found v_name v_x v_y rt nx bk ct) : t_apart_of_3 N [some ((eL .f (eT3 eS eI eI)) v_symbols), some (eI v_size), some (eI v_limit), some ((eL .o (eT3 eS eI eI)) v_found), some (eS v_name), some (eI v_x), some (eI v_y), none, none] :=
  (w_setS (d := eI (v_x - v_limit)) 7 (ev_bin (ev_var 5 (e := eI) (e' := eI) (v := v_x) rfl) (ev_var 2 (e := eI) (e' := eI) (v := v_limit) rfl) (@o_sub _ v_x v_limit)) (Nb.h (e := eI) _) (wt_apart_of_4 (N := N) v_symbols v_size v_limit v_found v_name v_x v_y (v_x - v_limit) hrt hnx hbk hct h))
def t_apart_of_2 : DS := (dSeq (dFor (dIter itemsS (dFn S_ordered (dCons (dVar 0) dNil))) (.tp (.cons (.nm 4) (.cons (.nm 5) (.cons (.nm 6) .nil)))) t_apart_of_3) (dRetV 3))
def W_apart_of_2 (v_symbols : (List (OkS × Int × Int))) (v_size : Int) (v_limit : Int) (v_found : (List (OkS × Int × Int))) (rt : (List (OkS × Int × Int)) → Prop) : Prop := (Pre_ordered v_symbols) ∧ (forW (fun (x1 : (OkS × Int × Int)) (s : (List (OkS × Int × Int))) nx bk => W_apart_of_3 v_symbols v_size v_limit s x1.1 x1.2.1 x1.2.2 rt (fun v_found => nx v_found) (fun v_found => bk v_found) (fun v_found => nx v_found)) (fun s => rt s) (m_ordered v_symbols) v_found)
theorem wt_apart_of_2 {N : DE} (v_symbols : (List (OkS × Int × Int))) (v_size : Int) (v_limit : Int) (v_found : (List (OkS × Int × Int))) {rt : (List (OkS × Int × Int)) → Prop} (hrt : ∀ r, rt r → N.rt ((eL .o (eT3 eS eI eI)) r)) (h : W_apart_of_2 v_symbols v_size v_limit v_found rt) : t_apart_of_2 N [some ((eL .f (eT3 eS eI eI)) v_symbols), some (eI v_size), some (eI v_limit), some ((eL .o (eT3 eS eI eI)) v_found), none, none, none, none, none] :=
  (w_forS (l := (m_ordered v_symbols)) (fun (s : (List (OkS × Int × Int))) => [some ((eL .f (eT3 eS eI eI)) v_symbols), some (eI v_size), some (eI v_limit), some ((eL .o (eT3 eS eI eI)) s), none, none, none, none, none]) (eT3 eS eI eI) (ei_So (e := (eT3 eS eI eI)) (ev_fn (ea_cons (ev_var 0 (e := (eL .f (eT3 eS eI eI))) (e' := (eL .f (eT3 eS eI eI))) (v := v_symbols) rfl) ea_nil) (fz_c (Fz.h (e := (eL .f (eT3 eS eI eI))) (e' := (eL .f (eT3 eS eI eI))) _) fz_n) (fl_c (FlC.h (b := true) (e := (eL .f (eT3 eS eI eI))) _) fl_n) (s_ordered_c h.1))) rfl h.2 (fun s h => (w_retV 3 (d := (eL .o (eT3 eS eI eI)) s) rfl (hrt _ h))) (fun x1 s nx N' hn hc hb hr h => (g_tp (gs_cons (g_nm (gs_cons (g_nm (gs_cons (g_nm (gs_nil (wt_apart_of_3 (N := N') v_symbols v_size v_limit s x1.1 x1.2.1 x1.2.2 (rt_eq hr hrt) (fun v_found hq => (hn v_found hq)) (fun v_found hq => (hb v_found hq)) (fun v_found hq => (hc v_found hq)) h)))))))))))
def t_apart_of_1 : DS := (dSeq (dAsg (.nm 3) (dLst dNil)) t_apart_of_2)
def W_apart_of_1 (v_symbols : (List (OkS × Int × Int))) (v_size : Int) (v_limit : Int) (rt : (List (OkS × Int × Int)) → Prop) : Prop := W_apart_of_2 v_symbols v_size v_limit ([] : List (OkS × Int × Int)) rt
theorem wt_apart_of_1 {N : DE} (v_symbols : (List (OkS × Int × Int))) (v_size : Int) (v_limit : Int) {rt : (List (OkS × Int × Int)) → Prop} (hrt : ∀ r, rt r → N.rt ((eL .o (eT3 eS eI eI)) r)) (h : W_apart_of_1 v_symbols v_size v_limit rt) : t_apart_of_1 N [some ((eL .f (eT3 eS eI eI)) v_symbols), some (eI v_size), some (eI v_limit), none, none, none, none, none, none] :=
  (w_setS (d := (eL .o (eT3 eS eI eI)) ([] : List (OkS × Int × Int))) 3 (ev_lstT (e := (eT3 eS eI eI)) [] ea_nil (Nat.le_of_ble_eq_true rfl)) (Nb.h (e := (eL .o (eT3 eS eI eI))) _) (wt_apart_of_2 (N := N) v_symbols v_size v_limit ([] : List (OkS × Int × Int)) hrt h))
def t_apart_of : DS := (dSeq (dAsg (.nm 2) (dFn S_least_of (dCons (dVar 0) (dCons (dVar 1) dNil)))) t_apart_of_1)
def W_apart_of (v_symbols : (List (OkS × Int × Int))) (v_size : Int) (rt : (List (OkS × Int × Int)) → Prop) : Prop := (Pre_least_of v_symbols v_size) ∧ (W_apart_of_1 v_symbols v_size (m_least_of v_symbols v_size) rt)
theorem wt_apart_of {N : DE} (v_symbols : (List (OkS × Int × Int))) (v_size : Int) {rt : (List (OkS × Int × Int)) → Prop} (hrt : ∀ r, rt r → N.rt ((eL .o (eT3 eS eI eI)) r)) (h : W_apart_of v_symbols v_size rt) : t_apart_of N [some ((eL .f (eT3 eS eI eI)) v_symbols), some (eI v_size), none, none, none, none, none, none, none] :=
  (w_setS (d := eI (m_least_of v_symbols v_size)) 2 (ev_fn (ea_cons (ev_var 0 (e := (eL .f (eT3 eS eI eI))) (e' := (eL .f (eT3 eS eI eI))) (v := v_symbols) rfl) (ea_cons (ev_var 1 (e := eI) (e' := eI) (v := v_size) rfl) ea_nil)) (fz_c (Fz.h (e := (eL .f (eT3 eS eI eI))) (e' := (eL .f (eT3 eS eI eI))) _) (fz_c (Fz.h (e := eI) (e' := eI) _) fz_n)) (fl_c (FlC.h (b := true) (e := (eL .f (eT3 eS eI eI))) _) (fl_c (FlC.h (b := true) (e := eI) _) fl_n)) (s_least_of_c h.1)) (Nb.h (e := eI) _) (wt_apart_of_1 (N := N) v_symbols v_size (m_least_of v_symbols v_size) hrt h.2))
theorem w_apart_of {P : Program} {w : World} {K : PySem.W.Frag} {mg : Str → Option Value} {base : Heap} {k : Nat} (m_max : mg "max" = none) (f_least_of : Fd P w K mg base k "least_of" S_least_of) (f_ordered : Fd P w K mg base k "ordered" S_ordered) (f_room_for : Fd P w K mg base k "room_for" S_room_for) {fa : Addr} (cdv : Value) (A : Around) (outer : List PySem.Env) (s : Shared) (H : Hp) (E : XK) (hr : Room k (A.deeper (envOfC "apart_of" (defScope s_apart_of) s.heap.objs.size fa cdv))) :
    PDB (cxOf CX0 P w K mg base ["symbols", "size", "limit", "found", "name", "x", "y", "low", "other"] "apart_of" (defScope s_apart_of) fa cdv A outer s H E).nox (defBody s_apart_of) t_apart_of :=
  have d : Gd (cxOf CX0 P w K mg base ["symbols", "size", "limit", "found", "name", "x", "y", "low", "other"] "apart_of" (defScope s_apart_of) fa cdv A outer s H E).nox k := ⟨rfl, sc_apart_of.nd, hr⟩
  (b_cons (s_set 2 d (pd_fn f_least_of hr (pda_cons (pd_var 0) (pda_cons (pd_var 1) pda_nil))))
    (b_cons (s_set 3 d (pd_lst pda_nil))
    (b_cons (s_for d PassesOwn.never (pis_any (pd_fn f_ordered hr (pda_cons (pd_var 0) pda_nil))) (pdg_tp d.calm (pdg_cons (pdg_nm 4 d.nd) (pdg_cons (pdg_nm 5 d.nd) (pdg_cons (pdg_nm 6 d.nd) pdg_nil)))) (b_cons (s_set 7 d (pd_bin op_subD (pd_var 5) (pd_var 2)))
    (b_cons (s_forOwn 3 7 [8] (te := (dCall (o2 max2D) (dCons (dVar 7) (dCons (dBin (o2 addD) (dBin (o2 ixD) (dVar 8) (dC (.int 1))) (dFn S_room_for (dCons (dVar 8) (dCons (dTup (dCons (dVar 4) (dCons (dVar 5) (dCons (dVar 6) dNil)))) (dCons (dVar 1) dNil))))) dNil)))) rfl d PassesOwn.never (pdg_nm 8 d.nd) (pd_callB (cr_max2D d.calm) m_max (pda_cons (pd_var 7) (pda_cons (pd_bin op_addD (pd_ix (pd_var 8) pd_int) (pd_fn f_room_for hr (pda_cons (pd_var 8) (pda_cons (pd_tup (pda_cons (pd_var 4) (pda_cons (pd_var 5) (pda_cons (pd_var 6) pda_nil)))) (pda_cons (pd_var 1) pda_nil))))) pda_nil)) bo_max))
    (b_wipe [5] (b_cons (s_mut1 mut_append PySem.F.slot_list_append PySem.F.type_list_append mt_append 3 (pda_cons (pd_tup (pda_cons (pd_var 4) (pda_cons (pd_var 7) (pda_cons (pd_var 6) pda_nil)))) pda_nil))
    (b_nilW [4, 6, 7]))))))
    (b_one (s_retV 3)))))
theorem ok_apart_of {P : Program} {w : World} {K : PySem.W.Frag} {mg : Str → Option Value} {base : Heap} {k : Nat} (m_max : mg "max" = none) (f_least_of : Fd P w K mg base k "least_of" S_least_of) (f_ordered : Fd P w K mg base k "ordered" S_ordered) (f_room_for : Fd P w K mg base k "room_for" S_room_for) {f : Addr} {fd : FuncData} (F : FnP K "apart_of" s_apart_of f fd) (gm : mg "apart_of" = some (.ref f)) {S : DSpec} (hS : ∀ ds Q, S ds Q → ds.length = 2 ∧ t_apart_of (endD Q) (startE 9 ds)) : Fd P w K mg base (k + 1) "apart_of" S :=
  Fd.of F gm sc_apart_of (fun _ _ _ _ _ _ us hl => match us, hl with | [_, _], _ => rfl) (fun cdv A outer s H E hr => w_apart_of m_max f_least_of f_ordered f_room_for cdv A outer s H E hr) hS
theorem p_apart_of_of (c : ∀ (x0 : (List (OkS × Int × Int))) (x1 : Int), Pre_apart_of x0 x1 → ∀ K : (List (OkS × Int × Int)) → Prop, K (m_apart_of x0 x1) → W_apart_of x0 x1 K) : ∀ ds Q, S_apart_of ds Q → ds.length = 2 ∧ t_apart_of (endD Q) (startE 9 ds) := by
  rintro ds Q ⟨x0, x1, rfl, hp, q⟩
  exact ⟨rfl, wt_apart_of (N := endD Q) x0 x1 (rt := fun r => Q ((eL .o (eT3 eS eI eI)) r)) (fun r h => ⟨Np.h (e := (eL .o (eT3 eS eI eI))) r, h⟩) (c x0 x1 hp _ q)⟩

theorem sc_apart : FnScope ["symbols", "size"] ["symbols", "size"] (defScope s_apart) := ⟨rfl, rfl, rfl, by decide +kernel, rfl, by decide +kernel, by decide +kernel⟩
def t_apart_1 : DS := (dSeq (dDrop (dFn S_need_size (dCons (dVar 1) dNil))) (dRet (dFn S_apart_of (dCons (dVar 0) (dCons (dVar 1) dNil)))))
def W_apart_1 (v_symbols : (List (OkS × Int × Int))) (v_size : Int) (rt : (List (OkS × Int × Int)) → Prop) : Prop := (Pre_need_size v_size) ∧ ((Pre_apart_of v_symbols v_size) ∧ (rt (m_apart_of v_symbols v_size)))
theorem wt_apart_1 {N : DE} (v_symbols : (List (OkS × Int × Int))) (v_size : Int) {rt : (List (OkS × Int × Int)) → Prop} (hrt : ∀ r, rt r → N.rt ((eL .o (eT3 eS eI eI)) r)) (h : W_apart_1 v_symbols v_size rt) : t_apart_1 N [some ((eL .f (eT3 eS eI eI)) v_symbols), some (eI v_size)] :=
  (w_dropS (ev_fn (ea_cons (ev_var 1 (e := eI) (e' := eI) (v := v_size) rfl) ea_nil) (fz_c (Fz.h (e := eI) (e' := eI) _) fz_n) (fl_c (FlC.h (b := true) (e := eI) _) fl_n) (s_need_size_c h.1)) (w_ret (d := (eL .o (eT3 eS eI eI)) (m_apart_of v_symbols v_size)) (ev_fn (ea_cons (ev_var 0 (e := (eL .f (eT3 eS eI eI))) (e' := (eL .f (eT3 eS eI eI))) (v := v_symbols) rfl) (ea_cons (ev_var 1 (e := eI) (e' := eI) (v := v_size) rfl) ea_nil)) (fz_c (Fz.h (e := (eL .f (eT3 eS eI eI))) (e' := (eL .f (eT3 eS eI eI))) _) (fz_c (Fz.h (e := eI) (e' := eI) _) fz_n)) (fl_c (FlC.h (b := true) (e := (eL .f (eT3 eS eI eI))) _) (fl_c (FlC.h (b := true) (e := eI) _) fl_n)) (s_apart_of_c h.2.1)) (Rt.h (e := (eL .o (eT3 eS eI eI))) (e' := (eL .o (eT3 eS eI eI))) _) (by exact hrt _ h.2.2)))
def t_apart : DS := (dSeq (dDrop (dFn S_need_symbols (dCons (dVar 0) dNil))) t_apart_1)
def W_apart (v_symbols : (List (OkS × Int × Int))) (v_size : Int) (rt : (List (OkS × Int × Int)) → Prop) : Prop := (Pre_need_symbols v_symbols) ∧ (W_apart_1 v_symbols v_size rt)
theorem wt_apart {N : DE} (v_symbols : (List (OkS × Int × Int))) (v_size : Int) {rt : (List (OkS × Int × Int)) → Prop} (hrt : ∀ r, rt r → N.rt ((eL .o (eT3 eS eI eI)) r)) (h : W_apart v_symbols v_size rt) : t_apart N [some ((eL .f (eT3 eS eI eI)) v_symbols), some (eI v_size)] :=
  (w_dropS (ev_fn (ea_cons (ev_var 0 (e := (eL .f (eT3 eS eI eI))) (e' := (eL .f (eT3 eS eI eI))) (v := v_symbols) rfl) ea_nil) (fz_c (Fz.h (e := (eL .f (eT3 eS eI eI))) (e' := (eL .f (eT3 eS eI eI))) _) fz_n) (fl_c (FlC.h (b := true) (e := (eL .f (eT3 eS eI eI))) _) fl_n) (s_need_symbols_c h.1)) (wt_apart_1 (N := N) v_symbols v_size hrt h.2))
theorem w_apart {P : Program} {w : World} {K : PySem.W.Frag} {mg : Str → Option Value} {base : Heap} {k : Nat} (f_need_symbols : Fd P w K mg base k "need_symbols" S_need_symbols) (f_need_size : Fd P w K mg base k "need_size" S_need_size) (f_apart_of : Fd P w K mg base k "apart_of" S_apart_of) {fa : Addr} (cdv : Value) (A : Around) (outer : List PySem.Env) (s : Shared) (H : Hp) (E : XK) (hr : Room k (A.deeper (envOfC "apart" (defScope s_apart) s.heap.objs.size fa cdv))) :
    PDB (cxOf CX0 P w K mg base ["symbols", "size"] "apart" (defScope s_apart) fa cdv A outer s H E).nox (defBody s_apart) t_apart :=
  have d : Gd (cxOf CX0 P w K mg base ["symbols", "size"] "apart" (defScope s_apart) fa cdv A outer s H E).nox k := ⟨rfl, sc_apart.nd, hr⟩
  (b_cons (s_expr (pd_fn f_need_symbols hr (pda_cons (pd_var 0) pda_nil)))
    (b_cons (s_expr (pd_fn f_need_size hr (pda_cons (pd_var 1) pda_nil)))
    (b_one (s_ret (pd_fn f_apart_of hr (pda_cons (pd_var 0) (pda_cons (pd_var 1) pda_nil)))))))
theorem ok_apart {P : Program} {w : World} {K : PySem.W.Frag} {mg : Str → Option Value} {base : Heap} {k : Nat} (f_need_symbols : Fd P w K mg base k "need_symbols" S_need_symbols) (f_need_size : Fd P w K mg base k "need_size" S_need_size) (f_apart_of : Fd P w K mg base k "apart_of" S_apart_of) {f : Addr} {fd : FuncData} (F : FunD K "apart" "apart" (defArgs s_apart) (defBody s_apart) (defScope s_apart) [] [("size", V.int (2))] f fd) (gm : mg "apart" = some (.ref f)) {S : DSpec} (hS : ∀ ds Q, S ds Q → ds.length = 2 ∧ t_apart (endD Q) (startE 2 ds)) : FdK P w K mg base (k + 1) "apart" s_apart ["symbols", "size"] [("size", V.int (2))] S :=
  FdK.of F gm sc_apart (fun cdv A outer s H E hr => w_apart f_need_symbols f_need_size f_apart_of cdv A outer s H E hr) hS
theorem p_apart_of (c : ∀ (x0 : (List (OkS × Int × Int))) (x1 : Int), Pre_apart x0 x1 → ∀ K : (List (OkS × Int × Int)) → Prop, K (m_apart x0 x1) → W_apart x0 x1 K) : ∀ ds Q, S_apart ds Q → ds.length = 2 ∧ t_apart (endD Q) (startE 2 ds) := by
  rintro ds Q ⟨x0, x1, rfl, hp, q⟩
  exact ⟨rfl, wt_apart (N := endD Q) x0 x1 (rt := fun r => Q ((eL .o (eT3 eS eI eI)) r)) (fun r h => ⟨Np.h (e := (eL .o (eT3 eS eI eI))) r, h⟩) (c x0 x1 hp _ q)⟩

theorem sc_chain : FnScope ["symbols", "size", "found"] ["symbols", "size"] (defScope s_chain) := ⟨rfl, rfl, rfl, by decide +kernel, rfl, by decide +kernel, by decide +kernel⟩
def t_chain_3 : DS := (dSeq (dIfS (dB (dBin (o2 (isO id)) (dVar 2) (dC .non))) (dRet (dC .non)) dNext) (dRet (dBin (o2 ixD) (dVar 2) (dC (.int 1)))))
def W_chain_3 (v_found : (Option (Int × (List OkS)))) (rt : (Option (List OkS)) → Prop) : Prop := (((v_found).isNone) = true → (rt (none : (Option (List OkS))))) ∧ (((v_found).isNone) = false → (((v_found).isSome = true) ∧ (rt (some (oG v_found).2))))
theorem wt_chain_3 {N : DE} (v_found : (Option (Int × (List OkS)))) {rt : (Option (List OkS)) → Prop} (hrt : ∀ r, rt r → N.rt ((eO (eL .f eS)) r)) (h : W_chain_3 v_found rt) : t_chain_3 N [none, none, some ((eO (eT2 eI (eL .f eS))) v_found)] :=
  (w_ifSS (et_b (ev_bin (ev_var 2 (e := (eO (eT2 eI (eL .f eS)))) (e' := (eO (eT2 eI (eL .f eS)))) (v := v_found) rfl) (ev_c (d := eU ())) (o_isn (e := (eT2 eI (eL .f eS))) (v := v_found)))) (fun hk => (w_ret (d := (eO (eL .f eS)) (none : (Option (List OkS)))) (ev_c (d := eU ())) (Rt.h (e := (eO (eL .f eS))) (e' := (eO (eL .f eS))) _) (by exact hrt _ (h.1 hk)))) (fun hk => (w_next (nx_i (w_ret (d := (eO (eL .f eS)) (some (oG v_found).2)) (ev_bin (ev_O (e := (eT2 eI (eL .f eS))) (v := v_found) (ev_var 2 (e := (eO (eT2 eI (eL .f eS)))) (e' := (eO (eT2 eI (eL .f eS)))) (v := v_found) rfl) (h.2 hk).1) (ev_c (d := eI 1)) (o_ixT (ds := [eI (oG v_found).1, (eL .f eS) (oG v_found).2]) (d := (eL .f eS) (oG v_found).2) rfl)) (Rt.h (e := (eO (eL .f eS))) (e' := (eO (eL .f eS))) _) (by exact hrt _ (h.2 hk).2))))))
def t_chain_2 : DS := (dSeq (dAsg (.nm 2) (dFn S_worst_chain (dCons (dVar 0) (dCons (dVar 1) dNil)))) (dSeq (dWipe [0, 1]) t_chain_3))
def W_chain_2 (v_symbols : (List (OkS × Int × Int))) (v_size : Int) (rt : (Option (List OkS)) → Prop) : Prop := (Pre_worst_chain v_symbols v_size) ∧ (W_chain_3 (m_worst_chain v_symbols v_size) rt)
theorem wt_chain_2 {N : DE} (v_symbols : (List (OkS × Int × Int))) (v_size : Int) {rt : (Option (List OkS)) → Prop} (hrt : ∀ r, rt r → N.rt ((eO (eL .f eS)) r)) (h : W_chain_2 v_symbols v_size rt) : t_chain_2 N [some ((eL .f (eT3 eS eI eI)) v_symbols), some (eI v_size), none] :=
  (w_setS (d := (eO (eT2 eI (eL .f eS))) (m_worst_chain v_symbols v_size)) 2 (ev_fn (ea_cons (ev_var 0 (e := (eL .f (eT3 eS eI eI))) (e' := (eL .f (eT3 eS eI eI))) (v := v_symbols) rfl) (ea_cons (ev_var 1 (e := eI) (e' := eI) (v := v_size) rfl) ea_nil)) (fz_c (Fz.h (e := (eL .f (eT3 eS eI eI))) (e' := (eL .f (eT3 eS eI eI))) _) (fz_c (Fz.h (e := eI) (e' := eI) _) fz_n)) (fl_c (FlC.h (b := true) (e := (eL .f (eT3 eS eI eI))) _) (fl_c (FlC.h (b := true) (e := eI) _) fl_n)) (s_worst_chain_c h.1)) (Nb.h (e := (eO (eT2 eI (eL .f eS)))) _) (w_wipeS (wt_chain_3 (N := N) (m_worst_chain v_symbols v_size) hrt h.2) rfl))
def t_chain_1 : DS := (dSeq (dDrop (dFn S_need_size (dCons (dVar 1) dNil))) t_chain_2)
def W_chain_1 (v_symbols : (List (OkS × Int × Int))) (v_size : Int) (rt : (Option (List OkS)) → Prop) : Prop := (Pre_need_size v_size) ∧ (W_chain_2 v_symbols v_size rt)
theorem wt_chain_1 {N : DE} (v_symbols : (List (OkS × Int × Int))) (v_size : Int) {rt : (Option (List OkS)) → Prop} (hrt : ∀ r, rt r → N.rt ((eO (eL .f eS)) r)) (h : W_chain_1 v_symbols v_size rt) : t_chain_1 N [some ((eL .f (eT3 eS eI eI)) v_symbols), some (eI v_size), none] :=
  (w_dropS (ev_fn (ea_cons (ev_var 1 (e := eI) (e' := eI) (v := v_size) rfl) ea_nil) (fz_c (Fz.h (e := eI) (e' := eI) _) fz_n) (fl_c (FlC.h (b := true) (e := eI) _) fl_n) (s_need_size_c h.1)) (wt_chain_2 (N := N) v_symbols v_size hrt h.2))
def t_chain : DS := (dSeq (dDrop (dFn S_need_symbols (dCons (dVar 0) dNil))) t_chain_1)
def W_chain (v_symbols : (List (OkS × Int × Int))) (v_size : Int) (rt : (Option (List OkS)) → Prop) : Prop := (Pre_need_symbols v_symbols) ∧ (W_chain_1 v_symbols v_size rt)
theorem wt_chain {N : DE} (v_symbols : (List (OkS × Int × Int))) (v_size : Int) {rt : (Option (List OkS)) → Prop} (hrt : ∀ r, rt r → N.rt ((eO (eL .f eS)) r)) (h : W_chain v_symbols v_size rt) : t_chain N [some ((eL .f (eT3 eS eI eI)) v_symbols), some (eI v_size), none] :=
  (w_dropS (ev_fn (ea_cons (ev_var 0 (e := (eL .f (eT3 eS eI eI))) (e' := (eL .f (eT3 eS eI eI))) (v := v_symbols) rfl) ea_nil) (fz_c (Fz.h (e := (eL .f (eT3 eS eI eI))) (e' := (eL .f (eT3 eS eI eI))) _) fz_n) (fl_c (FlC.h (b := true) (e := (eL .f (eT3 eS eI eI))) _) fl_n) (s_need_symbols_c h.1)) (wt_chain_1 (N := N) v_symbols v_size hrt h.2))
theorem w_chain {P : Program} {w : World} {K : PySem.W.Frag} {mg : Str → Option Value} {base : Heap} {k : Nat} (f_need_symbols : Fd P w K mg base k "need_symbols" S_need_symbols) (f_need_size : Fd P w K mg base k "need_size" S_need_size) (f_worst_chain : Fd P w K mg base k "worst_chain" S_worst_chain) {fa : Addr} (cdv : Value) (A : Around) (outer : List PySem.Env) (s : Shared) (H : Hp) (E : XK) (hr : Room k (A.deeper (envOfC "chain" (defScope s_chain) s.heap.objs.size fa cdv))) :
    PDB (cxOf CX0 P w K mg base ["symbols", "size", "found"] "chain" (defScope s_chain) fa cdv A outer s H E).nox (defBody s_chain) t_chain :=
  have d : Gd (cxOf CX0 P w K mg base ["symbols", "size", "found"] "chain" (defScope s_chain) fa cdv A outer s H E).nox k := ⟨rfl, sc_chain.nd, hr⟩
  (b_cons (s_expr (pd_fn f_need_symbols hr (pda_cons (pd_var 0) pda_nil)))
    (b_cons (s_expr (pd_fn f_need_size hr (pda_cons (pd_var 1) pda_nil)))
    (b_cons (s_set 2 d (pd_fn f_worst_chain hr (pda_cons (pd_var 0) (pda_cons (pd_var 1) pda_nil))))
    (b_wipe [0, 1] (b_cons (s_if (pt_cmpd op_isO (pd_var 2) pd_non) (b_one (s_ret pd_non)) b_nil)
    (b_one (s_ret (pd_ix (pd_var 2) pd_int))))))))
theorem ok_chain {P : Program} {w : World} {K : PySem.W.Frag} {mg : Str → Option Value} {base : Heap} {k : Nat} (f_need_symbols : Fd P w K mg base k "need_symbols" S_need_symbols) (f_need_size : Fd P w K mg base k "need_size" S_need_size) (f_worst_chain : Fd P w K mg base k "worst_chain" S_worst_chain) {f : Addr} {fd : FuncData} (F : FunD K "chain" "chain" (defArgs s_chain) (defBody s_chain) (defScope s_chain) [] [("size", V.int (2))] f fd) (gm : mg "chain" = some (.ref f)) {S : DSpec} (hS : ∀ ds Q, S ds Q → ds.length = 2 ∧ t_chain (endD Q) (startE 3 ds)) : FdK P w K mg base (k + 1) "chain" s_chain ["symbols", "size"] [("size", V.int (2))] S :=
  FdK.of F gm sc_chain (fun cdv A outer s H E hr => w_chain f_need_symbols f_need_size f_worst_chain cdv A outer s H E hr) hS
theorem p_chain_of (c : ∀ (x0 : (List (OkS × Int × Int))) (x1 : Int), Pre_chain x0 x1 → ∀ K : (Option (List OkS)) → Prop, K (m_chain x0 x1) → W_chain x0 x1 K) : ∀ ds Q, S_chain ds Q → ds.length = 2 ∧ t_chain (endD Q) (startE 3 ds) := by
  rintro ds Q ⟨x0, x1, rfl, hp, q⟩
  exact ⟨rfl, wt_chain (N := endD Q) x0 x1 (rt := fun r => Q ((eO (eL .f eS)) r)) (fun r h => ⟨Np.h (e := (eO (eL .f eS))) r, h⟩) (c x0 x1 hp _ q)⟩

theorem sc__law_shuffled : FnScope ["_law_pen_here", "_law_row", "_law_left", "_law_found", "_law_step"] ["_law_pen_here", "_law_row"] (defScope s__law_shuffled) := ⟨rfl, rfl, rfl, by decide +kernel, rfl, by decide +kernel, by decide +kernel⟩
def t__law_shuffled_3 : DS := (dSeq (dMutApp 3 2 (fun xs ds Q => ds ≠ [] ∧ popM xs ds Q) (dCons (dFn S__law_pick (dCons (dVar 0) (dCons (dCall (o1 lenD) (dCons (dVar 2) dNil)) dNil))) dNil)) (dWipe [4]))
def W__law_shuffled_3 (v_lpen_here : Unit) (v_lrow : (List XD)) (v_lleft : (List XD)) (v_lfound : (List XD)) (v_lstep : Int) (rt : (List XD) → Prop) (nx : (List XD) → (List XD) → Prop) (bk : (List XD) → (List XD) → Prop) (ct : (List XD) → (List XD) → Prop) : Prop := PickW ((v_lleft).length : Int) (fun r2 => (0 ≤ r2 ∧ r2 < (v_lleft).length ∧ (v_lleft).length < 1000000 ∧ (v_lfound).length < 1000000) ∧ (nx ((v_lleft).eraseIdx (r2).toNat) (v_lfound ++ [gI v_lleft r2])))
theorem wt__law_shuffled_3 {N : DE} (v_lpen_here : Unit) (v_lrow : (List XD)) (v_lleft : (List XD)) (v_lfound : (List XD)) (v_lstep : Int) {rt : (List XD) → Prop} {nx : (List XD) → (List XD) → Prop} {bk : (List XD) → (List XD) → Prop} {ct : (List XD) → (List XD) → Prop} (hrt : ∀ r, rt r → N.rt ((eL .o eX) r)) (hnx : ∀ (v_lleft : (List XD)) (v_lfound : (List XD)), nx v_lleft v_lfound → N.nx [some (ePen v_lpen_here), some ((eL .f eX) v_lrow), some ((eL .o eX) v_lleft), some ((eL .o eX) v_lfound), none]) (hbk : ∀ (v_lleft : (List XD)) (v_lfound : (List XD)), bk v_lleft v_lfound → N.bk [some (ePen v_lpen_here), some ((eL .f eX) v_lrow), some ((eL .o eX) v_lleft), some ((eL .o eX) v_lfound), none]) (hct : ∀ (v_lleft : (List XD)) (v_lfound : (List XD)), ct v_lleft v_lfound → N.ct [some (ePen v_lpen_here), some ((eL .f eX) v_lrow), some ((eL .o eX) v_lleft), some ((eL .o eX) v_lfound), none]) (h : W__law_shuffled_3 v_lpen_here v_lrow v_lleft v_lfound v_lstep rt nx bk ct) : t__law_shuffled_3 N [some (ePen v_lpen_here), some ((eL .f eX) v_lrow), some ((eL .o eX) v_lleft), some ((eL .o eX) v_lfound), some (eI v_lstep)] :=
  (m_popAppC 3 2 (e := eX) (m := v_lfound) (l := v_lleft) rfl rfl (c_fnC (c_cons (c_ev (d := ePen v_lpen_here) (ev_var 0 (e := ePen) (e' := ePen) (v := v_lpen_here) rfl) (c_cons (c_ev (d := eI ((v_lleft).length : Int)) (ev_call (ea_cons (ev_var 2 (e := (eL .o eX)) (e' := (eL .b eX)) (v := v_lleft) rfl) ea_nil) (by exact (o_lenL (e := eX) (l := v_lleft)))) (c_nil (c_call1 (fz_c (Fz.h (e := ePen) (e' := ePen) _) (fz_c (Fz.h (e := eI) (e' := eI) _) fz_n)) (fl_c (FlC.h (b := true) (e := ePen) _) (fl_c (FlC.h (b := true) (e := eI) _) fl_n)) (s_pick h (fun r2 hr2 => (popapp_leaf (e := eX) (m := v_lfound) (l := v_lleft) (by decide) rfl hr2.1 (w_wipe (hnx ((v_lleft).eraseIdx (r2).toNat) (v_lfound ++ [gI v_lleft r2]) hr2.2) rfl))))))))))))
def t__law_shuffled_2 : DS := (dSeq (dFor (dRng1 (dCall (o1 lenD) (dCons (dVar 1) dNil))) (.nm 4) t__law_shuffled_3) (dRetV 3))
def W__law_shuffled_2 (v_lpen_here : Unit) (v_lrow : (List XD)) (v_lleft : (List XD)) (v_lfound : (List XD)) (rt : (List XD) → Prop) : Prop := (-1000000000000 ≤ ((v_lrow).length : Int) ∧ ((v_lrow).length : Int) ≤ 1000000000000) ∧ (forW (fun (x1 : Int) (s : (List XD) × (List XD)) nx bk => W__law_shuffled_3 v_lpen_here v_lrow s.1 s.2 x1 rt (fun v_lleft v_lfound => nx (v_lleft, v_lfound)) (fun v_lleft v_lfound => bk (v_lleft, v_lfound)) (fun v_lleft v_lfound => nx (v_lleft, v_lfound))) (fun s => rt s.2) (rngL 0 ((v_lrow).length : Int)) (v_lleft, v_lfound))
theorem wt__law_shuffled_2 {N : DE} (v_lpen_here : Unit) (v_lrow : (List XD)) (v_lleft : (List XD)) (v_lfound : (List XD)) {rt : (List XD) → Prop} (hrt : ∀ r, rt r → N.rt ((eL .o eX) r)) (h : W__law_shuffled_2 v_lpen_here v_lrow v_lleft v_lfound rt) : t__law_shuffled_2 N [some (ePen v_lpen_here), some ((eL .f eX) v_lrow), some ((eL .o eX) v_lleft), some ((eL .o eX) v_lfound), none] :=
  (w_forS (l := (rngL 0 ((v_lrow).length : Int))) (fun (s : (List XD) × (List XD)) => [some (ePen v_lpen_here), some ((eL .f eX) v_lrow), some ((eL .o eX) s.1), some ((eL .o eX) s.2), none]) eI (ei_r1 (ev_call (ea_cons (ev_var 1 (e := (eL .f eX)) (e' := (eL .f eX)) (v := v_lrow) rfl) ea_nil) (by exact (o_lenL (e := eX) (l := v_lrow)))) h.1) rfl h.2 (fun s h => (w_retV 3 (d := (eL .o eX) s.2) rfl (hrt _ h))) (fun x1 s nx N' hn hc hb hr h => (g_nm (wt__law_shuffled_3 (N := N') v_lpen_here v_lrow s.1 s.2 x1 (rt_eq hr hrt) (fun v_lleft v_lfound hq => (hn (v_lleft, v_lfound) hq)) (fun v_lleft v_lfound hq => (hb (v_lleft, v_lfound) hq)) (fun v_lleft v_lfound hq => (hc (v_lleft, v_lfound) hq)) h))))
def t__law_shuffled_1 : DS := (dSeq (dAsg (.nm 3) (dLst dNil)) t__law_shuffled_2)
def W__law_shuffled_1 (v_lpen_here : Unit) (v_lrow : (List XD)) (v_lleft : (List XD)) (rt : (List XD) → Prop) : Prop := W__law_shuffled_2 v_lpen_here v_lrow v_lleft ([] : List XD) rt
theorem wt__law_shuffled_1 {N : DE} (v_lpen_here : Unit) (v_lrow : (List XD)) (v_lleft : (List XD)) {rt : (List XD) → Prop} (hrt : ∀ r, rt r → N.rt ((eL .o eX) r)) (h : W__law_shuffled_1 v_lpen_here v_lrow v_lleft rt) : t__law_shuffled_1 N [some (ePen v_lpen_here), some ((eL .f eX) v_lrow), some ((eL .o eX) v_lleft), none, none] :=
  (w_setS (d := (eL .o eX) ([] : List XD)) 3 (ev_lstT (e := eX) [] ea_nil (Nat.le_of_ble_eq_true rfl)) (Nb.h (e := (eL .o eX)) _) (wt__law_shuffled_2 (N := N) v_lpen_here v_lrow v_lleft ([] : List XD) hrt h))
def t__law_shuffled : DS := (dSeq (dAsg (.nm 2) (dCall (o1 listD) (dCons (dVar 1) dNil))) t__law_shuffled_1)
def W__law_shuffled (v_lpen_here : Unit) (v_lrow : (List XD)) (rt : (List XD) → Prop) : Prop := W__law_shuffled_1 v_lpen_here v_lrow v_lrow rt
theorem wt__law_shuffled {N : DE} (v_lpen_here : Unit) (v_lrow : (List XD)) {rt : (List XD) → Prop} (hrt : ∀ r, rt r → N.rt ((eL .o eX) r)) (h : W__law_shuffled v_lpen_here v_lrow rt) : t__law_shuffled N [some (ePen v_lpen_here), some ((eL .f eX) v_lrow), none, none, none] :=
  (w_setS (d := (eL .o eX) v_lrow) 2 (ev_call (ea_cons (ev_var 1 (e := (eL .f eX)) (e' := (eL .f eX)) (v := v_lrow) rfl) ea_nil) (by exact (o_list (e := eX)))) (Nb.h (e := (eL .o eX)) _) (wt__law_shuffled_1 (N := N) v_lpen_here v_lrow v_lrow hrt h))
theorem w__law_shuffled {P : Program} {w : World} {K : PySem.W.Frag} {mg : Str → Option Value} {base : Heap} {k : Nat} (m_list : mg "list" = none) (m_range : mg "range" = none) (m_len : mg "len" = none) (f__law_pick : Fd P w K mg base k "_law_pick" S__law_pick) {fa : Addr} (cdv : Value) (A : Around) (outer : List PySem.Env) (s : Shared) (H : Hp) (E : XK) (hr : Room k (A.deeper (envOfC "_law_shuffled" (defScope s__law_shuffled) s.heap.objs.size fa cdv))) :
    PDB (cxOf CX0 P w K mg base ["_law_pen_here", "_law_row", "_law_left", "_law_found", "_law_step"] "_law_shuffled" (defScope s__law_shuffled) fa cdv A outer s H E).nox (defBody s__law_shuffled) t__law_shuffled :=
  have d : Gd (cxOf CX0 P w K mg base ["_law_pen_here", "_law_row", "_law_left", "_law_found", "_law_step"] "_law_shuffled" (defScope s__law_shuffled) fa cdv A outer s H E).nox k := ⟨rfl, sc__law_shuffled.nd, hr⟩
  (b_cons (s_set 2 d (pd_callT cr_listD m_list (pda_cons (pd_var 1) pda_nil) bo_list))
    (b_cons (s_set 3 d (pd_lst pda_nil))
    (b_cons (s_for d PassesOwn.never (pis_r1 m_range (pd_callB cr_lenD m_len (pda_cons (pd_var 1) pda_nil) bo_len)) (pdg_nm 4 d.nd) (b_cons (s_mutApp mut_pop1 PySem.F.slot_list_pop PySem.F.type_list_pop mt_popAt 3 2 (pda_cons (pd_fn f__law_pick hr (pda_cons (pd_var 0) (pda_cons (pd_callB cr_lenD m_len (pda_cons (pd_var 2) pda_nil) bo_len) pda_nil))) pda_nil))
    (b_nilW [4])))
    (b_one (s_retV 3)))))
theorem ok__law_shuffled {P : Program} {w : World} {K : PySem.W.Frag} {mg : Str → Option Value} {base : Heap} {k : Nat} (m_list : mg "list" = none) (m_range : mg "range" = none) (m_len : mg "len" = none) (f__law_pick : Fd P w K mg base k "_law_pick" S__law_pick) {f : Addr} {fd : FuncData} (F : FnP K "_law_shuffled" s__law_shuffled f fd) (gm : mg "_law_shuffled" = some (.ref f)) {S : DSpec} (hS : ∀ ds Q, S ds Q → ds.length = 2 ∧ t__law_shuffled (endD Q) (startE 5 ds)) : Fd P w K mg base (k + 1) "_law_shuffled" S :=
  Fd.of F gm sc__law_shuffled (fun _ _ _ _ _ _ us hl => match us, hl with | [_, _], _ => rfl) (fun cdv A outer s H E hr => w__law_shuffled m_list m_range m_len f__law_pick cdv A outer s H E hr) hS
theorem p__law_shuffled_of (c : ∀ (x0 : Unit) (x1 : (List XD)), Pre__law_shuffled x1 → ∀ K : (List XD) → Prop, (∀ r, Post__law_shuffled x1 r → K r) → W__law_shuffled x0 x1 K) : ∀ ds Q, S__law_shuffled ds Q → ds.length = 2 ∧ t__law_shuffled (endD Q) (startE 5 ds) := by
  rintro ds Q ⟨x0, x1, rfl, hp, q⟩
  exact ⟨rfl, wt__law_shuffled (N := endD Q) x0 x1 (rt := fun r => Q ((eL .o eX) r)) (fun r h => ⟨Np.h (e := (eL .o eX)) r, h⟩) (c x0 x1 hp _ q)⟩

theorem sc__law_folk : FnScope ["_law_pen_here", "_law_many", "_law_tail", "_law_at", "_law_start", "_law_step", "_law_found", "_law_k", "_law_sign"] ["_law_pen_here", "_law_many"] (defScope s__law_folk) := ⟨rfl, rfl, rfl, by decide +kernel, rfl, by decide +kernel, by decide +kernel⟩
def t__law_folk_7 : DS := (dSeq (dMut 6 appM (dCons (dBin (o2 addD) (dBin (o2 addD) (dSl (dVar 2) dNo (dSo (dVar 3))) (dVar 8)) (dSl (dVar 2) (dSo (dVar 3)) dNo)) dNil) kDrop) (dWipe [8]))
def W__law_folk_7 (v_lmany : Int) (v_ltail : OkS) (v_lat : Int) (v_lstart : Int) (v_lstep : Int) (v_lfound : (List OkS)) (v_lsign : OkS) (rt : (List OkS) → Prop) (nx : (List OkS) → Prop) (bk : (List OkS) → Prop) (ct : (List OkS) → Prop) : Prop := ((v_ltail).1.length ≤ sizeLine) ∧ (((sCut v_ltail none (some v_lat))).1.length + (v_lsign).1.length ≤ sizeLine) ∧ ((v_ltail).1.length ≤ sizeLine) ∧ (((sCat (sCut v_ltail none (some v_lat)) v_lsign)).1.length + ((sCut v_ltail (some v_lat) none)).1.length ≤ sizeLine) ∧ ((v_lfound).length < 1000000) ∧ (nx (v_lfound ++ [(sCat (sCat (sCut v_ltail none (some v_lat)) v_lsign) (sCut v_ltail (some v_lat) none))]))
theorem wt__law_folk_7 {N : DE} (v_lmany : Int) (v_ltail : OkS) (v_lat : Int) (v_lstart : Int) (v_lstep : Int) (v_lfound : (List OkS)) (v_lsign : OkS) {rt : (List OkS) → Prop} {nx : (List OkS) → Prop} {bk : (List OkS) → Prop} {ct : (List OkS) → Prop} (hrt : ∀ r, rt r → N.rt ((eL .o eS) r)) (hnx : ∀ (v_lfound : (List OkS)), nx v_lfound → N.nx [none, some (eI v_lmany), some (eS v_ltail), some (eI v_lat), some (eI v_lstart), some (eI v_lstep), some ((eL .o eS) v_lfound), none, none]) (hbk : ∀ (v_lfound : (List OkS)), bk v_lfound → N.bk [none, some (eI v_lmany), some (eS v_ltail), some (eI v_lat), some (eI v_lstart), some (eI v_lstep), some ((eL .o eS) v_lfound), none, none]) (hct : ∀ (v_lfound : (List OkS)), ct v_lfound → N.ct [none, some (eI v_lmany), some (eS v_ltail), some (eI v_lat), some (eI v_lstart), some (eI v_lstep), some ((eL .o eS) v_lfound), none, none]) (h : W__law_folk_7 v_lmany v_ltail v_lat v_lstart v_lstep v_lfound v_lsign rt nx bk ct) : t__law_folk_7 N [none, some (eI v_lmany), some (eS v_ltail), some (eI v_lat), some (eI v_lstart), some (eI v_lstep), some ((eL .o eS) v_lfound), none, some (eS v_lsign)] :=
  (m_appendS 6 (e := eS) (l := v_lfound) (v := (sCat (sCat (sCut v_ltail none (some v_lat)) v_lsign) (sCut v_ltail (some v_lat) none))) rfl (ev_bin (ev_bin (ev_slS (s := v_ltail) (ev_var 2 (e := eS) (e' := eS) (v := v_ltail) rfl) es_none (es_some (ev_var 3 (e := eI) (e' := eI) (v := v_lat) rfl)) h.1) (ev_var 8 (e := eS) (e' := eS) (v := v_lsign) rfl) (o_addS h.2.1)) (ev_slS (s := v_ltail) (ev_var 2 (e := eS) (e' := eS) (v := v_ltail) rfl) (es_some (ev_var 3 (e := eI) (e' := eI) (v := v_lat) rfl)) es_none h.2.2.1) (o_addS h.2.2.2.1)) (Nb.h (e := eS) _) h.2.2.2.2.1 (w_wipe (hnx (v_lfound ++ [(sCat (sCat (sCut v_ltail none (some v_lat)) v_lsign) (sCut v_ltail (some v_lat) none))]) h.2.2.2.2.2) rfl))
def t__law_folk_6 : DS := (dSeq (dAsg (.nm 8) (dBin (o2 ixD) (dC (.str "abcdefghijklmnopqrstuvwxyz")) (dBin (o2 modD) (dBin (o2 addD) (dVar 4) (dBin (o2 mulD) (dVar 5) (dVar 7))) (dC (.int 26))))) (dSeq (dWipe [7]) t__law_folk_7))
def W__law_folk_6 (v_lmany : Int) (v_ltail : OkS) (v_lat : Int) (v_lstart : Int) (v_lstep : Int) (v_lfound : (List OkS)) (v_lk : Int) (rt : (List OkS) → Prop) (nx : (List OkS) → Prop) (bk : (List OkS) → Prop) (ct : (List OkS) → Prop) : Prop := (MulOk v_lstep v_lk) ∧ (0 < (26 : Int)) ∧ (((⟨"abcdefghijklmnopqrstuvwxyz", by decide +kernel⟩ : OkS)).1.length ≤ sizeLine ∧ (atI (sCs (⟨"abcdefghijklmnopqrstuvwxyz", by decide +kernel⟩ : OkS)) ((v_lstart + (v_lstep * v_lk)) % (26 : Int))).isSome = true) ∧ (W__law_folk_7 v_lmany v_ltail v_lat v_lstart v_lstep v_lfound (sAt (⟨"abcdefghijklmnopqrstuvwxyz", by decide +kernel⟩ : OkS) ((v_lstart + (v_lstep * v_lk)) % (26 : Int))) rt nx bk ct)
theorem wt__law_folk_6 {N : DE} (v_lmany : Int) (v_ltail : OkS) (v_lat : Int) (v_lstart : Int) (v_lstep : Int) (v_lfound : (List OkS)) (v_lk : Int) {rt : (List OkS) → Prop} {nx : (List OkS) → Prop} {bk : (List OkS) → Prop} {ct : (List OkS) → Prop} (hrt : ∀ r, rt r → N.rt ((eL .o eS) r)) (hnx : ∀ (v_lfound : (List OkS)), nx v_lfound → N.nx [none, some (eI v_lmany), some (eS v_ltail), some (eI v_lat), some (eI v_lstart), some (eI v_lstep), some ((eL .o eS) v_lfound), none, none]) (hbk : ∀ (v_lfound : (List OkS)), bk v_lfound → N.bk [none, some (eI v_lmany), some (eS v_ltail), some (eI v_lat), some (eI v_lstart), some (eI v_lstep), some ((eL .o eS) v_lfound), none, none]) (hct : ∀ (v_lfound : (List OkS)), ct v_lfound → N.ct [none, some (eI v_lmany), some (eS v_ltail), some (eI v_lat), some (eI v_lstart), some (eI v_lstep), some ((eL .o eS) v_lfound), none, none]) (h : W__law_folk_6 v_lmany v_ltail v_lat v_lstart v_lstep v_lfound v_lk rt nx bk ct) : t__law_folk_6 N [none, some (eI v_lmany), some (eS v_ltail), some (eI v_lat), some (eI v_lstart), some (eI v_lstep), some ((eL .o eS) v_lfound), some (eI v_lk), none] :=
  (w_setS (d := eS (sAt (⟨"abcdefghijklmnopqrstuvwxyz", by decide +kernel⟩ : OkS) ((v_lstart + (v_lstep * v_lk)) % (26 : Int)))) 8 (ev_bin (ev_c (d := .str "abcdefghijklmnopqrstuvwxyz")) (ev_bin (ev_bin (ev_var 4 (e := eI) (e' := eI) (v := v_lstart) rfl) (ev_bin (ev_var 5 (e := eI) (e' := eI) (v := v_lstep) rfl) (ev_var 7 (e := eI) (e' := eI) (v := v_lk) rfl) (o_mul h.1)) (@o_add _ v_lstart (v_lstep * v_lk))) (ev_c (d := eI 26)) (o_mod h.2.1)) (o_ixS h.2.2.1)) (Nb.h (e := eS) _) (w_wipeS (wt__law_folk_7 (N := N) v_lmany v_ltail v_lat v_lstart v_lstep v_lfound (sAt (⟨"abcdefghijklmnopqrstuvwxyz", by decide +kernel⟩ : OkS) ((v_lstart + (v_lstep * v_lk)) % (26 : Int))) hrt hnx hbk hct h.2.2.2) rfl))
def t__law_folk_5 : DS := (dSeq (dFor (dRng1 (dVar 1)) (.nm 7) t__law_folk_6) (dRetV 6))
def W__law_folk_5 (v_lmany : Int) (v_ltail : OkS) (v_lat : Int) (v_lstart : Int) (v_lstep : Int) (v_lfound : (List OkS)) (rt : (List OkS) → Prop) : Prop := (-1000000000000 ≤ v_lmany ∧ v_lmany ≤ 1000000000000) ∧ (forW (fun (x5 : Int) (s : (List OkS)) nx bk => W__law_folk_6 v_lmany v_ltail v_lat v_lstart v_lstep s x5 rt (fun v_lfound => nx v_lfound) (fun v_lfound => bk v_lfound) (fun v_lfound => nx v_lfound)) (fun s => rt s) (rngL 0 v_lmany) v_lfound)
theorem wt__law_folk_5 {N : DE} (v_lmany : Int) (v_ltail : OkS) (v_lat : Int) (v_lstart : Int) (v_lstep : Int) (v_lfound : (List OkS)) {rt : (List OkS) → Prop} (hrt : ∀ r, rt r → N.rt ((eL .o eS) r)) (h : W__law_folk_5 v_lmany v_ltail v_lat v_lstart v_lstep v_lfound rt) : t__law_folk_5 N [none, some (eI v_lmany), some (eS v_ltail), some (eI v_lat), some (eI v_lstart), some (eI v_lstep), some ((eL .o eS) v_lfound), none, none] :=
  (w_forS (l := (rngL 0 v_lmany)) (fun (s : (List OkS)) => [none, some (eI v_lmany), some (eS v_ltail), some (eI v_lat), some (eI v_lstart), some (eI v_lstep), some ((eL .o eS) s), none, none]) eI (ei_r1 (ev_var 1 (e := eI) (e' := eI) (v := v_lmany) rfl) h.1) rfl h.2 (fun s h => (w_retV 6 (d := (eL .o eS) s) rfl (hrt _ h))) (fun x5 s nx N' hn hc hb hr h => (g_nm (wt__law_folk_6 (N := N') v_lmany v_ltail v_lat v_lstart v_lstep s x5 (rt_eq hr hrt) (fun v_lfound hq => (hn v_lfound hq)) (fun v_lfound hq => (hb v_lfound hq)) (fun v_lfound hq => (hc v_lfound hq)) h))))
def t__law_folk_4 : DS := (dSeq (dAsg (.nm 6) (dLst dNil)) t__law_folk_5)
def W__law_folk_4 (v_lmany : Int) (v_ltail : OkS) (v_lat : Int) (v_lstart : Int) (v_lstep : Int) (rt : (List OkS) → Prop) : Prop := W__law_folk_5 v_lmany v_ltail v_lat v_lstart v_lstep ([] : List OkS) rt
theorem wt__law_folk_4 {N : DE} (v_lmany : Int) (v_ltail : OkS) (v_lat : Int) (v_lstart : Int) (v_lstep : Int) {rt : (List OkS) → Prop} (hrt : ∀ r, rt r → N.rt ((eL .o eS) r)) (h : W__law_folk_4 v_lmany v_ltail v_lat v_lstart v_lstep rt) : t__law_folk_4 N [none, some (eI v_lmany), some (eS v_ltail), some (eI v_lat), some (eI v_lstart), some (eI v_lstep), none, none, none] :=
  (w_setS (d := (eL .o eS) ([] : List OkS)) 6 (ev_lstT (e := eS) [] ea_nil (Nat.le_of_ble_eq_true rfl)) (Nb.h (e := (eL .o eS)) _) (wt__law_folk_5 (N := N) v_lmany v_ltail v_lat v_lstart v_lstep ([] : List OkS) hrt h))
def t__law_folk_3 : DS := (dSeq (dAsg (.nm 5) (dBin (o2 ixD) (dLst (dCons (dC (.int 1)) (dCons (dC (.int 3)) (dCons (dC (.int 5)) (dCons (dC (.int 7)) (dCons (dC (.int 9)) (dCons (dC (.int 11)) dNil))))))) (dFn S__law_pick (dCons (dVar 0) (dCons (dC (.int 6)) dNil))))) (dSeq (dWipe [0]) t__law_folk_4))
def W__law_folk_3 (v_lpen_here : Unit) (v_lmany : Int) (v_ltail : OkS) (v_lat : Int) (v_lstart : Int) (rt : (List OkS) → Prop) : Prop := PickW (6 : Int) (fun r4 => ((atI [(1 : Int), (3 : Int), (5 : Int), (7 : Int), (9 : Int), (11 : Int)] r4).isSome = true) ∧ (W__law_folk_4 v_lmany v_ltail v_lat v_lstart (gI [(1 : Int), (3 : Int), (5 : Int), (7 : Int), (9 : Int), (11 : Int)] r4) rt))
theorem wt__law_folk_3 {N : DE} (v_lpen_here : Unit) (v_lmany : Int) (v_ltail : OkS) (v_lat : Int) (v_lstart : Int) {rt : (List OkS) → Prop} (hrt : ∀ r, rt r → N.rt ((eL .o eS) r)) (h : W__law_folk_3 v_lpen_here v_lmany v_ltail v_lat v_lstart rt) : t__law_folk_3 N [some (ePen v_lpen_here), some (eI v_lmany), some (eS v_ltail), some (eI v_lat), some (eI v_lstart), none, none, none, none] :=
  (c_setCS 5 (c_bin (c_ev (d := (eL .o eI) [(1 : Int), (3 : Int), (5 : Int), (7 : Int), (9 : Int), (11 : Int)]) (ev_lstT (e := eI) [(1 : Int), (3 : Int), (5 : Int), (7 : Int), (9 : Int), (11 : Int)] (ea_cons (ev_c (d := eI 1)) (ea_cons (ev_c (d := eI 3)) (ea_cons (ev_c (d := eI 5)) (ea_cons (ev_c (d := eI 7)) (ea_cons (ev_c (d := eI 9)) (ea_cons (ev_c (d := eI 11)) ea_nil)))))) (Nat.le_of_ble_eq_true rfl)) (c_fnC (c_cons (c_ev (d := ePen v_lpen_here) (ev_var 0 (e := ePen) (e' := ePen) (v := v_lpen_here) rfl) (c_cons (c_ev (d := eI (6 : Int)) (ev_c (d := eI 6)) (c_nil (c_call1 (fz_c (Fz.h (e := ePen) (e' := ePen) _) (fz_c (Fz.h (e := eI) (e' := eI) _) fz_n)) (fl_c (FlC.h (b := true) (e := ePen) _) (fl_c (FlC.h (b := true) (e := eI) _) fl_n)) (s_pick h (fun r4 hr4 => ((o_ixL (e := eI) hr4.1) _ ⟨(Nb.h (e := eI) _), (w_wipeS (wt__law_folk_4 (N := N) v_lmany v_ltail v_lat v_lstart (gI [(1 : Int), (3 : Int), (5 : Int), (7 : Int), (9 : Int), (11 : Int)] r4) hrt hr4.2) rfl)⟩)))))))))))))
def t__law_folk_2 : DS := (dSeq (dAsg (.nm 4) (dFn S__law_pick (dCons (dVar 0) (dCons (dC (.int 26)) dNil)))) t__law_folk_3)
def W__law_folk_2 (v_lpen_here : Unit) (v_lmany : Int) (v_ltail : OkS) (v_lat : Int) (rt : (List OkS) → Prop) : Prop := PickW (26 : Int) (fun r3 => W__law_folk_3 v_lpen_here v_lmany v_ltail v_lat r3 rt)
theorem wt__law_folk_2 {N : DE} (v_lpen_here : Unit) (v_lmany : Int) (v_ltail : OkS) (v_lat : Int) {rt : (List OkS) → Prop} (hrt : ∀ r, rt r → N.rt ((eL .o eS) r)) (h : W__law_folk_2 v_lpen_here v_lmany v_ltail v_lat rt) : t__law_folk_2 N [some (ePen v_lpen_here), some (eI v_lmany), some (eS v_ltail), some (eI v_lat), none, none, none, none, none] :=
  (c_setCS 4 (c_fnC (c_cons (c_ev (d := ePen v_lpen_here) (ev_var 0 (e := ePen) (e' := ePen) (v := v_lpen_here) rfl) (c_cons (c_ev (d := eI (26 : Int)) (ev_c (d := eI 26)) (c_nil (c_call1 (fz_c (Fz.h (e := ePen) (e' := ePen) _) (fz_c (Fz.h (e := eI) (e' := eI) _) fz_n)) (fl_c (FlC.h (b := true) (e := ePen) _) (fl_c (FlC.h (b := true) (e := eI) _) fl_n)) (s_pick h (fun r3 hr3 => ⟨(Nb.h (e := eI) _), (wt__law_folk_3 (N := N) v_lpen_here v_lmany v_ltail v_lat r3 hrt hr3)⟩))))))))))
def t__law_folk_1 : DS := (dSeq (dAsg (.nm 3) (dFn S__law_pick (dCons (dVar 0) (dCons (dBin (o2 addD) (dCall (o1 lenD) (dCons (dVar 2) dNil)) (dC (.int 1))) dNil)))) t__law_folk_2)
def W__law_folk_1 (v_lpen_here : Unit) (v_lmany : Int) (v_ltail : OkS) (rt : (List OkS) → Prop) : Prop := ((v_ltail).1.length ≤ sizeLine) ∧ (PickW ((sLen v_ltail) + (1 : Int)) (fun r2 => W__law_folk_2 v_lpen_here v_lmany v_ltail r2 rt))
theorem wt__law_folk_1 {N : DE} (v_lpen_here : Unit) (v_lmany : Int) (v_ltail : OkS) {rt : (List OkS) → Prop} (hrt : ∀ r, rt r → N.rt ((eL .o eS) r)) (h : W__law_folk_1 v_lpen_here v_lmany v_ltail rt) : t__law_folk_1 N [some (ePen v_lpen_here), some (eI v_lmany), some (eS v_ltail), none, none, none, none, none, none] :=
  (c_setCS 3 (c_fnC (c_cons (c_ev (d := ePen v_lpen_here) (ev_var 0 (e := ePen) (e' := ePen) (v := v_lpen_here) rfl) (c_cons (c_ev (d := eI ((sLen v_ltail) + (1 : Int))) (ev_bin (ev_call (ea_cons (ev_var 2 (e := eS) (e' := eS) (v := v_ltail) rfl) ea_nil) (by exact (o_lenS h.1))) (ev_c (d := eI 1)) (@o_add _ (sLen v_ltail) (1 : Int))) (c_nil (c_call1 (fz_c (Fz.h (e := ePen) (e' := ePen) _) (fz_c (Fz.h (e := eI) (e' := eI) _) fz_n)) (fl_c (FlC.h (b := true) (e := ePen) _) (fl_c (FlC.h (b := true) (e := eI) _) fl_n)) (s_pick h.2 (fun r2 hr2 => ⟨(Nb.h (e := eI) _), (wt__law_folk_2 (N := N) v_lpen_here v_lmany v_ltail r2 hrt hr2)⟩))))))))))
def t__law_folk : DS := (dSeq (dAsg (.nm 2) (dBin (o2 ixD) (dLst (dCons (dC (.str "")) (dCons (dC (.str "x")) (dCons (dC (.str "oak")) (dCons (dC (.str "mmmmmmm")) (dCons (dC (.str "ab")) (dCons (dC (.str "hill")) dNil))))))) (dFn S__law_pick (dCons (dVar 0) (dCons (dC (.int 6)) dNil))))) t__law_folk_1)
def W__law_folk (v_lpen_here : Unit) (v_lmany : Int) (rt : (List OkS) → Prop) : Prop := PickW (6 : Int) (fun r1 => ((atI [(⟨"", by decide +kernel⟩ : OkS), (⟨"x", by decide +kernel⟩ : OkS), (⟨"oak", by decide +kernel⟩ : OkS), (⟨"mmmmmmm", by decide +kernel⟩ : OkS), (⟨"ab", by decide +kernel⟩ : OkS), (⟨"hill", by decide +kernel⟩ : OkS)] r1).isSome = true) ∧ (W__law_folk_1 v_lpen_here v_lmany (gI [(⟨"", by decide +kernel⟩ : OkS), (⟨"x", by decide +kernel⟩ : OkS), (⟨"oak", by decide +kernel⟩ : OkS), (⟨"mmmmmmm", by decide +kernel⟩ : OkS), (⟨"ab", by decide +kernel⟩ : OkS), (⟨"hill", by decide +kernel⟩ : OkS)] r1) rt))
theorem wt__law_folk {N : DE} (v_lpen_here : Unit) (v_lmany : Int) {rt : (List OkS) → Prop} (hrt : ∀ r, rt r → N.rt ((eL .o eS) r)) (h : W__law_folk v_lpen_here v_lmany rt) : t__law_folk N [some (ePen v_lpen_here), some (eI v_lmany), none, none, none, none, none, none, none] :=
  (c_setCS 2 (c_bin (c_ev (d := (eL .o eS) [(⟨"", by decide +kernel⟩ : OkS), (⟨"x", by decide +kernel⟩ : OkS), (⟨"oak", by decide +kernel⟩ : OkS), (⟨"mmmmmmm", by decide +kernel⟩ : OkS), (⟨"ab", by decide +kernel⟩ : OkS), (⟨"hill", by decide +kernel⟩ : OkS)]) (ev_lstT (e := eS) [(⟨"", by decide +kernel⟩ : OkS), (⟨"x", by decide +kernel⟩ : OkS), (⟨"oak", by decide +kernel⟩ : OkS), (⟨"mmmmmmm", by decide +kernel⟩ : OkS), (⟨"ab", by decide +kernel⟩ : OkS), (⟨"hill", by decide +kernel⟩ : OkS)] (ea_cons (ev_c (d := .str "")) (ea_cons (ev_c (d := .str "x")) (ea_cons (ev_c (d := .str "oak")) (ea_cons (ev_c (d := .str "mmmmmmm")) (ea_cons (ev_c (d := .str "ab")) (ea_cons (ev_c (d := .str "hill")) ea_nil)))))) (Nat.le_of_ble_eq_true rfl)) (c_fnC (c_cons (c_ev (d := ePen v_lpen_here) (ev_var 0 (e := ePen) (e' := ePen) (v := v_lpen_here) rfl) (c_cons (c_ev (d := eI (6 : Int)) (ev_c (d := eI 6)) (c_nil (c_call1 (fz_c (Fz.h (e := ePen) (e' := ePen) _) (fz_c (Fz.h (e := eI) (e' := eI) _) fz_n)) (fl_c (FlC.h (b := true) (e := ePen) _) (fl_c (FlC.h (b := true) (e := eI) _) fl_n)) (s_pick h (fun r1 hr1 => ((o_ixL (e := eS) hr1.1) _ ⟨(Nb.h (e := eS) _), (wt__law_folk_1 (N := N) v_lpen_here v_lmany (gI [(⟨"", by decide +kernel⟩ : OkS), (⟨"x", by decide +kernel⟩ : OkS), (⟨"oak", by decide +kernel⟩ : OkS), (⟨"mmmmmmm", by decide +kernel⟩ : OkS), (⟨"ab", by decide +kernel⟩ : OkS), (⟨"hill", by decide +kernel⟩ : OkS)] r1) hrt hr1.2)⟩)))))))))))))
theorem w__law_folk {P : Program} {w : World} {K : PySem.W.Frag} {mg : Str → Option Value} {base : Heap} {k : Nat} (m_len : mg "len" = none) (m_range : mg "range" = none) (f__law_pick : Fd P w K mg base k "_law_pick" S__law_pick) {fa : Addr} (cdv : Value) (A : Around) (outer : List PySem.Env) (s : Shared) (H : Hp) (E : XK) (hr : Room k (A.deeper (envOfC "_law_folk" (defScope s__law_folk) s.heap.objs.size fa cdv))) :
    PDB (cxOf CX0 P w K mg base ["_law_pen_here", "_law_many", "_law_tail", "_law_at", "_law_start", "_law_step", "_law_found", "_law_k", "_law_sign"] "_law_folk" (defScope s__law_folk) fa cdv A outer s H E).nox (defBody s__law_folk) t__law_folk :=
  have d : Gd (cxOf CX0 P w K mg base ["_law_pen_here", "_law_many", "_law_tail", "_law_at", "_law_start", "_law_step", "_law_found", "_law_k", "_law_sign"] "_law_folk" (defScope s__law_folk) fa cdv A outer s H E).nox k := ⟨rfl, sc__law_folk.nd, hr⟩
  (b_cons (s_set 2 d (pd_ix (pd_lst (pda_cons pd_str (pda_cons pd_str (pda_cons pd_str (pda_cons pd_str (pda_cons pd_str (pda_cons pd_str pda_nil))))))) (pd_fn f__law_pick hr (pda_cons (pd_var 0) (pda_cons pd_int pda_nil)))))
    (b_cons (s_set 3 d (pd_fn f__law_pick hr (pda_cons (pd_var 0) (pda_cons (pd_bin op_addD (pd_callB cr_lenD m_len (pda_cons (pd_var 2) pda_nil) bo_len) pd_int) pda_nil))))
    (b_cons (s_set 4 d (pd_fn f__law_pick hr (pda_cons (pd_var 0) (pda_cons pd_int pda_nil))))
    (b_cons (s_set 5 d (pd_ix (pd_lst (pda_cons pd_int (pda_cons pd_int (pda_cons pd_int (pda_cons pd_int (pda_cons pd_int (pda_cons pd_int pda_nil))))))) (pd_fn f__law_pick hr (pda_cons (pd_var 0) (pda_cons pd_int pda_nil)))))
    (b_wipe [0] (b_cons (s_set 6 d (pd_lst pda_nil))
    (b_cons (s_for d PassesOwn.never (pis_r1 m_range (pd_var 1)) (pdg_nm 7 d.nd) (b_cons (s_set 8 d (pd_ix pd_str (pd_bin op_modD (pd_bin op_addD (pd_var 4) (pd_bin op_mulD (pd_var 5) (pd_var 7))) pd_int)))
    (b_wipe [7] (b_cons (s_mut1 mut_append PySem.F.slot_list_append PySem.F.type_list_append mt_append 6 (pda_cons (pd_bin op_addD (pd_bin op_addD (pd_sl (pd_var 2) po_noned (po_somed (pd_var 3))) (pd_var 8)) (pd_sl (pd_var 2) (po_somed (pd_var 3)) po_noned)) pda_nil))
    (b_nilW [8])))))
    (b_one (s_retV 6)))))))))
theorem ok__law_folk {P : Program} {w : World} {K : PySem.W.Frag} {mg : Str → Option Value} {base : Heap} {k : Nat} (m_len : mg "len" = none) (m_range : mg "range" = none) (f__law_pick : Fd P w K mg base k "_law_pick" S__law_pick) {f : Addr} {fd : FuncData} (F : FnP K "_law_folk" s__law_folk f fd) (gm : mg "_law_folk" = some (.ref f)) {S : DSpec} (hS : ∀ ds Q, S ds Q → ds.length = 2 ∧ t__law_folk (endD Q) (startE 9 ds)) : Fd P w K mg base (k + 1) "_law_folk" S :=
  Fd.of F gm sc__law_folk (fun _ _ _ _ _ _ us hl => match us, hl with | [_, _], _ => rfl) (fun cdv A outer s H E hr => w__law_folk m_len m_range f__law_pick cdv A outer s H E hr) hS
theorem p__law_folk_of (c : ∀ (x0 : Unit) (x1 : Int), Pre__law_folk x1 → ∀ K : (List OkS) → Prop, (∀ r, Post__law_folk x1 r → K r) → W__law_folk x0 x1 K) : ∀ ds Q, S__law_folk ds Q → ds.length = 2 ∧ t__law_folk (endD Q) (startE 9 ds) := by
  rintro ds Q ⟨x0, x1, rfl, hp, q⟩
  exact ⟨rfl, wt__law_folk (N := endD Q) x0 x1 (rt := fun r => Q ((eL .o eS) r)) (fun r h => ⟨Np.h (e := (eL .o eS)) r, h⟩) (c x0 x1 hp _ q)⟩

theorem sc_law : FnScope ["_law_script", "_law_pen_here", "_law_folk_here", "_law_marks", "_law_far", "_law_others", "_law_size_in", "_law_x", "_law_y", "_law_later", "_law_here", "_law_there", "_law_one", "_law_two", "_law_both", "_law_told", "_law_name", "_law_row"] ["_law_script"] (defScope s_law) := ⟨rfl, rfl, rfl, by decide +kernel, rfl, by decide +kernel, by decide +kernel⟩
theorem ko_apart_a_size : KwOk "apart" s_apart ["symbols", "size"] 1 ["size"] [] (fun us _ ws => us ++ ws) := fun D doc pm an cdv ct us mv ws h1 h2 h3 => match us, mv, ws, h1, h2, h3 with
  | [u0], [], [w0], _, _, _ => rfl
theorem ko_chain_a_size : KwOk "chain" s_chain ["symbols", "size"] 1 ["size"] [] (fun us _ ws => us ++ ws) := fun D doc pm an cdv ct us mv ws h1 h2 h3 => match us, mv, ws, h1, h2, h3 with
  | [u0], [], [w0], _, _, _ => rfl
theorem ko_least_move_a_size : KwOk "least_move" s_least_move ["symbols", "size"] 1 ["size"] [] (fun us _ ws => us ++ ws) := fun D doc pm an cdv ct us mv ws h1 h2 h3 => match us, mv, ws, h1, h2, h3 with
  | [u0], [], [w0], _, _, _ => rfl
def t_law_15 : DS := (dSeq (dIfS (dAndT (dB (dBin (o2 geO) (dVar 12) (dVar 13))) (dB (dBin (o2 (eqO not)) (dSl (dVar 15) dNo (dSo (dCall (o1 lenD) (dCons (dVar 3) dNil)))) (dVar 10)))) (dRet (dC (.bl false))) (dWipe [10])) (dRet (dOr (dBin (o2 ltO) (dVar 13) (dVar 12)) (dBin (o2 (eqO id)) (dSl (dVar 15) (dSo (dCall (o1 lenD) (dCons (dVar 3) dNil))) dNo) (dFn S_apart (dKw 1 1 (fun us _ ws => us ++ ws) [] (dCons (dVar 5) dNil) (dCons (dVar 6) dNil)))))))
def W_law_15 (v_lmarks : (List (OkS × Int × Int))) (v_lothers : (List (OkS × Int × Int))) (v_lsize_in : Int) (v_lhere : (List (OkS × Int × Int))) (v_lone : Int) (v_ltwo : Int) (v_ltold : (List (OkS × Int × Int))) (rt : Bool → Prop) : Prop := ((decide (v_lone ≥ v_ltwo) && (!decide ((cutL v_ltold none (some ((v_lmarks).length : Int))) = v_lhere))) = true → (rt false)) ∧ ((decide (v_lone ≥ v_ltwo) && (!decide ((cutL v_ltold none (some ((v_lmarks).length : Int))) = v_lhere))) = false → (((decide (v_ltwo < v_lone)) = false → ((Pre_apart v_lothers v_lsize_in))) ∧ (rt (decide (v_ltwo < v_lone) || decide ((cutL v_ltold (some ((v_lmarks).length : Int)) none) = (m_apart v_lothers v_lsize_in))))))
theorem wt_law_15 {N : DE} (v_lmarks : (List (OkS × Int × Int))) (v_lothers : (List (OkS × Int × Int))) (v_lsize_in : Int) (v_lhere : (List (OkS × Int × Int))) (v_lone : Int) (v_ltwo : Int) (v_ltold : (List (OkS × Int × Int))) {rt : Bool → Prop} (hrt : ∀ r, rt r → N.rt (eB r)) (h : W_law_15 v_lmarks v_lothers v_lsize_in v_lhere v_lone v_ltwo v_ltold rt) : t_law_15 N [none, none, none, some ((eL .f (eT3 eS eI eI)) v_lmarks), none, some ((eL .f (eT3 eS eI eI)) v_lothers), some (eI v_lsize_in), none, none, none, some ((eL .f (eT3 eS eI eI)) v_lhere), none, some (eI v_lone), some (eI v_ltwo), none, some ((eL .f (eT3 eS eI eI)) v_ltold), none, none] :=
  (w_ifSS (et_and (et_b (ev_bin (ev_var 12 (e := eI) (e' := eI) (v := v_lone) rfl) (ev_var 13 (e := eI) (e' := eI) (v := v_ltwo) rfl) (@o_ge _ v_lone v_ltwo))) (fun k20 => (et_b (ev_bin (ev_sl (e := (eT3 eS eI eI)) (ev_var 15 (e := (eL .f (eT3 eS eI eI))) (e' := (eL .f (eT3 eS eI eI))) (v := v_ltold) rfl) es_none (es_some (ev_call (ea_cons (ev_var 3 (e := (eL .f (eT3 eS eI eI))) (e' := (eL .f (eT3 eS eI eI))) (v := v_lmarks) rfl) ea_nil) (by exact (o_lenL (e := (eT3 eS eI eI)) (l := v_lmarks)))))) (ev_var 10 (e := (eL .f (eT3 eS eI eI))) (e' := (eL .f (eT3 eS eI eI))) (v := v_lhere) rfl) (o_ne (e := (eL .o (eT3 eS eI eI))) (e' := (eL .f (eT3 eS eI eI))) (u := (cutL v_ltold none (some ((v_lmarks).length : Int)))) (v := v_lhere)))))) (fun hk => (w_ret (d := eB false) (ev_c (d := eB false)) (Rt.h (e := eB) (e' := eB) _) (by exact hrt _ (h.1 hk)))) (fun hk => (w_wipe (nx_i (w_ret (d := eB (decide (v_ltwo < v_lone) || decide ((cutL v_ltold (some ((v_lmarks).length : Int)) none) = (m_apart v_lothers v_lsize_in)))) (ev_or (ev_bin (ev_var 13 (e := eI) (e' := eI) (v := v_ltwo) rfl) (ev_var 12 (e := eI) (e' := eI) (v := v_lone) rfl) (@o_lt _ v_ltwo v_lone)) (fun k23 => (ev_bin (ev_sl (e := (eT3 eS eI eI)) (ev_var 15 (e := (eL .f (eT3 eS eI eI))) (e' := (eL .f (eT3 eS eI eI))) (v := v_ltold) rfl) (es_some (ev_call (ea_cons (ev_var 3 (e := (eL .f (eT3 eS eI eI))) (e' := (eL .f (eT3 eS eI eI))) (v := v_lmarks) rfl) ea_nil) (by exact (o_lenL (e := (eT3 eS eI eI)) (l := v_lmarks))))) es_none) (ev_fn (ea_kw (xs := [(eL .f (eT3 eS eI eI)) v_lothers, eI v_lsize_in]) (ea_cons (ev_var 5 (e := (eL .f (eT3 eS eI eI))) (e' := (eL .f (eT3 eS eI eI))) (v := v_lothers) rfl) ea_nil) (ea_cons (ev_var 6 (e := eI) (e' := eI) (v := v_lsize_in) rfl) ea_nil) rfl rfl rfl) (fz_c (Fz.h (e := (eL .f (eT3 eS eI eI))) (e' := (eL .f (eT3 eS eI eI))) _) (fz_c (Fz.h (e := eI) (e' := eI) _) fz_n)) (fl_c (FlC.h (b := true) (e := (eL .f (eT3 eS eI eI))) _) (fl_c (FlC.h (b := true) (e := eI) _) fl_n)) (s_apart_c ((h.2 hk).1 k23))) (o_eq (e := (eL .o (eT3 eS eI eI))) (e' := (eL .o (eT3 eS eI eI))) (u := (cutL v_ltold (some ((v_lmarks).length : Int)) none)) (v := (m_apart v_lothers v_lsize_in)))))) (Rt.h (e := eB) (e' := eB) _) (by exact hrt _ (h.2 hk).2))) rfl)))
def t_law_14 : DS := (dSeq (dAsg (.nm 15) (dFn S_apart (dKw 1 1 (fun us _ ws => us ++ ws) [] (dCons (dVar 14) dNil) (dCons (dVar 6) dNil)))) (dSeq (dFrz 15) (dSeq (dWipe [14]) t_law_15)))
def W_law_14 (v_lmarks : (List (OkS × Int × Int))) (v_lothers : (List (OkS × Int × Int))) (v_lsize_in : Int) (v_lhere : (List (OkS × Int × Int))) (v_lone : Int) (v_ltwo : Int) (v_lboth : (List (OkS × Int × Int))) (rt : Bool → Prop) : Prop := (Pre_apart v_lboth v_lsize_in) ∧ (W_law_15 v_lmarks v_lothers v_lsize_in v_lhere v_lone v_ltwo (m_apart v_lboth v_lsize_in) rt)
theorem wt_law_14 {N : DE} (v_lmarks : (List (OkS × Int × Int))) (v_lothers : (List (OkS × Int × Int))) (v_lsize_in : Int) (v_lhere : (List (OkS × Int × Int))) (v_lone : Int) (v_ltwo : Int) (v_lboth : (List (OkS × Int × Int))) {rt : Bool → Prop} (hrt : ∀ r, rt r → N.rt (eB r)) (h : W_law_14 v_lmarks v_lothers v_lsize_in v_lhere v_lone v_ltwo v_lboth rt) : t_law_14 N [none, none, none, some ((eL .f (eT3 eS eI eI)) v_lmarks), none, some ((eL .f (eT3 eS eI eI)) v_lothers), some (eI v_lsize_in), none, none, none, some ((eL .f (eT3 eS eI eI)) v_lhere), none, some (eI v_lone), some (eI v_ltwo), some ((eL .f (eT3 eS eI eI)) v_lboth), none, none, none] :=
  (w_setS (d := (eL .o (eT3 eS eI eI)) (m_apart v_lboth v_lsize_in)) 15 (ev_fn (ea_kw (xs := [(eL .f (eT3 eS eI eI)) v_lboth, eI v_lsize_in]) (ea_cons (ev_var 14 (e := (eL .f (eT3 eS eI eI))) (e' := (eL .f (eT3 eS eI eI))) (v := v_lboth) rfl) ea_nil) (ea_cons (ev_var 6 (e := eI) (e' := eI) (v := v_lsize_in) rfl) ea_nil) rfl rfl rfl) (fz_c (Fz.h (e := (eL .f (eT3 eS eI eI))) (e' := (eL .f (eT3 eS eI eI))) _) (fz_c (Fz.h (e := eI) (e' := eI) _) fz_n)) (fl_c (FlC.h (b := true) (e := (eL .f (eT3 eS eI eI))) _) (fl_c (FlC.h (b := true) (e := eI) _) fl_n)) (s_apart_c h.1)) (Nb.h (e := (eL .o (eT3 eS eI eI))) _) (w_frzS 15 (e := (eL .o (eT3 eS eI eI))) (e' := (eL .f (eT3 eS eI eI))) (v := (m_apart v_lboth v_lsize_in)) rfl (w_wipeS (wt_law_15 (N := N) v_lmarks v_lothers v_lsize_in v_lhere v_lone v_ltwo (m_apart v_lboth v_lsize_in) hrt h.2) rfl)))
def t_law_13 : DS := (dSeq (dIfS (dB (dBin (o2 (eqO not)) (dFn S_least_move (dKw 1 1 (fun us _ ws => us ++ ws) [] (dCons (dVar 14) dNil) (dCons (dVar 6) dNil))) (dCall (o2 max2D) (dCons (dVar 12) (dCons (dVar 13) dNil))))) (dRet (dC (.bl false))) dNext) t_law_14)
def W_law_13 (v_lmarks : (List (OkS × Int × Int))) (v_lothers : (List (OkS × Int × Int))) (v_lsize_in : Int) (v_lhere : (List (OkS × Int × Int))) (v_lone : Int) (v_ltwo : Int) (v_lboth : (List (OkS × Int × Int))) (rt : Bool → Prop) : Prop := (Pre_least_move v_lboth v_lsize_in) ∧ ((¬ ((m_least_move v_lboth v_lsize_in) = (mxI v_lone v_ltwo)) → (rt false)) ∧ (((m_least_move v_lboth v_lsize_in) = (mxI v_lone v_ltwo)) → (W_law_14 v_lmarks v_lothers v_lsize_in v_lhere v_lone v_ltwo v_lboth rt)))
theorem wt_law_13 {N : DE} (v_lmarks : (List (OkS × Int × Int))) (v_lothers : (List (OkS × Int × Int))) (v_lsize_in : Int) (v_lhere : (List (OkS × Int × Int))) (v_lone : Int) (v_ltwo : Int) (v_lboth : (List (OkS × Int × Int))) {rt : Bool → Prop} (hrt : ∀ r, rt r → N.rt (eB r)) (h : W_law_13 v_lmarks v_lothers v_lsize_in v_lhere v_lone v_ltwo v_lboth rt) : t_law_13 N [none, none, none, some ((eL .f (eT3 eS eI eI)) v_lmarks), none, some ((eL .f (eT3 eS eI eI)) v_lothers), some (eI v_lsize_in), none, none, none, some ((eL .f (eT3 eS eI eI)) v_lhere), none, some (eI v_lone), some (eI v_ltwo), some ((eL .f (eT3 eS eI eI)) v_lboth), none, none, none] :=
  (w_ifSS (et_b (ev_bin (ev_fn (ea_kw (xs := [(eL .f (eT3 eS eI eI)) v_lboth, eI v_lsize_in]) (ea_cons (ev_var 14 (e := (eL .f (eT3 eS eI eI))) (e' := (eL .f (eT3 eS eI eI))) (v := v_lboth) rfl) ea_nil) (ea_cons (ev_var 6 (e := eI) (e' := eI) (v := v_lsize_in) rfl) ea_nil) rfl rfl rfl) (fz_c (Fz.h (e := (eL .f (eT3 eS eI eI))) (e' := (eL .f (eT3 eS eI eI))) _) (fz_c (Fz.h (e := eI) (e' := eI) _) fz_n)) (fl_c (FlC.h (b := true) (e := (eL .f (eT3 eS eI eI))) _) (fl_c (FlC.h (b := true) (e := eI) _) fl_n)) (s_least_move_c h.1)) (ev_call (ea_cons (ev_var 12 (e := eI) (e' := eI) (v := v_lone) rfl) (ea_cons (ev_var 13 (e := eI) (e' := eI) (v := v_ltwo) rfl) ea_nil)) (by exact (o_max2 (i := v_lone) (j := v_ltwo)))) (o_ne (e := eI) (e' := eI) (u := (m_least_move v_lboth v_lsize_in)) (v := (mxI v_lone v_ltwo))))) (fun hk => (w_ret (d := eB false) (ev_c (d := eB false)) (Rt.h (e := eB) (e' := eB) _) (by exact hrt _ (h.2.1 (of_decide_eq_false (not_t hk)))))) (fun hk => (w_next (nx_i (wt_law_14 (N := N) v_lmarks v_lothers v_lsize_in v_lhere v_lone v_ltwo v_lboth hrt (h.2.2 (of_decide_eq_true (not_f hk))))))))
def t_law_12 : DS := (dSeq (dAsg (.nm 14) (dFn S__law_shuffled (dCons (dVar 1) (dCons (dBin (o2 addD) (dVar 3) (dVar 5)) dNil)))) (dSeq (dFrz 14) (dSeq (dWipe [1]) t_law_13)))
def W_law_12 (v_lpen_here : Unit) (v_lmarks : (List (OkS × Int × Int))) (v_lothers : (List (OkS × Int × Int))) (v_lsize_in : Int) (v_lhere : (List (OkS × Int × Int))) (v_lone : Int) (v_ltwo : Int) (rt : Bool → Prop) : Prop := ((v_lmarks).length + (v_lothers).length ≤ sizeLine) ∧ ((Pre__law_shuffled (v_lmarks ++ v_lothers)) ∧ (∀ r19 : (List (OkS × Int × Int)), Post__law_shuffled (v_lmarks ++ v_lothers) r19 → (W_law_13 v_lmarks v_lothers v_lsize_in v_lhere v_lone v_ltwo r19 rt)))
theorem wt_law_12 {N : DE} (v_lpen_here : Unit) (v_lmarks : (List (OkS × Int × Int))) (v_lothers : (List (OkS × Int × Int))) (v_lsize_in : Int) (v_lhere : (List (OkS × Int × Int))) (v_lone : Int) (v_ltwo : Int) {rt : Bool → Prop} (hrt : ∀ r, rt r → N.rt (eB r)) (h : W_law_12 v_lpen_here v_lmarks v_lothers v_lsize_in v_lhere v_lone v_ltwo rt) : t_law_12 N [none, some (ePen v_lpen_here), none, some ((eL .f (eT3 eS eI eI)) v_lmarks), none, some ((eL .f (eT3 eS eI eI)) v_lothers), some (eI v_lsize_in), none, none, none, some ((eL .f (eT3 eS eI eI)) v_lhere), none, some (eI v_lone), some (eI v_ltwo), none, none, none, none] :=
  (c_setCS 14 (c_fnC (c_cons (c_ev (d := ePen v_lpen_here) (ev_var 1 (e := ePen) (e' := ePen) (v := v_lpen_here) rfl) (c_cons (c_ev (d := (eL .o (eT3 eS eI eI)) (v_lmarks ++ v_lothers)) (ev_bin (ev_var 3 (e := (eL .f (eT3 eS eI eI))) (e' := (eL .f (eT3 eS eI eI))) (v := v_lmarks) rfl) (ev_var 5 (e := (eL .f (eT3 eS eI eI))) (e' := (eL .f (eT3 eS eI eI))) (v := v_lothers) rfl) (o_addL (e := (eT3 eS eI eI)) h.1)) (c_nil (c_call0n (e := (eL .o (eT3 eS eI eI))) (e' := (eL .o (eT3 eS eI eI))) (fz_c (Fz.h (e := ePen) (e' := ePen) _) (fz_c (Fz.h (e := (eL .o (eT3 eS eI eI))) (e' := (eL .f (eT3 eS eI eI))) _) fz_n)) (fl_g (FlC.h (b := true) (e := ePen) _) (fl_f (FlC.h (b := false) (e := (eL .o (eT3 eS eI eI))) _))) (s__law_shuffled_c h.2.1) (fun r19 hr19 => ⟨(Nb.h (e := (eL .o (eT3 eS eI eI))) _), (w_frzS 14 (e := (eL .o (eT3 eS eI eI))) (e' := (eL .f (eT3 eS eI eI))) (v := r19) rfl (w_wipeS (wt_law_13 (N := N) v_lmarks v_lothers v_lsize_in v_lhere v_lone v_ltwo r19 hrt (h.2.2 r19 hr19)) rfl))⟩)))))))))
def t_law_11 : DS := (dSeq (dPar [12, 13] (dCons (dFn S_least_move (dKw 1 1 (fun us _ ws => us ++ ws) [] (dCons (dVar 3) dNil) (dCons (dVar 6) dNil))) (dCons (dFn S_least_move (dKw 1 1 (fun us _ ws => us ++ ws) [] (dCons (dVar 5) dNil) (dCons (dVar 6) dNil))) dNil))) t_law_12)
def W_law_11 (v_lpen_here : Unit) (v_lmarks : (List (OkS × Int × Int))) (v_lothers : (List (OkS × Int × Int))) (v_lsize_in : Int) (v_lhere : (List (OkS × Int × Int))) (rt : Bool → Prop) : Prop := (Pre_least_move v_lmarks v_lsize_in) ∧ (Pre_least_move v_lothers v_lsize_in) ∧ (W_law_12 v_lpen_here v_lmarks v_lothers v_lsize_in v_lhere (m_least_move v_lmarks v_lsize_in) (m_least_move v_lothers v_lsize_in) rt)
theorem wt_law_11 {N : DE} (v_lpen_here : Unit) (v_lmarks : (List (OkS × Int × Int))) (v_lothers : (List (OkS × Int × Int))) (v_lsize_in : Int) (v_lhere : (List (OkS × Int × Int))) {rt : Bool → Prop} (hrt : ∀ r, rt r → N.rt (eB r)) (h : W_law_11 v_lpen_here v_lmarks v_lothers v_lsize_in v_lhere rt) : t_law_11 N [none, some (ePen v_lpen_here), none, some ((eL .f (eT3 eS eI eI)) v_lmarks), none, some ((eL .f (eT3 eS eI eI)) v_lothers), some (eI v_lsize_in), none, none, none, some ((eL .f (eT3 eS eI eI)) v_lhere), none, none, none, none, none, none, none] :=
  (w_parS (ds := [eI (m_least_move v_lmarks v_lsize_in), eI (m_least_move v_lothers v_lsize_in)]) (ea_cons (ev_fn (ea_kw (xs := [(eL .f (eT3 eS eI eI)) v_lmarks, eI v_lsize_in]) (ea_cons (ev_var 3 (e := (eL .f (eT3 eS eI eI))) (e' := (eL .f (eT3 eS eI eI))) (v := v_lmarks) rfl) ea_nil) (ea_cons (ev_var 6 (e := eI) (e' := eI) (v := v_lsize_in) rfl) ea_nil) rfl rfl rfl) (fz_c (Fz.h (e := (eL .f (eT3 eS eI eI))) (e' := (eL .f (eT3 eS eI eI))) _) (fz_c (Fz.h (e := eI) (e' := eI) _) fz_n)) (fl_c (FlC.h (b := true) (e := (eL .f (eT3 eS eI eI))) _) (fl_c (FlC.h (b := true) (e := eI) _) fl_n)) (s_least_move_c h.1)) (ea_cons (ev_fn (ea_kw (xs := [(eL .f (eT3 eS eI eI)) v_lothers, eI v_lsize_in]) (ea_cons (ev_var 5 (e := (eL .f (eT3 eS eI eI))) (e' := (eL .f (eT3 eS eI eI))) (v := v_lothers) rfl) ea_nil) (ea_cons (ev_var 6 (e := eI) (e' := eI) (v := v_lsize_in) rfl) ea_nil) rfl rfl rfl) (fz_c (Fz.h (e := (eL .f (eT3 eS eI eI))) (e' := (eL .f (eT3 eS eI eI))) _) (fz_c (Fz.h (e := eI) (e' := eI) _) fz_n)) (fl_c (FlC.h (b := true) (e := (eL .f (eT3 eS eI eI))) _) (fl_c (FlC.h (b := true) (e := eI) _) fl_n)) (s_least_move_c h.2.1)) ea_nil)) (nbs_cons (Nb.h (e := eI) _) (nbs_cons (Nb.h (e := eI) _) nbs_nil)) (gso_c (gso_c (gso_n (wt_law_12 (N := N) v_lpen_here v_lmarks v_lothers v_lsize_in v_lhere (m_least_move v_lmarks v_lsize_in) (m_least_move v_lothers v_lsize_in) hrt h.2.2)))))
def t_law_10 : DS := (dSeq (dIfS (dB (dBin (o2 (eqO not)) (dFn S_chain (dKw 1 1 (fun us _ ws => us ++ ws) [] (dCons (dVar 3) dNil) (dCons (dVar 6) dNil))) (dFn S_chain (dKw 1 1 (fun us _ ws => us ++ ws) [] (dCons (dVar 9) dNil) (dCons (dVar 6) dNil))))) (dRet (dC (.bl false))) (dWipe [9])) t_law_11)
def W_law_10 (v_lpen_here : Unit) (v_lmarks : (List (OkS × Int × Int))) (v_lothers : (List (OkS × Int × Int))) (v_lsize_in : Int) (v_llater : (List (OkS × Int × Int))) (v_lhere : (List (OkS × Int × Int))) (rt : Bool → Prop) : Prop := (Pre_chain v_lmarks v_lsize_in) ∧ (Pre_chain v_llater v_lsize_in) ∧ ((¬ ((m_chain v_lmarks v_lsize_in) = (m_chain v_llater v_lsize_in)) → (rt false)) ∧ (((m_chain v_lmarks v_lsize_in) = (m_chain v_llater v_lsize_in)) → (W_law_11 v_lpen_here v_lmarks v_lothers v_lsize_in v_lhere rt)))
theorem wt_law_10 {N : DE} (v_lpen_here : Unit) (v_lmarks : (List (OkS × Int × Int))) (v_lothers : (List (OkS × Int × Int))) (v_lsize_in : Int) (v_llater : (List (OkS × Int × Int))) (v_lhere : (List (OkS × Int × Int))) {rt : Bool → Prop} (hrt : ∀ r, rt r → N.rt (eB r)) (h : W_law_10 v_lpen_here v_lmarks v_lothers v_lsize_in v_llater v_lhere rt) : t_law_10 N [none, some (ePen v_lpen_here), none, some ((eL .f (eT3 eS eI eI)) v_lmarks), none, some ((eL .f (eT3 eS eI eI)) v_lothers), some (eI v_lsize_in), none, none, some ((eL .f (eT3 eS eI eI)) v_llater), some ((eL .f (eT3 eS eI eI)) v_lhere), none, none, none, none, none, none, none] :=
  (w_ifSS (et_b (ev_bin (ev_fn (ea_kw (xs := [(eL .f (eT3 eS eI eI)) v_lmarks, eI v_lsize_in]) (ea_cons (ev_var 3 (e := (eL .f (eT3 eS eI eI))) (e' := (eL .f (eT3 eS eI eI))) (v := v_lmarks) rfl) ea_nil) (ea_cons (ev_var 6 (e := eI) (e' := eI) (v := v_lsize_in) rfl) ea_nil) rfl rfl rfl) (fz_c (Fz.h (e := (eL .f (eT3 eS eI eI))) (e' := (eL .f (eT3 eS eI eI))) _) (fz_c (Fz.h (e := eI) (e' := eI) _) fz_n)) (fl_c (FlC.h (b := true) (e := (eL .f (eT3 eS eI eI))) _) (fl_c (FlC.h (b := true) (e := eI) _) fl_n)) (s_chain_c h.1)) (ev_fn (ea_kw (xs := [(eL .f (eT3 eS eI eI)) v_llater, eI v_lsize_in]) (ea_cons (ev_var 9 (e := (eL .f (eT3 eS eI eI))) (e' := (eL .f (eT3 eS eI eI))) (v := v_llater) rfl) ea_nil) (ea_cons (ev_var 6 (e := eI) (e' := eI) (v := v_lsize_in) rfl) ea_nil) rfl rfl rfl) (fz_c (Fz.h (e := (eL .f (eT3 eS eI eI))) (e' := (eL .f (eT3 eS eI eI))) _) (fz_c (Fz.h (e := eI) (e' := eI) _) fz_n)) (fl_c (FlC.h (b := true) (e := (eL .f (eT3 eS eI eI))) _) (fl_c (FlC.h (b := true) (e := eI) _) fl_n)) (s_chain_c h.2.1)) (o_ne (e := (eO (eL .f eS))) (e' := (eO (eL .f eS))) (u := (m_chain v_lmarks v_lsize_in)) (v := (m_chain v_llater v_lsize_in))))) (fun hk => (w_ret (d := eB false) (ev_c (d := eB false)) (Rt.h (e := eB) (e' := eB) _) (by exact hrt _ (h.2.2.1 (of_decide_eq_false (not_t hk)))))) (fun hk => (w_wipe (nx_i (wt_law_11 (N := N) v_lpen_here v_lmarks v_lothers v_lsize_in v_lhere hrt (h.2.2.2 (of_decide_eq_true (not_f hk))))) rfl)))
def t_law_9 : DS := (dSeq (dIfS (dB (dBin (o2 (eqO not)) (dLc (dIter itemsC (dVar 10)) [17] (.nm 17) dYes (dTup (dCons (dBin (o2 ixD) (dVar 17) (dC (.int 0))) (dCons (dBin (o2 addD) (dBin (o2 ixD) (dVar 17) (dC (.int 1))) (dVar 7)) (dCons (dBin (o2 addD) (dBin (o2 ixD) (dVar 17) (dC (.int 2))) (dVar 8)) dNil))))) (dVar 11))) (dRet (dC (.bl false))) (dWipe [7, 8, 11])) t_law_10)
def W_law_9 (v_lpen_here : Unit) (v_lmarks : (List (OkS × Int × Int))) (v_lothers : (List (OkS × Int × Int))) (v_lsize_in : Int) (v_lx : Int) (v_ly : Int) (v_llater : (List (OkS × Int × Int))) (v_lhere : (List (OkS × Int × Int))) (v_lthere : (List (OkS × Int × Int))) (rt : Bool → Prop) : Prop := ((v_lhere).length ≤ 1000000) ∧ ((¬ (((v_lhere).map (fun (x18 : (OkS × Int × Int)) => (x18.1, (x18.2.1 + v_lx), (x18.2.2 + v_ly)))) = v_lthere) → (rt false)) ∧ ((((v_lhere).map (fun (x18 : (OkS × Int × Int)) => (x18.1, (x18.2.1 + v_lx), (x18.2.2 + v_ly)))) = v_lthere) → (W_law_10 v_lpen_here v_lmarks v_lothers v_lsize_in v_llater v_lhere rt)))
theorem wt_law_9 {N : DE} (v_lpen_here : Unit) (v_lmarks : (List (OkS × Int × Int))) (v_lothers : (List (OkS × Int × Int))) (v_lsize_in : Int) (v_lx : Int) (v_ly : Int) (v_llater : (List (OkS × Int × Int))) (v_lhere : (List (OkS × Int × Int))) (v_lthere : (List (OkS × Int × Int))) {rt : Bool → Prop} (hrt : ∀ r, rt r → N.rt (eB r)) (h : W_law_9 v_lpen_here v_lmarks v_lothers v_lsize_in v_lx v_ly v_llater v_lhere v_lthere rt) : t_law_9 N [none, some (ePen v_lpen_here), none, some ((eL .f (eT3 eS eI eI)) v_lmarks), none, some ((eL .f (eT3 eS eI eI)) v_lothers), some (eI v_lsize_in), some (eI v_lx), some (eI v_ly), some ((eL .f (eT3 eS eI eI)) v_llater), some ((eL .f (eT3 eS eI eI)) v_lhere), some ((eL .f (eT3 eS eI eI)) v_lthere), none, none, none, none, none, none] :=
  (w_ifSS (et_b (ev_bin (ev_lcM (eX := (eT3 eS eI eI)) (eY := (eT3 eS eI eI)) (l := v_lhere) (f := (fun (x18 : (OkS × Int × Int)) => (x18.1, (x18.2.1 + v_lx), (x18.2.2 + v_ly)))) (fun x18 => [none, some (ePen v_lpen_here), none, some ((eL .f (eT3 eS eI eI)) v_lmarks), none, some ((eL .f (eT3 eS eI eI)) v_lothers), some (eI v_lsize_in), some (eI v_lx), some (eI v_ly), some ((eL .f (eT3 eS eI eI)) v_llater), some ((eL .f (eT3 eS eI eI)) v_lhere), some ((eL .f (eT3 eS eI eI)) v_lthere), none, none, none, none, none, some ((eT3 eS eI eI) x18)]) (ei_C (e := (eT3 eS eI eI)) (ev_var 10 (e := (eL .f (eT3 eS eI eI))) (e' := (eL .f (eT3 eS eI eI))) (v := v_lhere) rfl)) h.1 (fun x18 N q => (g_nm q)) (fun x18 hx => (ev_tup3 (a := eS) (x := x18.1) (b := eI) (y := (x18.2.1 + v_lx)) (c := eI) (z := (x18.2.2 + v_ly)) (ev_bin (ev_var 17 (e := (eT3 eS eI eI)) (e' := (eT3 eS eI eI)) (v := x18) rfl) (ev_c (d := eI 0)) (o_ixT (ds := [eS x18.1, eI x18.2.1, eI x18.2.2]) (d := eS x18.1) rfl)) (ev_bin (ev_bin (ev_var 17 (e := (eT3 eS eI eI)) (e' := (eT3 eS eI eI)) (v := x18) rfl) (ev_c (d := eI 1)) (o_ixT (ds := [eS x18.1, eI x18.2.1, eI x18.2.2]) (d := eI x18.2.1) rfl)) (ev_var 7 (e := eI) (e' := eI) (v := v_lx) rfl) (@o_add _ x18.2.1 v_lx)) (ev_bin (ev_bin (ev_var 17 (e := (eT3 eS eI eI)) (e' := (eT3 eS eI eI)) (v := x18) rfl) (ev_c (d := eI 2)) (o_ixT (ds := [eS x18.1, eI x18.2.1, eI x18.2.2]) (d := eI x18.2.2) rfl)) (ev_var 8 (e := eI) (e' := eI) (v := v_ly) rfl) (@o_add _ x18.2.2 v_ly))))) (ev_var 11 (e := (eL .f (eT3 eS eI eI))) (e' := (eL .f (eT3 eS eI eI))) (v := v_lthere) rfl) (o_ne (e := (eL .o (eT3 eS eI eI))) (e' := (eL .f (eT3 eS eI eI))) (u := ((v_lhere).map (fun (x18 : (OkS × Int × Int)) => (x18.1, (x18.2.1 + v_lx), (x18.2.2 + v_ly))))) (v := v_lthere)))) (fun hk => (w_ret (d := eB false) (ev_c (d := eB false)) (Rt.h (e := eB) (e' := eB) _) (by exact hrt _ (h.2.1 (of_decide_eq_false (not_t hk)))))) (fun hk => (w_wipe (nx_i (wt_law_10 (N := N) v_lpen_here v_lmarks v_lothers v_lsize_in v_llater v_lhere hrt (h.2.2 (of_decide_eq_true (not_f hk))))) rfl)))
def t_law_8 : DS := (dSeq (dPar [10, 11] (dCons (dFn S_apart (dKw 1 1 (fun us _ ws => us ++ ws) [] (dCons (dVar 3) dNil) (dCons (dVar 6) dNil))) (dCons (dFn S_apart (dKw 1 1 (fun us _ ws => us ++ ws) [] (dCons (dVar 9) dNil) (dCons (dVar 6) dNil))) dNil))) (dSeq (dFrz 10) (dSeq (dFrz 11) t_law_9)))
def W_law_8 (v_lpen_here : Unit) (v_lmarks : (List (OkS × Int × Int))) (v_lothers : (List (OkS × Int × Int))) (v_lsize_in : Int) (v_lx : Int) (v_ly : Int) (v_llater : (List (OkS × Int × Int))) (rt : Bool → Prop) : Prop := (Pre_apart v_lmarks v_lsize_in) ∧ (Pre_apart v_llater v_lsize_in) ∧ (W_law_9 v_lpen_here v_lmarks v_lothers v_lsize_in v_lx v_ly v_llater (m_apart v_lmarks v_lsize_in) (m_apart v_llater v_lsize_in) rt)
theorem wt_law_8 {N : DE} (v_lpen_here : Unit) (v_lmarks : (List (OkS × Int × Int))) (v_lothers : (List (OkS × Int × Int))) (v_lsize_in : Int) (v_lx : Int) (v_ly : Int) (v_llater : (List (OkS × Int × Int))) {rt : Bool → Prop} (hrt : ∀ r, rt r → N.rt (eB r)) (h : W_law_8 v_lpen_here v_lmarks v_lothers v_lsize_in v_lx v_ly v_llater rt) : t_law_8 N [none, some (ePen v_lpen_here), none, some ((eL .f (eT3 eS eI eI)) v_lmarks), none, some ((eL .f (eT3 eS eI eI)) v_lothers), some (eI v_lsize_in), some (eI v_lx), some (eI v_ly), some ((eL .f (eT3 eS eI eI)) v_llater), none, none, none, none, none, none, none, none] :=
  (w_parS (ds := [(eL .o (eT3 eS eI eI)) (m_apart v_lmarks v_lsize_in), (eL .o (eT3 eS eI eI)) (m_apart v_llater v_lsize_in)]) (ea_cons (ev_fn (ea_kw (xs := [(eL .f (eT3 eS eI eI)) v_lmarks, eI v_lsize_in]) (ea_cons (ev_var 3 (e := (eL .f (eT3 eS eI eI))) (e' := (eL .f (eT3 eS eI eI))) (v := v_lmarks) rfl) ea_nil) (ea_cons (ev_var 6 (e := eI) (e' := eI) (v := v_lsize_in) rfl) ea_nil) rfl rfl rfl) (fz_c (Fz.h (e := (eL .f (eT3 eS eI eI))) (e' := (eL .f (eT3 eS eI eI))) _) (fz_c (Fz.h (e := eI) (e' := eI) _) fz_n)) (fl_c (FlC.h (b := true) (e := (eL .f (eT3 eS eI eI))) _) (fl_c (FlC.h (b := true) (e := eI) _) fl_n)) (s_apart_c h.1)) (ea_cons (ev_fn (ea_kw (xs := [(eL .f (eT3 eS eI eI)) v_llater, eI v_lsize_in]) (ea_cons (ev_var 9 (e := (eL .f (eT3 eS eI eI))) (e' := (eL .f (eT3 eS eI eI))) (v := v_llater) rfl) ea_nil) (ea_cons (ev_var 6 (e := eI) (e' := eI) (v := v_lsize_in) rfl) ea_nil) rfl rfl rfl) (fz_c (Fz.h (e := (eL .f (eT3 eS eI eI))) (e' := (eL .f (eT3 eS eI eI))) _) (fz_c (Fz.h (e := eI) (e' := eI) _) fz_n)) (fl_c (FlC.h (b := true) (e := (eL .f (eT3 eS eI eI))) _) (fl_c (FlC.h (b := true) (e := eI) _) fl_n)) (s_apart_c h.2.1)) ea_nil)) (nbs_cons (Nb.h (e := (eL .o (eT3 eS eI eI))) _) (nbs_cons (Nb.h (e := (eL .o (eT3 eS eI eI))) _) nbs_nil)) (gso_c (gso_c (gso_n (w_frzS 10 (e := (eL .o (eT3 eS eI eI))) (e' := (eL .f (eT3 eS eI eI))) (v := (m_apart v_lmarks v_lsize_in)) rfl (w_frzS 11 (e := (eL .o (eT3 eS eI eI))) (e' := (eL .f (eT3 eS eI eI))) (v := (m_apart v_llater v_lsize_in)) rfl (wt_law_9 (N := N) v_lpen_here v_lmarks v_lothers v_lsize_in v_lx v_ly v_llater (m_apart v_lmarks v_lsize_in) (m_apart v_llater v_lsize_in) hrt h.2.2)))))))
def t_law_7 : DS := (dSeq (dAsg (.nm 9) (dLc (dIter itemsC (dVar 3)) [17] (.nm 17) dYes (dTup (dCons (dBin (o2 ixD) (dVar 17) (dC (.int 0))) (dCons (dBin (o2 addD) (dBin (o2 ixD) (dVar 17) (dC (.int 1))) (dVar 7)) (dCons (dBin (o2 addD) (dBin (o2 ixD) (dVar 17) (dC (.int 2))) (dVar 8)) dNil)))))) (dSeq (dFrz 9) t_law_8))
def W_law_7 (v_lpen_here : Unit) (v_lmarks : (List (OkS × Int × Int))) (v_lothers : (List (OkS × Int × Int))) (v_lsize_in : Int) (v_lx : Int) (v_ly : Int) (rt : Bool → Prop) : Prop := ((v_lmarks).length ≤ 1000000) ∧ (W_law_8 v_lpen_here v_lmarks v_lothers v_lsize_in v_lx v_ly ((v_lmarks).map (fun (x17 : (OkS × Int × Int)) => (x17.1, (x17.2.1 + v_lx), (x17.2.2 + v_ly)))) rt)
theorem wt_law_7 {N : DE} (v_lpen_here : Unit) (v_lmarks : (List (OkS × Int × Int))) (v_lothers : (List (OkS × Int × Int))) (v_lsize_in : Int) (v_lx : Int) (v_ly : Int) {rt : Bool → Prop} (hrt : ∀ r, rt r → N.rt (eB r)) (h : W_law_7 v_lpen_here v_lmarks v_lothers v_lsize_in v_lx v_ly rt) : t_law_7 N [none, some (ePen v_lpen_here), none, some ((eL .f (eT3 eS eI eI)) v_lmarks), none, some ((eL .f (eT3 eS eI eI)) v_lothers), some (eI v_lsize_in), some (eI v_lx), some (eI v_ly), none, none, none, none, none, none, none, none, none] :=
  (w_setS (d := (eL .o (eT3 eS eI eI)) ((v_lmarks).map (fun (x17 : (OkS × Int × Int)) => (x17.1, (x17.2.1 + v_lx), (x17.2.2 + v_ly))))) 9 (ev_lcM (eX := (eT3 eS eI eI)) (eY := (eT3 eS eI eI)) (l := v_lmarks) (f := (fun (x17 : (OkS × Int × Int)) => (x17.1, (x17.2.1 + v_lx), (x17.2.2 + v_ly)))) (fun x17 => [none, some (ePen v_lpen_here), none, some ((eL .f (eT3 eS eI eI)) v_lmarks), none, some ((eL .f (eT3 eS eI eI)) v_lothers), some (eI v_lsize_in), some (eI v_lx), some (eI v_ly), none, none, none, none, none, none, none, none, some ((eT3 eS eI eI) x17)]) (ei_C (e := (eT3 eS eI eI)) (ev_var 3 (e := (eL .f (eT3 eS eI eI))) (e' := (eL .f (eT3 eS eI eI))) (v := v_lmarks) rfl)) h.1 (fun x17 N q => (g_nm q)) (fun x17 hx => (ev_tup3 (a := eS) (x := x17.1) (b := eI) (y := (x17.2.1 + v_lx)) (c := eI) (z := (x17.2.2 + v_ly)) (ev_bin (ev_var 17 (e := (eT3 eS eI eI)) (e' := (eT3 eS eI eI)) (v := x17) rfl) (ev_c (d := eI 0)) (o_ixT (ds := [eS x17.1, eI x17.2.1, eI x17.2.2]) (d := eS x17.1) rfl)) (ev_bin (ev_bin (ev_var 17 (e := (eT3 eS eI eI)) (e' := (eT3 eS eI eI)) (v := x17) rfl) (ev_c (d := eI 1)) (o_ixT (ds := [eS x17.1, eI x17.2.1, eI x17.2.2]) (d := eI x17.2.1) rfl)) (ev_var 7 (e := eI) (e' := eI) (v := v_lx) rfl) (@o_add _ x17.2.1 v_lx)) (ev_bin (ev_bin (ev_var 17 (e := (eT3 eS eI eI)) (e' := (eT3 eS eI eI)) (v := x17) rfl) (ev_c (d := eI 2)) (o_ixT (ds := [eS x17.1, eI x17.2.1, eI x17.2.2]) (d := eI x17.2.2) rfl)) (ev_var 8 (e := eI) (e' := eI) (v := v_ly) rfl) (@o_add _ x17.2.2 v_ly))))) (Nb.h (e := (eL .o (eT3 eS eI eI))) _) (w_frzS 9 (e := (eL .o (eT3 eS eI eI))) (e' := (eL .f (eT3 eS eI eI))) (v := ((v_lmarks).map (fun (x17 : (OkS × Int × Int)) => (x17.1, (x17.2.1 + v_lx), (x17.2.2 + v_ly))))) rfl (wt_law_8 (N := N) v_lpen_here v_lmarks v_lothers v_lsize_in v_lx v_ly ((v_lmarks).map (fun (x17 : (OkS × Int × Int)) => (x17.1, (x17.2.1 + v_lx), (x17.2.2 + v_ly)))) hrt h.2)))
def t_law_6 : DS := (dSeq (dAsg (.tp (.cons (.nm 7) (.cons (.nm 8) .nil))) (dTup (dCons (dBin (o2 subD) (dFn S__law_pick (dCons (dVar 1) (dCons (dBin (o2 powD) (dC (.int 10)) (dC (.int 18))) dNil))) (dBin (o2 powD) (dC (.int 10)) (dC (.int 17)))) (dCons (dBin (o2 subD) (dFn S__law_pick (dCons (dVar 1) (dCons (dBin (o2 powD) (dC (.int 10)) (dC (.int 18))) dNil))) (dBin (o2 powD) (dC (.int 10)) (dC (.int 17)))) dNil)))) t_law_7)
def W_law_6 (v_lpen_here : Unit) (v_lmarks : (List (OkS × Int × Int))) (v_lothers : (List (OkS × Int × Int))) (v_lsize_in : Int) (rt : Bool → Prop) : Prop := (0 ≤ (18 : Int) ∧ (18 : Int) ≤ 1000 ∧ ((10 : Int)).natAbs < 2 ^ 64) ∧ (PickW ((10 : Int) ^ ((18 : Int)).toNat) (fun r15 => (0 ≤ (17 : Int) ∧ (17 : Int) ≤ 1000 ∧ ((10 : Int)).natAbs < 2 ^ 64) ∧ ((0 ≤ (18 : Int) ∧ (18 : Int) ≤ 1000 ∧ ((10 : Int)).natAbs < 2 ^ 64) ∧ (PickW ((10 : Int) ^ ((18 : Int)).toNat) (fun r16 => (0 ≤ (17 : Int) ∧ (17 : Int) ≤ 1000 ∧ ((10 : Int)).natAbs < 2 ^ 64) ∧ (W_law_7 v_lpen_here v_lmarks v_lothers v_lsize_in (r15 - ((10 : Int) ^ ((17 : Int)).toNat)) (r16 - ((10 : Int) ^ ((17 : Int)).toNat)) rt))))))
theorem wt_law_6 {N : DE} (v_lpen_here : Unit) (v_lmarks : (List (OkS × Int × Int))) (v_lothers : (List (OkS × Int × Int))) (v_lsize_in : Int) {rt : Bool → Prop} (hrt : ∀ r, rt r → N.rt (eB r)) (h : W_law_6 v_lpen_here v_lmarks v_lothers v_lsize_in rt) : t_law_6 N [none, some (ePen v_lpen_here), none, some ((eL .f (eT3 eS eI eI)) v_lmarks), none, some ((eL .f (eT3 eS eI eI)) v_lothers), some (eI v_lsize_in), none, none, none, none, none, none, none, none, none, none, none] :=
  (c_asgCS (c_tup (c_cons (c_bin (c_fnC (c_cons (c_ev (d := ePen v_lpen_here) (ev_var 1 (e := ePen) (e' := ePen) (v := v_lpen_here) rfl) (c_cons (c_ev (d := eI ((10 : Int) ^ ((18 : Int)).toNat)) (ev_bin (ev_c (d := eI 10)) (ev_c (d := eI 18)) (o_pow h.1)) (c_nil (c_call1 (fz_c (Fz.h (e := ePen) (e' := ePen) _) (fz_c (Fz.h (e := eI) (e' := eI) _) fz_n)) (fl_c (FlC.h (b := true) (e := ePen) _) (fl_c (FlC.h (b := true) (e := eI) _) fl_n)) (s_pick h.2 (fun r15 hr15 => (c_ev (d := eI ((10 : Int) ^ ((17 : Int)).toNat)) (ev_bin (ev_c (d := eI 10)) (ev_c (d := eI 17)) (o_pow hr15.1)) ((@o_sub _ r15 ((10 : Int) ^ ((17 : Int)).toNat)) _ (c_cons (c_bin (c_fnC (c_cons (c_ev (d := ePen v_lpen_here) (ev_var 1 (e := ePen) (e' := ePen) (v := v_lpen_here) rfl) (c_cons (c_ev (d := eI ((10 : Int) ^ ((18 : Int)).toNat)) (ev_bin (ev_c (d := eI 10)) (ev_c (d := eI 18)) (o_pow hr15.2.1)) (c_nil (c_call1 (fz_c (Fz.h (e := ePen) (e' := ePen) _) (fz_c (Fz.h (e := eI) (e' := eI) _) fz_n)) (fl_c (FlC.h (b := true) (e := ePen) _) (fl_c (FlC.h (b := true) (e := eI) _) fl_n)) (s_pick hr15.2.2 (fun r16 hr16 => (c_ev (d := eI ((10 : Int) ^ ((17 : Int)).toNat)) (ev_bin (ev_c (d := eI 10)) (ev_c (d := eI 17)) (o_pow hr16.1)) ((@o_sub _ r16 ((10 : Int) ^ ((17 : Int)).toNat)) _ (c_nil ⟨Nat.le_of_ble_eq_true rfl, ⟨(Nb.h (e := (eT2 eI eI)) ((r15 - ((10 : Int) ^ ((17 : Int)).toNat)), (r16 - ((10 : Int) ^ ((17 : Int)).toNat)))), (g_tp (gs_cons (g_nm (gs_cons (g_nm (gs_nil (wt_law_7 (N := N) v_lpen_here v_lmarks v_lothers v_lsize_in (r15 - ((10 : Int) ^ ((17 : Int)).toNat)) (r16 - ((10 : Int) ^ ((17 : Int)).toNat)) hrt hr16.2)))))))⟩⟩)))))))))))))))))))))))))))))
def t_law_5 : DS := (dSeq (dAsg (.nm 6) (dBin (o2 addD) (dC (.int 1)) (dFn S__law_pick (dCons (dVar 1) (dCons (dC (.int 8)) dNil))))) t_law_6)
def W_law_5 (v_lpen_here : Unit) (v_lmarks : (List (OkS × Int × Int))) (v_lothers : (List (OkS × Int × Int))) (rt : Bool → Prop) : Prop := PickW (8 : Int) (fun r14 => W_law_6 v_lpen_here v_lmarks v_lothers ((1 : Int) + r14) rt)
theorem wt_law_5 {N : DE} (v_lpen_here : Unit) (v_lmarks : (List (OkS × Int × Int))) (v_lothers : (List (OkS × Int × Int))) {rt : Bool → Prop} (hrt : ∀ r, rt r → N.rt (eB r)) (h : W_law_5 v_lpen_here v_lmarks v_lothers rt) : t_law_5 N [none, some (ePen v_lpen_here), none, some ((eL .f (eT3 eS eI eI)) v_lmarks), none, some ((eL .f (eT3 eS eI eI)) v_lothers), none, none, none, none, none, none, none, none, none, none, none, none] :=
  (c_setCS 6 (c_bin (c_ev (d := eI (1 : Int)) (ev_c (d := eI 1)) (c_fnC (c_cons (c_ev (d := ePen v_lpen_here) (ev_var 1 (e := ePen) (e' := ePen) (v := v_lpen_here) rfl) (c_cons (c_ev (d := eI (8 : Int)) (ev_c (d := eI 8)) (c_nil (c_call1 (fz_c (Fz.h (e := ePen) (e' := ePen) _) (fz_c (Fz.h (e := eI) (e' := eI) _) fz_n)) (fl_c (FlC.h (b := true) (e := ePen) _) (fl_c (FlC.h (b := true) (e := eI) _) fl_n)) (s_pick h (fun r14 hr14 => ((@o_add _ (1 : Int) r14) _ ⟨(Nb.h (e := eI) _), (wt_law_6 (N := N) v_lpen_here v_lmarks v_lothers ((1 : Int) + r14) hrt hr14)⟩)))))))))))))
def t_law_4 : DS := (dSeq (dAsg (.nm 5) (dLc (dIter itemsC (dSl (dVar 2) (dSo (dC (.int 4))) (dSo (dBin (o2 addD) (dC (.int 5)) (dFn S__law_pick (dCons (dVar 1) (dCons (dC (.int 4)) dNil))))))) [16] (.nm 16) dYes (dTup (dCons (dVar 16) (dCons (dBin (o2 addD) (dVar 4) (dFn S__law_pick (dCons (dVar 1) (dCons (dC (.int 9)) dNil)))) (dCons (dBin (o2 addD) (dVar 4) (dFn S__law_pick (dCons (dVar 1) (dCons (dC (.int 7)) dNil)))) dNil)))))) (dSeq (dFrz 5) (dSeq (dWipe [2, 4]) t_law_5)))
def W_law_4 (v_lpen_here : Unit) (v_lfolk_here : (List OkS)) (v_lmarks : (List (OkS × Int × Int))) (v_lfar : Int) (rt : Bool → Prop) : Prop := PickW (4 : Int) (fun r8 => (((cutL v_lfolk_here (some (4 : Int)) (some ((5 : Int) + r8)))).length ≤ 1000000) ∧ (forW (fun (x9 : OkS) (s : List (OkS × Int × Int)) nx _ => (fun (x9 : OkS) (KK10 : Option (OkS × Int × Int) → Prop) => PickW (9 : Int) (fun r11 => PickW (7 : Int) (fun r12 => KK10 (some (x9, (v_lfar + r11), (v_lfar + r12)))))) x9 (fun r => nx (s ++ r.toList))) (fun r13 => W_law_5 v_lpen_here v_lmarks r13 rt) (cutL v_lfolk_here (some (4 : Int)) (some ((5 : Int) + r8))) []))
theorem wt_law_4 {N : DE} (v_lpen_here : Unit) (v_lfolk_here : (List OkS)) (v_lmarks : (List (OkS × Int × Int))) (v_lfar : Int) {rt : Bool → Prop} (hrt : ∀ r, rt r → N.rt (eB r)) (h : W_law_4 v_lpen_here v_lfolk_here v_lmarks v_lfar rt) : t_law_4 N [none, some (ePen v_lpen_here), some ((eL .f eS) v_lfolk_here), some ((eL .f (eT3 eS eI eI)) v_lmarks), some (eI v_lfar), none, none, none, none, none, none, none, none, none, none, none, none, none] :=
  (c_setCS 5 (c_lcI (c_call (c_cons (c_ev (d := (eL .f eS) v_lfolk_here) (ev_var 2 (e := (eL .f eS)) (e' := (eL .f eS)) (v := v_lfolk_here) rfl) (c_cons (c_int (c_ev (d := eI (4 : Int)) (ev_c (d := eI 4)) (c_intq (c_cons (c_int (c_bin (c_ev (d := eI (5 : Int)) (ev_c (d := eI 5)) (c_fnC (c_cons (c_ev (d := ePen v_lpen_here) (ev_var 1 (e := ePen) (e' := ePen) (v := v_lpen_here) rfl) (c_cons (c_ev (d := eI (4 : Int)) (ev_c (d := eI 4)) (c_nil (c_call1 (fz_c (Fz.h (e := ePen) (e' := ePen) _) (fz_c (Fz.h (e := eI) (e' := eI) _) fz_n)) (fl_c (FlC.h (b := true) (e := ePen) _) (fl_c (FlC.h (b := true) (e := eI) _) fl_n)) (s_pick h (fun r8 hr8 => ((@o_add _ (5 : Int) r8) _ (c_intq (c_nil (o_sl (e := eS) (l := v_lfolk_here) (lo := (some (4 : Int))) (hi := (some ((5 : Int) + r8))) rfl rfl _ (lcn_leaf (eX := eS) (eY := (eT3 eS eI eI)) (body := (fun (x9 : OkS) (KK10 : Option (OkS × Int × Int) → Prop) => PickW (9 : Int) (fun r11 => PickW (7 : Int) (fun r12 => KK10 (some (x9, (v_lfar + r11), (v_lfar + r12))))))) (K := fun r13 => W_law_5 v_lpen_here v_lmarks r13 rt) (fun x9 => [none, some (ePen v_lpen_here), some ((eL .f eS) v_lfolk_here), some ((eL .f (eT3 eS eI eI)) v_lmarks), some (eI v_lfar), none, none, none, none, none, none, none, none, none, none, none, some (eS x9), none]) (ei_C (e := eS) (ev_c (d := (eL .o eS) (cutL v_lfolk_here (some (4 : Int)) (some ((5 : Int) + r8)))))) hr8.1 hr8.2 (fun x9 N q => (g_nm q)) (fun x9 KK10 G1 G0 k1KK10 k0KK10 hbKK10 => (c_dYes (c_tup (c_cons (c_ev (d := eS x9) (ev_var 16 (e := eS) (e' := eS) (v := x9) rfl) (c_cons (c_bin (c_ev (d := eI v_lfar) (ev_var 4 (e := eI) (e' := eI) (v := v_lfar) rfl) (c_fnC (c_cons (c_ev (d := ePen v_lpen_here) (ev_var 1 (e := ePen) (e' := ePen) (v := v_lpen_here) rfl) (c_cons (c_ev (d := eI (9 : Int)) (ev_c (d := eI 9)) (c_nil (c_call1 (fz_c (Fz.h (e := ePen) (e' := ePen) _) (fz_c (Fz.h (e := eI) (e' := eI) _) fz_n)) (fl_c (FlC.h (b := true) (e := ePen) _) (fl_c (FlC.h (b := true) (e := eI) _) fl_n)) (s_pick hbKK10 (fun r11 hr11 => ((@o_add _ v_lfar r11) _ (c_cons (c_bin (c_ev (d := eI v_lfar) (ev_var 4 (e := eI) (e' := eI) (v := v_lfar) rfl) (c_fnC (c_cons (c_ev (d := ePen v_lpen_here) (ev_var 1 (e := ePen) (e' := ePen) (v := v_lpen_here) rfl) (c_cons (c_ev (d := eI (7 : Int)) (ev_c (d := eI 7)) (c_nil (c_call1 (fz_c (Fz.h (e := ePen) (e' := ePen) _) (fz_c (Fz.h (e := eI) (e' := eI) _) fz_n)) (fl_c (FlC.h (b := true) (e := ePen) _) (fl_c (FlC.h (b := true) (e := eI) _) fl_n)) (s_pick hr11 (fun r12 hr12 => ((@o_add _ v_lfar r12) _ (c_nil ⟨Nat.le_of_ble_eq_true rfl, (k1KK10 _ hr12)⟩)))))))))))))))))))))))))))))))) (fun r13 hr13 => ⟨(Nb.h (e := (eL .o (eT3 eS eI eI))) _), (w_frzS 5 (e := (eL .o (eT3 eS eI eI))) (e' := (eL .f (eT3 eS eI eI))) (v := r13) rfl (w_wipeS (wt_law_5 (N := N) v_lpen_here v_lmarks r13 hrt hr13) rfl))⟩))))))))))))))))))))))))))))
def t_law_3 : DS := (dSeq (dAsg (.nm 4) (dBin (o2 powD) (dC (.int 10)) (dC (.int 6)))) t_law_4)
def W_law_3 (v_lpen_here : Unit) (v_lfolk_here : (List OkS)) (v_lmarks : (List (OkS × Int × Int))) (rt : Bool → Prop) : Prop := (0 ≤ (6 : Int) ∧ (6 : Int) ≤ 1000 ∧ ((10 : Int)).natAbs < 2 ^ 64) ∧ (W_law_4 v_lpen_here v_lfolk_here v_lmarks ((10 : Int) ^ ((6 : Int)).toNat) rt)
theorem wt_law_3 {N : DE} (v_lpen_here : Unit) (v_lfolk_here : (List OkS)) (v_lmarks : (List (OkS × Int × Int))) {rt : Bool → Prop} (hrt : ∀ r, rt r → N.rt (eB r)) (h : W_law_3 v_lpen_here v_lfolk_here v_lmarks rt) : t_law_3 N [none, some (ePen v_lpen_here), some ((eL .f eS) v_lfolk_here), some ((eL .f (eT3 eS eI eI)) v_lmarks), none, none, none, none, none, none, none, none, none, none, none, none, none, none] :=
  (w_setS (d := eI ((10 : Int) ^ ((6 : Int)).toNat)) 4 (ev_bin (ev_c (d := eI 10)) (ev_c (d := eI 6)) (o_pow h.1)) (Nb.h (e := eI) _) (wt_law_4 (N := N) v_lpen_here v_lfolk_here v_lmarks ((10 : Int) ^ ((6 : Int)).toNat) hrt h.2))
def t_law_2 : DS := (dSeq (dAsg (.nm 3) (dLc (dIter itemsC (dSl (dVar 2) dNo (dSo (dBin (o2 addD) (dC (.int 1)) (dFn S__law_pick (dCons (dVar 1) (dCons (dC (.int 4)) dNil))))))) [16] (.nm 16) dYes (dTup (dCons (dVar 16) (dCons (dFn S__law_pick (dCons (dVar 1) (dCons (dC (.int 9)) dNil))) (dCons (dFn S__law_pick (dCons (dVar 1) (dCons (dC (.int 7)) dNil))) dNil)))))) (dSeq (dFrz 3) t_law_3))
def W_law_2 (v_lpen_here : Unit) (v_lfolk_here : (List OkS)) (rt : Bool → Prop) : Prop := PickW (4 : Int) (fun r2 => (((cutL v_lfolk_here none (some ((1 : Int) + r2)))).length ≤ 1000000) ∧ (forW (fun (x3 : OkS) (s : List (OkS × Int × Int)) nx _ => (fun (x3 : OkS) (KK4 : Option (OkS × Int × Int) → Prop) => PickW (9 : Int) (fun r5 => PickW (7 : Int) (fun r6 => KK4 (some (x3, r5, r6))))) x3 (fun r => nx (s ++ r.toList))) (fun r7 => W_law_3 v_lpen_here v_lfolk_here r7 rt) (cutL v_lfolk_here none (some ((1 : Int) + r2))) []))
theorem wt_law_2 {N : DE} (v_lpen_here : Unit) (v_lfolk_here : (List OkS)) {rt : Bool → Prop} (hrt : ∀ r, rt r → N.rt (eB r)) (h : W_law_2 v_lpen_here v_lfolk_here rt) : t_law_2 N [none, some (ePen v_lpen_here), some ((eL .f eS) v_lfolk_here), none, none, none, none, none, none, none, none, none, none, none, none, none, none, none] :=
  (c_setCS 3 (c_lcI (c_call (c_cons (c_ev (d := (eL .f eS) v_lfolk_here) (ev_var 2 (e := (eL .f eS)) (e' := (eL .f eS)) (v := v_lfolk_here) rfl) (c_cons (c_ev (d := .non) (fun _ q => q) (c_cons (c_int (c_bin (c_ev (d := eI (1 : Int)) (ev_c (d := eI 1)) (c_fnC (c_cons (c_ev (d := ePen v_lpen_here) (ev_var 1 (e := ePen) (e' := ePen) (v := v_lpen_here) rfl) (c_cons (c_ev (d := eI (4 : Int)) (ev_c (d := eI 4)) (c_nil (c_call1 (fz_c (Fz.h (e := ePen) (e' := ePen) _) (fz_c (Fz.h (e := eI) (e' := eI) _) fz_n)) (fl_c (FlC.h (b := true) (e := ePen) _) (fl_c (FlC.h (b := true) (e := eI) _) fl_n)) (s_pick h (fun r2 hr2 => ((@o_add _ (1 : Int) r2) _ (c_intq (c_nil (o_sl (e := eS) (l := v_lfolk_here) (lo := none) (hi := (some ((1 : Int) + r2))) rfl rfl _ (lcn_leaf (eX := eS) (eY := (eT3 eS eI eI)) (body := (fun (x3 : OkS) (KK4 : Option (OkS × Int × Int) → Prop) => PickW (9 : Int) (fun r5 => PickW (7 : Int) (fun r6 => KK4 (some (x3, r5, r6)))))) (K := fun r7 => W_law_3 v_lpen_here v_lfolk_here r7 rt) (fun x3 => [none, some (ePen v_lpen_here), some ((eL .f eS) v_lfolk_here), none, none, none, none, none, none, none, none, none, none, none, none, none, some (eS x3), none]) (ei_C (e := eS) (ev_c (d := (eL .o eS) (cutL v_lfolk_here none (some ((1 : Int) + r2)))))) hr2.1 hr2.2 (fun x3 N q => (g_nm q)) (fun x3 KK4 G1 G0 k1KK4 k0KK4 hbKK4 => (c_dYes (c_tup (c_cons (c_ev (d := eS x3) (ev_var 16 (e := eS) (e' := eS) (v := x3) rfl) (c_cons (c_fnC (c_cons (c_ev (d := ePen v_lpen_here) (ev_var 1 (e := ePen) (e' := ePen) (v := v_lpen_here) rfl) (c_cons (c_ev (d := eI (9 : Int)) (ev_c (d := eI 9)) (c_nil (c_call1 (fz_c (Fz.h (e := ePen) (e' := ePen) _) (fz_c (Fz.h (e := eI) (e' := eI) _) fz_n)) (fl_c (FlC.h (b := true) (e := ePen) _) (fl_c (FlC.h (b := true) (e := eI) _) fl_n)) (s_pick hbKK4 (fun r5 hr5 => (c_cons (c_fnC (c_cons (c_ev (d := ePen v_lpen_here) (ev_var 1 (e := ePen) (e' := ePen) (v := v_lpen_here) rfl) (c_cons (c_ev (d := eI (7 : Int)) (ev_c (d := eI 7)) (c_nil (c_call1 (fz_c (Fz.h (e := ePen) (e' := ePen) _) (fz_c (Fz.h (e := eI) (e' := eI) _) fz_n)) (fl_c (FlC.h (b := true) (e := ePen) _) (fl_c (FlC.h (b := true) (e := eI) _) fl_n)) (s_pick hr5 (fun r6 hr6 => (c_nil ⟨Nat.le_of_ble_eq_true rfl, (k1KK4 _ hr6)⟩)))))))))))))))))))))))))) (fun r7 hr7 => ⟨(Nb.h (e := (eL .o (eT3 eS eI eI))) _), (w_frzS 3 (e := (eL .o (eT3 eS eI eI))) (e' := (eL .f (eT3 eS eI eI))) (v := r7) rfl (wt_law_3 (N := N) v_lpen_here v_lfolk_here r7 hrt hr7))⟩))))))))))))))))))))))))))
def t_law_1 : DS := (dSeq (dAsg (.nm 2) (dCall (o1 sortD) (dCons (dFn S__law_folk (dCons (dVar 1) (dCons (dC (.int 8)) dNil))) dNil))) (dSeq (dFrz 2) t_law_2))
def W_law_1 (v_lpen_here : Unit) (rt : Bool → Prop) : Prop := (Pre__law_folk (8 : Int)) ∧ (∀ r1 : (List OkS), Post__law_folk (8 : Int) r1 → (W_law_2 v_lpen_here ((r1).mergeSort (leOf ltS)) rt))
theorem wt_law_1 {N : DE} (v_lpen_here : Unit) {rt : Bool → Prop} (hrt : ∀ r, rt r → N.rt (eB r)) (h : W_law_1 v_lpen_here rt) : t_law_1 N [none, some (ePen v_lpen_here), none, none, none, none, none, none, none, none, none, none, none, none, none, none, none, none] :=
  (c_setCS 2 (c_call (c_cons (c_fnC (c_cons (c_ev (d := ePen v_lpen_here) (ev_var 1 (e := ePen) (e' := ePen) (v := v_lpen_here) rfl) (c_cons (c_ev (d := eI (8 : Int)) (ev_c (d := eI 8)) (c_nil (c_call1 (fz_c (Fz.h (e := ePen) (e' := ePen) _) (fz_c (Fz.h (e := eI) (e' := eI) _) fz_n)) (fl_c (FlC.h (b := true) (e := ePen) _) (fl_c (FlC.h (b := true) (e := eI) _) fl_n)) (s__law_folk_c h.1 _ (fun r1 hr1 => (c_nil ((o_sort (e := eS) (l := r1)) _ ⟨(Nb.h (e := (eL .o eS)) _), (w_frzS 2 (e := (eL .o eS)) (e' := (eL .f eS)) (v := ((r1).mergeSort (leOf ltS))) rfl (wt_law_2 (N := N) v_lpen_here ((r1).mergeSort (leOf ltS)) hrt (h.2 r1 hr1)))⟩))))))))))))))
def t_law : DS := (dSeq (dPen 1 0) (dSeq (dWipe [0]) t_law_1))
def W_law (v_lscript : (List Int)) (rt : Bool → Prop) : Prop := ((v_lscript).length ≤ 63) ∧ (W_law_1 () rt)
theorem wt_law {N : DE} (v_lscript : (List Int)) {rt : Bool → Prop} (hrt : ∀ r, rt r → N.rt (eB r)) (h : W_law v_lscript rt) : t_law N [some ((eL .f eI) v_lscript), none, none, none, none, none, none, none, none, none, none, none, none, none, none, none, none, none] :=
  (w_penS 1 0 (f := .f) (ns := v_lscript) rfl h.1 (w_wipeS (wt_law_1 (N := N) () hrt h.2) rfl))
theorem w_law {P : Program} {w : World} {K : PySem.W.Frag} {mg : Str → Option Value} {base : Heap} {k : Nat} (m_sorted : mg "sorted" = none) (m_max : mg "max" = none) (m_len : mg "len" = none) (f__law_folk : Fd P w K mg base k "_law_folk" S__law_folk) (f__law_pick : Fd P w K mg base k "_law_pick" S__law_pick) (f_apart : FdK P w K mg base k "apart" s_apart ["symbols", "size"] [("size", V.int (2))] S_apart) (f_chain : FdK P w K mg base k "chain" s_chain ["symbols", "size"] [("size", V.int (2))] S_chain) (f_least_move : FdK P w K mg base k "least_move" s_least_move ["symbols", "size"] [("size", V.int (2))] S_least_move) (f__law_shuffled : Fd P w K mg base k "_law_shuffled" S__law_shuffled) (f__law_pen : FnPen P w K mg base k "_law_pen") {fa : Addr} (cdv : Value) (A : Around) (outer : List PySem.Env) (s : Shared) (H : Hp) (E : XK) (hr : Room k (A.deeper (envOfC "law" (defScope s_law) s.heap.objs.size fa cdv))) :
    PDB (cxOf CX0 P w K mg base ["_law_script", "_law_pen_here", "_law_folk_here", "_law_marks", "_law_far", "_law_others", "_law_size_in", "_law_x", "_law_y", "_law_later", "_law_here", "_law_there", "_law_one", "_law_two", "_law_both", "_law_told", "_law_name", "_law_row"] "law" (defScope s_law) fa cdv A outer s H E).nox (defBody s_law) t_law :=
  have d : Gd (cxOf CX0 P w K mg base ["_law_script", "_law_pen_here", "_law_folk_here", "_law_marks", "_law_far", "_law_others", "_law_size_in", "_law_x", "_law_y", "_law_later", "_law_here", "_law_there", "_law_one", "_law_two", "_law_both", "_law_told", "_law_name", "_law_row"] "law" (defScope s_law) fa cdv A outer s H E).nox k := ⟨rfl, sc_law.nd, hr⟩
  (b_cons (s_pen 1 0 f__law_pen hr d.nd)
    (b_wipe [0] (b_cons (s_set 2 d (pd_callB (cr_sortD d.u') m_sorted (pda_cons (pd_fn f__law_folk hr (pda_cons (pd_var 1) (pda_cons pd_int pda_nil))) pda_nil) bo_sorted))
    (b_frz 2 (b_cons (s_setLc 3 (own := [("_law_name", 16)]) ⟨d.calm, d.nd, d.room⟩ (pic_any (pd_sl (pd_var 2) po_noned (po_somed (pd_bin op_addD pd_int (pd_fn f__law_pick hr (pda_cons (pd_var 1) (pda_cons pd_int pda_nil))))))) (by kernel_rfl) (by decide) (fun _ _ _ _ _ => (pdg_nm 16 d.nd)) (fun _ _ _ _ _ => pts_nild) (fun _ _ _ _ _ => (pd_tup (pda_cons (pd_var 16) (pda_cons (pd_fn f__law_pick hr (pda_cons (pd_var 1) (pda_cons pd_int pda_nil))) (pda_cons (pd_fn f__law_pick hr (pda_cons (pd_var 1) (pda_cons pd_int pda_nil))) pda_nil))))))
    (b_frz 3 (b_cons (s_set 4 d (pd_bin op_powD pd_int pd_int))
    (b_cons (s_setLc 5 (own := [("_law_name", 16)]) ⟨d.calm, d.nd, d.room⟩ (pic_any (pd_sl (pd_var 2) (po_somed pd_int) (po_somed (pd_bin op_addD pd_int (pd_fn f__law_pick hr (pda_cons (pd_var 1) (pda_cons pd_int pda_nil))))))) (by kernel_rfl) (by decide) (fun _ _ _ _ _ => (pdg_nm 16 d.nd)) (fun _ _ _ _ _ => pts_nild) (fun _ _ _ _ _ => (pd_tup (pda_cons (pd_var 16) (pda_cons (pd_bin op_addD (pd_var 4) (pd_fn f__law_pick hr (pda_cons (pd_var 1) (pda_cons pd_int pda_nil)))) (pda_cons (pd_bin op_addD (pd_var 4) (pd_fn f__law_pick hr (pda_cons (pd_var 1) (pda_cons pd_int pda_nil)))) pda_nil))))))
    (b_frz 5 (b_wipe [2, 4] (b_cons (s_set 6 d (pd_bin op_addD pd_int (pd_fn f__law_pick hr (pda_cons (pd_var 1) (pda_cons pd_int pda_nil)))))
    (b_cons (s_asg (pd_tup (pda_cons (pd_bin op_subD (pd_fn f__law_pick hr (pda_cons (pd_var 1) (pda_cons (pd_bin op_powD pd_int pd_int) pda_nil))) (pd_bin op_powD pd_int pd_int)) (pda_cons (pd_bin op_subD (pd_fn f__law_pick hr (pda_cons (pd_var 1) (pda_cons (pd_bin op_powD pd_int pd_int) pda_nil))) (pd_bin op_powD pd_int pd_int)) pda_nil))) (pdg_tp d.calm (pdg_cons (pdg_nm 7 d.nd) (pdg_cons (pdg_nm 8 d.nd) pdg_nil))))
    (b_cons (s_setLc 9 (own := [("_law_row", 17)]) ⟨d.calm, d.nd, d.room⟩ (pic_any (pd_var 3)) (by kernel_rfl) (by decide) (fun _ _ _ _ _ => (pdg_nm 17 d.nd)) (fun _ _ _ _ _ => pts_nild) (fun _ _ _ _ _ => (pd_tup (pda_cons (pd_ix (pd_var 17) pd_int) (pda_cons (pd_bin op_addD (pd_ix (pd_var 17) pd_int) (pd_var 7)) (pda_cons (pd_bin op_addD (pd_ix (pd_var 17) pd_int) (pd_var 8)) pda_nil))))))
    (b_frz 9 (b_cons (s_par2 10 11 d (pda_cons (pd_fnK (g := (fun us _ ws => us ++ ws)) (ks := ["size"]) (kws := [("size", V.int (2))]) (ms := []) (md := []) f_apart hr gok_a ko_apart_a_size (by simp) (by simp) rfl (fun _ _ _ _ => .nil) (pda_cons (pd_var 3) pda_nil) (pdk_cons (pd_var 6) pdk_nil)) (pda_cons (pd_fnK (g := (fun us _ ws => us ++ ws)) (ks := ["size"]) (kws := [("size", V.int (2))]) (ms := []) (md := []) f_apart hr gok_a ko_apart_a_size (by simp) (by simp) rfl (fun _ _ _ _ => .nil) (pda_cons (pd_var 9) pda_nil) (pdk_cons (pd_var 6) pdk_nil)) pda_nil)))
    (b_frz 10 (b_frz 11 (b_cons (s_if (pt_cmpd (op_neO d.u') (pd_lc (own := [("_law_row", 17)]) ⟨d.calm, d.nd, d.room⟩ (pic_any (pd_var 10)) (by kernel_rfl) (by decide) (fun _ _ _ _ _ => (pdg_nm 17 d.nd)) (fun _ _ _ _ _ => pts_nild) (fun _ _ _ _ _ => (pd_tup (pda_cons (pd_ix (pd_var 17) pd_int) (pda_cons (pd_bin op_addD (pd_ix (pd_var 17) pd_int) (pd_var 7)) (pda_cons (pd_bin op_addD (pd_ix (pd_var 17) pd_int) (pd_var 8)) pda_nil)))))) (pd_var 11)) (b_one (s_ret pd_bl)) (b_nilW [7, 8, 11]))
    (b_cons (s_if (pt_cmpd (op_neO d.u') (pd_fnK (g := (fun us _ ws => us ++ ws)) (ks := ["size"]) (kws := [("size", V.int (2))]) (ms := []) (md := []) f_chain hr gok_a ko_chain_a_size (by simp) (by simp) rfl (fun _ _ _ _ => .nil) (pda_cons (pd_var 3) pda_nil) (pdk_cons (pd_var 6) pdk_nil)) (pd_fnK (g := (fun us _ ws => us ++ ws)) (ks := ["size"]) (kws := [("size", V.int (2))]) (ms := []) (md := []) f_chain hr gok_a ko_chain_a_size (by simp) (by simp) rfl (fun _ _ _ _ => .nil) (pda_cons (pd_var 9) pda_nil) (pdk_cons (pd_var 6) pdk_nil))) (b_one (s_ret pd_bl)) (b_nilW [9]))
    (b_cons (s_par2 12 13 d (pda_cons (pd_fnK (g := (fun us _ ws => us ++ ws)) (ks := ["size"]) (kws := [("size", V.int (2))]) (ms := []) (md := []) f_least_move hr gok_a ko_least_move_a_size (by simp) (by simp) rfl (fun _ _ _ _ => .nil) (pda_cons (pd_var 3) pda_nil) (pdk_cons (pd_var 6) pdk_nil)) (pda_cons (pd_fnK (g := (fun us _ ws => us ++ ws)) (ks := ["size"]) (kws := [("size", V.int (2))]) (ms := []) (md := []) f_least_move hr gok_a ko_least_move_a_size (by simp) (by simp) rfl (fun _ _ _ _ => .nil) (pda_cons (pd_var 5) pda_nil) (pdk_cons (pd_var 6) pdk_nil)) pda_nil)))
    (b_cons (s_set 14 d (pd_fn f__law_shuffled hr (pda_cons (pd_var 1) (pda_cons (pd_bin op_addD (pd_var 3) (pd_var 5)) pda_nil))))
    (b_frz 14 (b_wipe [1] (b_cons (s_if (pt_cmpd (op_neO d.u') (pd_fnK (g := (fun us _ ws => us ++ ws)) (ks := ["size"]) (kws := [("size", V.int (2))]) (ms := []) (md := []) f_least_move hr gok_a ko_least_move_a_size (by simp) (by simp) rfl (fun _ _ _ _ => .nil) (pda_cons (pd_var 14) pda_nil) (pdk_cons (pd_var 6) pdk_nil)) (pd_callB (cr_max2D d.calm) m_max (pda_cons (pd_var 12) (pda_cons (pd_var 13) pda_nil)) bo_max)) (b_one (s_ret pd_bl)) b_nil)
    (b_cons (s_set 15 d (pd_fnK (g := (fun us _ ws => us ++ ws)) (ks := ["size"]) (kws := [("size", V.int (2))]) (ms := []) (md := []) f_apart hr gok_a ko_apart_a_size (by simp) (by simp) rfl (fun _ _ _ _ => .nil) (pda_cons (pd_var 14) pda_nil) (pdk_cons (pd_var 6) pdk_nil)))
    (b_frz 15 (b_wipe [14] (b_cons (s_if (pt_pw (pw_andd (pt_cmpd op_geD (pd_var 12) (pd_var 13)) (pw_and1d (pt_cmpd (op_neO d.u') (pd_sl (pd_var 15) po_noned (po_somed (pd_callB cr_lenD m_len (pda_cons (pd_var 3) pda_nil) bo_len))) (pd_var 10))))) (b_one (s_ret pd_bl)) (b_nilW [10]))
    (b_one (s_ret (pd_or (pd_cmp op_ltD (pd_var 13) (pd_var 12)) (pd_one (pd_cmp (op_eqO d.u') (pd_sl (pd_var 15) (po_somed (pd_callB cr_lenD m_len (pda_cons (pd_var 3) pda_nil) bo_len)) po_noned) (pd_fnK (g := (fun us _ ws => us ++ ws)) (ks := ["size"]) (kws := [("size", V.int (2))]) (ms := []) (md := []) f_apart hr gok_a ko_apart_a_size (by simp) (by simp) rfl (fun _ _ _ _ => .nil) (pda_cons (pd_var 5) pda_nil) (pdk_cons (pd_var 6) pdk_nil)))))))))))))))))))))))))))))))))))
def S_law : DSpec := fun ds Q => ∃ ns : List Int, ds = [.lst .f (ns.map D.int)] ∧ ns.length ≤ 63 ∧ Q (.bl true)
theorem p_law_of (c : ∀ ns : List Int, ns.length ≤ 63 → ∀ K : Bool → Prop, K true → W_law ns K) : ∀ ds Q, S_law ds Q → ds.length = 1 ∧ t_law (endD Q) (startE 18 ds) := by
  rintro ds Q ⟨ns, rfl, hl, q⟩
  exact ⟨rfl, wt_law (N := endD Q) ns (rt := fun r => Q (eB r)) (fun r h => ⟨Np.h (e := eB) r, h⟩) (c ns hl _ q)⟩

abbrev abc : OkS := ⟨"abcdefghijklmnopqrstuvwxyz", by decide +kernel⟩
theorem abc_cs : sCs abc = (List.range 26).map (97 + ·) := by decide +kernel
theorem strLen_eq (s : OkS) : s.1.length = (sCs s).length := by
  show s.1.cps.size = s.1.cps.toList.length
  simp
theorem sLen_eq (s : OkS) : sLen s = ((sCs s).length : Int) := by
  show ((s.1.length : Nat) : Int) = _
  rw [strLen_eq]
theorem sCh_len (s : OkS) : (sCh s).length = (sCs s).length := by
  unfold sCh
  rw [List.length_map]
theorem sCode_one {c : Nat} (h : c < 0x110000) : sCode (sOne c) = c := by
  show (#[c % 0x110000] : Array Nat).getD 0 0 = c
  rw [Nat.mod_eq_of_lt h]; rfl
theorem mem_abc {c : Nat} : c ∈ sCs abc ↔ 97 ≤ c ∧ c ≤ 122 := by
  rw [abc_cs, List.mem_map]
  constructor
  · rintro ⟨k, hk, rfl⟩
    have := List.mem_range.mp hk
    omega
  · intro h
    exact ⟨c - 97, List.mem_range.mpr (by omega), by omega⟩
theorem all_abc (s : OkS) : ((sCh s).all fun x1 => decide (sCode x1 ∈ sCs abc)) = decide (∀ c ∈ sCs s, 97 ≤ c ∧ c ≤ 122) := by
  unfold sCh
  rw [List.all_map]
  refine Bool.eq_iff_iff.mpr ?_
  rw [List.all_eq_true, decide_eq_true_eq]
  refine forall_congr' fun c => forall_congr' fun hc => ?_
  show decide (sCode (sOne c) ∈ sCs abc) = true ↔ _
  rw [sCode_one (sCs_lt s hc), decide_eq_true_eq, mem_abc]
theorem c_is_name (s : OkS) (h : Pre_is_name s) (K : Bool → Prop) (q : K (m_is_name s)) : W_is_name s K := by
  have h : s.1.length ≤ 100000 := h
  have h2 : (100000 : Nat) ≤ sizeLine := by decide
  refine ⟨Nat.le_trans h h2, fun _ => ⟨by rw [sCh_len, ← strLen_eq]; omega, fun x hx => ?_⟩, ?_⟩
  · obtain ⟨c, _, rfl⟩ := List.mem_map.mp hx
    rfl
  · have e : ((decide ((0 : Int) < sLen s) && decide (sLen s ≤ (8 : Int))) && ((sCh s).all fun x1 => decide (sCode x1 ∈ sCs abc))) = m_is_name s := by
      rw [all_abc]
      unfold m_is_name Nm
      rw [← Bool.decide_and, ← Bool.decide_and]
      exact decide_eq_decide.mpr ⟨fun h => ⟨h.1.1, h.1.2, h.2⟩, fun h => ⟨⟨h.1, h.2.1⟩, h.2.2⟩⟩
    exact e ▸ q
theorem sCut_lo {s : OkS} {i : Int} (h0 : 0 ≤ i) (h1 : i ≤ (sCs s).length) : sCs (sCut s none (some i)) = (sCs s).take i.toNat := by
  unfold sCut
  rw [sCs_mk (sCut_lt s _ _)]
  have e : i = ((i.toNat : Nat) : Int) := by omega
  rw [e, HT.sIx_none, HT.sIx_nat, List.drop_zero, Nat.sub_zero, strLen_eq, Nat.min_eq_left (by omega)]
  rfl
theorem sCut_hi {s : OkS} {i : Int} (h0 : 0 ≤ i) (h1 : i ≤ (sCs s).length) : sCs (sCut s (some i) none) = (sCs s).drop i.toNat := by
  unfold sCut
  rw [sCs_mk (sCut_lt s _ _)]
  have e : i = ((i.toNat : Nat) : Int) := by omega
  rw [e, HT.sIx_none, HT.sIx_nat, strLen_eq, Nat.min_eq_left (by omega)]
  exact List.take_of_length_le (by rw [List.length_drop]; exact Nat.le_refl _)
theorem sAt_cs {s : OkS} {i : Int} (h0 : 0 ≤ i) (h1 : i < (sCs s).length) : (atI (sCs s) i).isSome = true ∧ sCs (sAt s i) = [(sCs s).getD i.toNat 0] := by
  have e : i = ((i.toNat : Nat) : Int) := by omega
  have hl : i.toNat < (sCs s).length := by omega
  obtain ⟨n, rfl⟩ : ∃ n : Nat, i = (n : Int) := ⟨i.toNat, e⟩
  rw [Int.toNat_natCast] at hl ⊢
  have a : atI (sCs s) (n : Int) = some ((sCs s)[n]) := by rw [ati_nat hl, List.getElem?_eq_getElem hl]
  refine ⟨by rw [a]; rfl, ?_⟩
  unfold sAt
  rw [a, Option.getD_some, List.getD_eq_getElem?_getD, List.getElem?_eq_getElem hl, Option.getD_some]
  have m : (sCs s)[n] < 0x110000 := sCs_lt s (List.getElem_mem hl)
  generalize (sCs s)[n] = c at m
  show (sOne c).1.cps.toList = [c]
  rw [sOne_v m]
theorem nodup_mapI {α β : Type} {f : α → β} : ∀ {l : List α}, (∀ x ∈ l, ∀ y ∈ l, f x = f y → x = y) → l.Nodup → (l.map f).Nodup
  | [], _, _ => List.nodup_nil
  | x :: l, h, n => by
    obtain ⟨n1, n2⟩ := List.nodup_cons.mp n
    rw [List.map_cons, List.nodup_cons]
    refine ⟨fun z => ?_, nodup_mapI (fun a ha b hb => h a (List.mem_cons_of_mem _ ha) b (List.mem_cons_of_mem _ hb)) n2⟩
    obtain ⟨y, hy, e⟩ := List.mem_map.mp z
    rw [h y (List.mem_cons_of_mem _ hy) x (List.mem_cons_self ..) e] at hy
    exact n1 hy
theorem rngL_nodup {lo hi : Int} : (rngL lo hi).Nodup := by
  unfold rngL
  exact nodup_mapI (fun x _ y _ e => by omega) List.nodup_range
/-! names of folk -/
def fkTails : List OkS := [(⟨"", by decide +kernel⟩ : OkS), (⟨"x", by decide +kernel⟩ : OkS), (⟨"oak", by decide +kernel⟩ : OkS), (⟨"mmmmmmm", by decide +kernel⟩ : OkS), (⟨"ab", by decide +kernel⟩ : OkS), (⟨"hill", by decide +kernel⟩ : OkS)]
theorem tails_ok : ∀ t ∈ fkTails, (sCs t).length ≤ 7 ∧ ∀ c ∈ sCs t, 97 ≤ c ∧ c ≤ 122 := by decide +kernel
theorem step26 {a b : Int} {i j : Int} (hb : b ∈ [(1 : Int), 3, 5, 7, 9, 11]) (hi : 0 ≤ i ∧ i < 26) (hj : 0 ≤ j ∧ j < 26) (e : (a + b * i) % 26 = (a + b * j) % 26) : i = j := by
  simp only [List.mem_cons, List.not_mem_nil, or_false] at hb
  rcases hb with rfl | rfl | rfl | rfl | rfl | rfl <;> omega
def fkName (t : OkS) (at_ : Int) (k : Int) : OkS := sCat (sCat (sCut t none (some at_)) (sAt abc k)) (sCut t (some at_) none)
theorem abc_len : (sCs abc).length = 26 := by decide +kernel
theorem fk_cs {t : OkS} {i k : Int} (h0 : 0 ≤ i) (h1 : i ≤ (sCs t).length) (k0 : 0 ≤ k) (k1 : k < 26) : sCs (fkName t i k) = (sCs t).take i.toNat ++ [97 + k.toNat] ++ (sCs t).drop i.toNat := by
  unfold fkName
  rw [sCs_cat, sCs_cat, sCut_lo h0 h1, sCut_hi h0 h1, (sAt_cs k0 (by rw [abc_len]; omega)).2]
  have : (sCs abc).getD k.toNat 0 = 97 + k.toNat := by
    rw [abc_cs, List.getD_eq_getElem?_getD, List.getElem?_map, List.getElem?_range (by omega)]
    rfl
  rw [this]
theorem fk_nm {t : OkS} {i k : Int} (ht : t ∈ fkTails) (h0 : 0 ≤ i) (h1 : i ≤ (sCs t).length) (k0 : 0 ≤ k) (k1 : k < 26) : Nm (fkName t i k) := by
  obtain ⟨tl, tc⟩ := tails_ok t ht
  unfold Nm
  rw [sLen_eq, fk_cs h0 h1 k0 k1]
  refine ⟨?_, ?_, fun c hc => ?_⟩
  · simp only [List.length_append, List.length_take, List.length_drop, List.length_cons, List.length_nil]; omega
  · simp only [List.length_append, List.length_take, List.length_drop, List.length_cons, List.length_nil]; omega
  · rcases List.mem_append.mp hc with hc | hc
    · rcases List.mem_append.mp hc with hc | hc
      · exact tc c (List.mem_of_mem_take hc)
      · rw [List.mem_singleton.mp hc]; omega
    · exact tc c (List.mem_of_mem_drop hc)
theorem fk_inj {t : OkS} {i k j : Int} (h0 : 0 ≤ i) (h1 : i ≤ (sCs t).length) (k0 : 0 ≤ k) (k1 : k < 26) (j0 : 0 ≤ j) (j1 : j < 26) (e : fkName t i k = fkName t i j) : k = j := by
  have e2 := congrArg sCs e
  rw [fk_cs h0 h1 k0 k1, fk_cs h0 h1 j0 j1] at e2
  have e3 := List.append_inj_left e2 (by simp)
  have e4 := List.append_inj_right e3 rfl
  have : 97 + k.toNat = 97 + j.toNat := by simpa using e4
  omega
theorem cat_len (a b : OkS) : (sCat a b).1.length = a.1.length + b.1.length := by
  rw [strLen_eq, sCs_cat, List.length_append, ← strLen_eq, ← strLen_eq]
theorem c__law_folk (u : Unit) (many : Int) (h : Pre__law_folk many) (K : List OkS → Prop) (q : ∀ r, Post__law_folk many r → K r) : W__law_folk u many K := by
  obtain ⟨m0, m1⟩ := h
  have sz : (1000 : Nat) ≤ sizeLine := by decide
  refine pick_ok (by decide) (by decide) fun r1 a1 b1 => ?_
  obtain ⟨g1, g2⟩ := gi_mem (l := fkTails) a1 b1
  refine ⟨g1, ?_⟩
  show W__law_folk_1 u many (gI fkTails r1) K
  generalize gI fkTails r1 = t at g2
  obtain ⟨tl, tc⟩ := tails_ok t g2
  have tL : t.1.length ≤ sizeLine := by rw [strLen_eq]; omega
  refine ⟨tL, pick_ok (by rw [sLen_eq]; omega) (by rw [sLen_eq]; omega) fun i i0 i1 => pick_ok (by decide) (by decide) fun st s0 s1 => pick_ok (by decide) (by decide) fun r4 a4 b4 => ?_⟩
  rw [sLen_eq] at i1
  have i1 : i ≤ (sCs t).length := by omega
  obtain ⟨g3, g4⟩ := gi_mem (l := [(1 : Int), (3 : Int), (5 : Int), (7 : Int), (9 : Int), (11 : Int)]) a4 b4
  refine ⟨g3, ?_⟩
  show W__law_folk_4 many t i st (gI [(1 : Int), (3 : Int), (5 : Int), (7 : Int), (9 : Int), (11 : Int)] r4) K
  generalize gI [(1 : Int), (3 : Int), (5 : Int), (7 : Int), (9 : Int), (11 : Int)] r4 = b at g4
  have bb : 0 ≤ b ∧ b ≤ 11 := by
    simp only [List.mem_cons, List.not_mem_nil, or_false] at g4
    omega
  refine ⟨by omega, forW_pre (fun pre s => s = pre.map fun k => fkName t i ((st + b * k) % 26)) rfl (fun pre k suf s nx bk el hI hn _ => ?_) (fun s hI => q s ?_)⟩
  · have mk : k ∈ rngL 0 many := by rw [el]; simp
    obtain ⟨k0, k1⟩ := rng_mem.mp mk
    have ell := congrArg List.length el
    rw [rng_len, List.length_append, List.length_cons] at ell
    have z0 : 0 ≤ (st + b * k) % 26 := Int.emod_nonneg _ (by decide)
    have z1 : (st + b * k) % 26 < 26 := Int.emod_lt_of_pos _ (by decide)
    have c1 : (sCut t none (some i)).1.length ≤ 7 := by rw [strLen_eq, sCut_lo i0 i1, List.length_take]; omega
    have c2 : (sCut t (some i) none).1.length ≤ 7 := by rw [strLen_eq, sCut_hi i0 i1, List.length_drop]; omega
    have c3 : (sAt abc ((st + b * k) % 26)).1.length = 1 := by rw [strLen_eq, (sAt_cs z0 (by rw [abc_len]; omega)).2]; rfl
    refine ⟨mulok (by omega) (by omega), by decide, ⟨by rw [strLen_eq]; show (sCs abc).length ≤ _; rw [abc_len]; omega, (sAt_cs (s := abc) z0 (by rw [abc_len]; omega)).1⟩, tL, ?_, tL, ?_, ?_, hn _ ?_⟩
    · show (sCut t none (some i)).1.length + (sAt abc ((st + b * k) % 26)).1.length ≤ _
      omega
    · show (sCat (sCut t none (some i)) (sAt abc ((st + b * k) % 26))).1.length + (sCut t (some i) none).1.length ≤ _
      rw [cat_len]; omega
    · rw [hI, List.length_map]; omega
    · rw [hI, List.map_append]; rfl
  · rw [hI]
    refine ⟨by rw [List.length_map, rng_len]; omega, ?_, fun s hs => ?_⟩
    · refine nodup_mapI (fun x hx y hy e => ?_) rngL_nodup
      obtain ⟨x0, x1⟩ := rng_mem.mp hx
      obtain ⟨y0, y1⟩ := rng_mem.mp hy
      exact step26 g4 (by omega) (by omega) (fk_inj i0 i1 (Int.emod_nonneg _ (by decide)) (Int.emod_lt_of_pos _ (by decide)) (Int.emod_nonneg _ (by decide)) (Int.emod_lt_of_pos _ (by decide)) e)
    · obtain ⟨k, hk, rfl⟩ := List.mem_map.mp hs
      exact fk_nm g2 i0 i1 (Int.emod_nonneg _ (by decide)) (Int.emod_lt_of_pos _ (by decide))

/-- a strict order, total -/
structure Sto {α : Type} (lt : α → α → Bool) : Prop where
  irr : ∀ a, lt a a = false
  tr : ∀ a b c, lt a b = true → lt b c = true → lt a c = true
  tri : ∀ a b, lt a b = false → lt b a = false → a = b
theorem Sto.asy {α : Type} {lt : α → α → Bool} (h : Sto lt) {a b : α} (e : lt a b = true) : lt b a = false := by
  cases q : lt b a with
  | false => rfl
  | true =>
    have := h.tr a b a e q
    rw [h.irr] at this; cases this
theorem stoI : Sto ltI := ⟨fun a => by simp [ltI], fun a b c => by simp only [ltI, decide_eq_true_eq]; omega, fun a b => by simp only [ltI, decide_eq_false_iff_not]; omega⟩
theorem stoS : Sto ltS := ⟨fun a => PyProof.Rows.strKind.irrefl _, fun a b c => PyProof.Rows.strKind.trans _ _ _, fun a b h1 h2 => okS_ext (PyProof.Rows.strKind.total _ _ h1 h2)⟩
section
variable {α β γ : Type} {f : α → α → Bool} {g : β → β → Bool} {h : γ → γ → Bool}
theorem stoT2 (hf : Sto f) (hg : Sto g) : Sto (ltT2 f g) := ⟨fun a => by simp [ltT2, hf.irr, hg.irr], fun a b c e1 e2 => by
  simp only [ltT2, Bool.or_eq_true, Bool.and_eq_true, Bool.not_eq_true'] at *
  rcases e1 with e1 | ⟨e1, e1'⟩
  · rcases e2 with e2 | ⟨e2, e2'⟩
    · exact .inl (hf.tr _ _ _ e1 e2)
    · cases q : f b.1 c.1 with
      | true => exact .inl (hf.tr _ _ _ e1 q)
      | false => exact .inl (by rw [← hf.tri _ _ q e2]; exact e1)
  · rcases e2 with e2 | ⟨e2, e2'⟩
    · cases q : f a.1 b.1 with
      | true => exact .inl (hf.tr _ _ _ q e2)
      | false => exact .inl (by rw [hf.tri _ _ q e1]; exact e2)
    · cases q : f a.1 b.1 with
      | true =>
        cases q2 : f b.1 c.1 with
        | true => exact .inl (hf.tr _ _ _ q q2)
        | false => exact .inl (by rw [← hf.tri _ _ q2 e2]; exact q)
      | false =>
        have e := hf.tri _ _ q e1
        exact .inr ⟨by rw [e]; exact e2, hg.tr _ _ _ e1' e2'⟩, fun a b e1 e2 => by
  simp only [ltT2, Bool.or_eq_false_iff, Bool.and_eq_false_iff, Bool.not_eq_false'] at e1 e2
  have e := hf.tri _ _ e1.1 e2.1
  refine Prod.ext e (hg.tri _ _ ?_ ?_)
  · rcases e1.2 with z | z
    · rw [e2.1] at z; cases z
    · exact z
  · rcases e2.2 with z | z
    · rw [e1.1] at z; cases z
    · exact z⟩
theorem ltT3_eq (x y : α × β × γ) : ltT3 f g h x y = ltT2 f (ltT2 g h) x y := rfl
theorem stoT3 (hf : Sto f) (hg : Sto g) (hh : Sto h) : Sto (ltT3 f g h) := by
  have : ltT3 f g h = ltT2 f (ltT2 g h) := by funext x y; rfl
  rw [this]
  exact stoT2 hf (stoT2 hg hh)
theorem stoL (hf : Sto f) : Sto (ltL f) := by
  refine ⟨fun a => ?_, fun a => ?_, fun a => ?_⟩
  · induction a with
    | nil => rfl
    | cons x a ih => simp [ltL, hf.irr, ih]
  · induction a with
    | nil => intro b c e1 e2; cases b <;> cases c <;> simp_all [ltL]
    | cons x a ih =>
      intro b c e1 e2
      cases b with
      | nil => simp [ltL] at e1
      | cons y b =>
        cases c with
        | nil => simp [ltL] at e2
        | cons z c =>
          have t := (stoT2 hf (⟨fun _ => rfl, fun _ _ _ h _ => h, fun a b _ _ => rfl⟩ : Sto (fun (_ _ : Unit) => false))).tr
          simp only [ltL, Bool.or_eq_true, Bool.and_eq_true, Bool.not_eq_true'] at *
          rcases e1 with e1 | ⟨e1, e1'⟩
          · rcases e2 with e2 | ⟨e2, e2'⟩
            · exact .inl (hf.tr _ _ _ e1 e2)
            · cases q : f y z with
              | true => exact .inl (hf.tr _ _ _ e1 q)
              | false => exact .inl (by rw [← hf.tri _ _ q e2]; exact e1)
          · rcases e2 with e2 | ⟨e2, e2'⟩
            · cases q : f x y with
              | true => exact .inl (hf.tr _ _ _ q e2)
              | false => exact .inl (by rw [hf.tri _ _ q e1]; exact e2)
            · cases q : f x y with
              | true =>
                cases q2 : f y z with
                | true => exact .inl (hf.tr _ _ _ q q2)
                | false => exact .inl (by rw [← hf.tri _ _ q2 e2]; exact q)
              | false =>
                have e := hf.tri _ _ q e1
                exact .inr ⟨by rw [e]; exact e2, ih _ _ e1' e2'⟩
  · induction a with
    | nil => intro b e1 e2; cases b <;> simp_all [ltL]
    | cons x a ih =>
      intro b e1 e2
      cases b with
      | nil => simp [ltL] at e2
      | cons y b =>
        simp only [ltL, Bool.or_eq_false_iff, Bool.and_eq_false_iff, Bool.not_eq_false'] at e1 e2
        have e := hf.tri _ _ e1.1 e2.1
        rw [e, ih b (e1.2.elim (fun z => by rw [e2.1] at z; cases z) id) (e2.2.elim (fun z => by rw [e1.1] at z; cases z) id)]
theorem leOf_tr (hf : Sto f) : ∀ a b c, leOf f a b = true → leOf f b c = true → leOf f a c = true := fun a b c e1 e2 => by
  simp only [leOf, Bool.not_eq_true'] at *
  cases q : f c a with
  | false => rfl
  | true =>
    cases q2 : f a b with
    | true => rw [hf.tr _ _ _ q q2] at e2; cases e2
    | false => rw [hf.tri _ _ q2 e1] at q; rw [q] at e2; cases e2
theorem leOf_tot (hf : Sto f) : ∀ a b, (leOf f a b || leOf f b a) = true := fun a b => by
  simp only [leOf, Bool.or_eq_true, Bool.not_eq_true']
  cases q : f b a with
  | false => exact .inl rfl
  | true => exact .inr (hf.asy q)
theorem leOf_anti (hf : Sto f) {a b : α} (e1 : leOf f a b = true) (e2 : leOf f b a = true) : a = b := by
  simp only [leOf, Bool.not_eq_true'] at *
  exact hf.tri _ _ e2 e1
/-- by keys -/
theorem key_tr {key : β → α} (hf : Sto f) : ∀ a b c : β, leOf f (key a) (key b) = true → leOf f (key b) (key c) = true → leOf f (key a) (key c) = true := fun _ _ _ => leOf_tr hf _ _ _
theorem key_tot {key : β → α} (hf : Sto f) : ∀ a b : β, (leOf f (key a) (key b) || leOf f (key b) (key a)) = true := fun _ _ => leOf_tot hf _ _
/-- sorted by keys of which no two are alike: the one such arrangement -/
theorem sortK_uniq {key : β → α} (hf : Sto f) {l m : List β} (inj : ∀ x ∈ l, ∀ y ∈ l, key x = key y → x = y) (p : m.Perm l) (s : m.Pairwise fun a b => leOf f (key a) (key b) = true) : l.mergeSort (fun a b => leOf f (key a) (key b)) = m := by
  refine List.Perm.eq_of_pairwise (le := fun a b => leOf f (key a) (key b) = true) (fun a b ha hb e1 e2 => ?_) (List.pairwise_mergeSort (key_tr hf) (key_tot hf) l) s ((List.mergeSort_perm _ _).trans p.symm)
  exact inj a ((List.mergeSort_perm _ _).mem_iff.mp ha) b (p.mem_iff.mp hb) (leOf_anti hf e1 e2)
theorem sort_uniq (hf : Sto f) {l m : List α} (p : m.Perm l) (s : m.Pairwise fun a b => leOf f a b = true) : l.mergeSort (leOf f) = m :=
  sortK_uniq (key := fun x => x) hf (fun _ _ _ _ e => e) p s
theorem sort_pw (hf : Sto f) (l : List α) : (l.mergeSort (leOf f)).Pairwise fun a b => leOf f a b = true := List.pairwise_mergeSort (leOf_tr hf) (leOf_tot hf) l
theorem sortK_pw {key : β → α} (hf : Sto f) (l : List β) : (l.mergeSort fun a b => leOf f (key a) (key b)).Pairwise fun a b => leOf f (key a) (key b) = true := List.pairwise_mergeSort (key_tr hf) (key_tot hf) l
end

theorem erase_get_perm {α : Type} [Inhabited α] {l : List α} {j : Int} (h0 : 0 ≤ j) (h1 : j < l.length) : (gI l j :: l.eraseIdx j.toNat).Perm l := by
  have hj : j.toNat < l.length := by omega
  have e : gI l j = l[j.toNat] := by
    have := gi_nat (l := l) hj
    rwa [show ((j.toNat : Nat) : Int) = j by omega] at this
  rw [e, List.eraseIdx_eq_take_drop_succ]
  have h2 : l = l.take j.toNat ++ l[j.toNat] :: l.drop (j.toNat + 1) := by
    rw [List.getElem_cons_drop, List.take_append_drop]
  exact List.perm_middle.symm.trans (by rw [← h2])
theorem c__law_shuffled (u : Unit) (w : List XD) (h : Pre__law_shuffled w) (K : List XD → Prop) (q : ∀ r, Post__law_shuffled w r → K r) : W__law_shuffled u w K := by
  have h : w.length < 1000 := h
  refine ⟨by omega, forW_pre (fun pre s => (s.2 ++ s.1).Perm w ∧ s.2.length = pre.length) ⟨List.Perm.refl _, rfl⟩ (fun pre x suf s nx bk el hI hn _ => ?_) (fun s hI => q _ ?_)⟩
  · obtain ⟨left, found⟩ := s
    obtain ⟨i1, i2⟩ := hI
    simp only at i1 i2
    have el := congrArg List.length el
    have ln := i1.length_eq
    rw [List.length_append] at ln
    rw [rng_len, List.length_append, List.length_cons] at el
    refine pick_ok (by simp only; omega) (by simp only; omega) fun r l u => ⟨⟨l, u, by simp only; omega, by simp only; omega⟩, hn _ ⟨?_, ?_⟩⟩
    · simp only at u ⊢
      rw [List.append_assoc]
      exact ((erase_get_perm l u).append_left found).trans i1
    · simp only [List.length_append, List.length_cons, List.length_nil]
      omega
  · obtain ⟨left, found⟩ := s
    obtain ⟨i1, i2⟩ := hI
    simp only at i1 i2 ⊢
    have ln := i1.length_eq
    rw [List.length_append] at ln
    rw [rng_len] at i2
    have : left = [] := List.eq_nil_of_length_eq_zero (by omega)
    rw [this, List.append_nil] at i1
    exact i1

theorem nm_short {s : OkS} (h : Nm s) : s.1.length ≤ 100000 := by
  have := h.2.1
  rw [sLen_eq] at this
  rw [strLen_eq]; omega
theorem c_need_symbols (w : List Mk) (h : Pre_need_symbols w) (K : Unit → Prop) (q : K (m_need_symbols w)) : W_need_symbols w K := by
  obtain ⟨h1, h2, h3⟩ := h
  have nm : ∀ x ∈ w.map (fun (x1 : Mk) => x1.1), Nm x := fun x hx => by
    obtain ⟨p, hp, rfl⟩ := List.mem_map.mp hx
    exact h3 p hp
  have e3 : ((w.map (fun (x1 : Mk) => x1.1)).all fun x2 => m_is_name x2) = true := List.all_eq_true.mpr fun x hx => decide_eq_true (nm x hx)
  refine ⟨by omega, fun _ => ⟨by rw [List.length_map]; omega, fun _ => ⟨by rw [List.length_map]; omega, fun x hx => nm_short (nm x hx)⟩⟩, fun e => ?_, fun _ => q⟩
  rw [e3] at e
  simp only [Bool.or_eq_true, decide_eq_true_eq, Bool.not_true] at e
  rw [met_self h2, List.length_map] at e
  rcases e with e | e
  · omega
  · rcases e with e | e
    · omega
    · cases e
theorem c_need_size (s : Int) (h : Pre_need_size s) (K : Unit → Prop) (q : K (m_need_size s)) : W_need_size s K := by
  obtain ⟨h1, h2⟩ := h
  refine ⟨fun e => ?_, fun _ => q⟩
  simp only [Bool.and_eq_false_iff, decide_eq_false_iff_not] at e
  omega
theorem c_ordered (w : List Mk) (h : Pre_ordered w) (K : List Mk → Prop) (q : K (m_ordered w)) : W_ordered w K := q
theorem ordered_perm (w : List Mk) : (m_ordered w).Perm w := List.mergeSort_perm _ _
theorem ordered_len (w : List Mk) : (m_ordered w).length = w.length := (ordered_perm w).length_eq
theorem c_room_for (a b : Mk) (s : Int) (h : Pre_room_for a b s) (K : Int → Prop) (q : K (m_room_for a b s)) : W_room_for a b s K := by
  unfold m_room_for at q
  exact ⟨fun e => by rw [if_pos e] at q; exact q, fun e => by rw [if_neg e] at q; exact q⟩
/-! the greatest -/
theorem fold_max_ge : ∀ (l : List Int) (a : Int), a ≤ l.foldl max a ∧ ∀ y ∈ l, y ≤ l.foldl max a
  | [], a => ⟨Int.le_refl _, fun _ z => nomatch z⟩
  | x :: l, a => by
    obtain ⟨h1, h2⟩ := fold_max_ge l (max a x)
    rw [List.foldl_cons]
    refine ⟨by omega, fun y hy => ?_⟩
    rcases List.mem_cons.mp hy with z | z
    · rw [z]; omega
    · exact h2 y z
theorem fold_max_le : ∀ (l : List Int) (a m : Int), a ≤ m → (∀ y ∈ l, y ≤ m) → l.foldl max a ≤ m
  | [], a, m, h, _ => h
  | x :: l, a, m, h, hl => by
    rw [List.foldl_cons]
    have := hl x (List.mem_cons_self ..)
    exact fold_max_le l _ m (by omega) fun y hy => hl y (List.mem_cons_of_mem _ hy)
theorem fold_max0 {l : List Int} (h : l ≠ []) : l.foldl max 0 = max 0 (maxL l) := by
  obtain ⟨h1, h2⟩ := maxL_spec h
  obtain ⟨g1, g2⟩ := fold_max_ge l 0
  have := g2 _ h1
  have := fold_max_le l 0 (max 0 (maxL l)) (by omega) fun y hy => by have := h2 y hy; omega
  omega
theorem best_mem {l : List (List OkS)} (h : l ≠ []) : bestS l ∈ l := by
  cases l with
  | nil => exact absurd rfl h
  | cons x r =>
    show r.foldl _ x ∈ _
    clear h
    induction r generalizing x with
    | nil => exact List.mem_cons_self ..
    | cons y r ih =>
      rw [List.foldl_cons]
      by_cases e : ltNm y x = true
      · rw [if_pos e]
        exact List.mem_cons_of_mem _ (ih y)
      · rw [if_neg e]
        rcases List.mem_cons.mp (ih x) with z | z
        · rw [z]; exact List.mem_cons_self ..
        · exact List.mem_cons_of_mem _ (List.mem_cons_of_mem _ z)
theorem good_ne {l : List Cand} (h : l ≠ []) : (l.filter fun c => decide (c.1 = maxL (l.map (·.1)))).map (·.2) ≠ [] := by
  have hm : l.map (·.1) ≠ [] := fun z => h (List.map_eq_nil_iff.mp z)
  obtain ⟨c, hc, e⟩ := List.mem_map.mp (maxL_spec hm).1
  intro z
  have : c ∈ l.filter fun c => decide (c.1 = maxL (l.map (·.1))) := List.mem_filter.mpr ⟨hc, decide_eq_true e⟩
  rw [List.map_eq_nil_iff.mp z] at this
  cases this
theorem c_greatest_of (l : List Cand) (h : Pre_greatest_of l) (K : List Cand → Prop) (q : K (m_greatest_of l)) : W_greatest_of l K := by
  have h : l.length ≤ 1000 := h
  unfold m_greatest_of at q
  refine ⟨fun e => by rw [if_pos e] at q; exact q, fun e => ?_⟩
  rw [if_neg e] at q
  exact ⟨by omega, fun z => e (List.map_eq_nil_iff.mp z), by omega, good_ne e, q⟩
theorem great_len (l : List Cand) : (m_greatest_of l).length ≤ 1 := by
  unfold m_greatest_of
  split <;> simp
theorem great_names {l : List Cand} {n : Nat} (h : ∀ c ∈ l, c.2.length ≤ n) : ∀ c ∈ m_greatest_of l, c.2.length ≤ n := by
  intro c hc
  unfold m_greatest_of at hc
  split at hc
  · cases hc
  · rename_i e
    rw [List.mem_singleton.mp hc]
    obtain ⟨d, hd, ed⟩ := List.mem_map.mp (best_mem (good_ne e))
    show (bestS _).length ≤ n
    rw [← ed]
    exact h d (List.mem_filter.mp hd).1
/-- what is wanted, no less than nought -/
def need0 (l : List Cand) : Int := match l with
  | [] => 0
  | c :: _ => max 0 c.1
theorem need_great (l : List Cand) : need0 (m_greatest_of l) = (l.map (·.1)).foldl max 0 := by
  unfold m_greatest_of
  by_cases e : l = []
  · rw [if_pos e, e]; rfl
  · rw [if_neg e, fold_max0 (fun z => e (List.map_eq_nil_iff.mp z))]; rfl
theorem need_flat : ∀ (ls : List (List Cand)) (a : Int), (∀ l ∈ ls, l.length ≤ 1) → 0 ≤ a → (ls.flatten.map (·.1)).foldl max a = (ls.map need0).foldl max a
  | [], _, _, _ => rfl
  | l :: ls, a, h, h0 => by
    rw [List.flatten_cons, List.map_append, List.foldl_append, List.map_cons, List.foldl_cons]
    have hl := h l (List.mem_cons_self ..)
    have ih := fun a h0 => need_flat ls a (fun x hx => h x (List.mem_cons_of_mem _ hx)) h0
    match l, hl with
    | [], _ =>
      have : max a (need0 []) = a := by show max a 0 = a; omega
      rw [this]; exact ih a h0
    | [c], _ =>
      have e1 : max a (need0 [c]) = max a c.1 := by show max a (max 0 c.1) = _; omega
      have e2 : List.foldl max a (List.map (fun x => x.1) [c]) = max a c.1 := rfl
      rw [e1, e2]; exact ih _ (by omega)
    | _ :: _ :: _, hl => simp at hl
/-! the chains' loops -/
theorem enum_split {α : Type} {l : List α} {pre suf : List (Int × α)} {x : Int × α} (h : enumL l = pre ++ x :: suf) : x.1 = (pre.length : Nat) ∧ l = pre.map (·.2) ++ x.2 :: suf.map (·.2) := by
  have e1 : (enumL l)[pre.length]? = some x := by rw [h]; simp
  have e2 : (enumL l).map (·.2) = l := by
    unfold enumL
    refine List.ext_getElem? fun i => ?_
    rw [List.getElem?_map, List.getElem?_mapIdx]
    cases l[i]? <;> rfl
  refine ⟨?_, by rw [← e2, h]; simp⟩
  unfold enumL at e1
  rw [List.getElem?_mapIdx] at e1
  cases e : l[pre.length]? with
  | none => rw [e] at e1; cases e1
  | some y =>
    rw [e] at e1
    injection e1 with e1
    rw [← e1]
theorem cut_to0 {α : Type} {l : List α} {i : Nat} (h : i ≤ l.length) : cutL l none (some (i : Int)) = l.take i := by
  unfold cutL
  have e : HT.sIx l.length l.length (some (i : Int)) = i := by
    unfold HT.sIx
    simp only [Int.toNat_natCast]
    rw [if_neg (by omega), Nat.min_eq_left h]
  rw [e]
  show (l.drop 0).take (i - 0) = _
  simp
theorem nth_gi {α : Type} [Inhabited α] {l : List α} {i : Nat} {x : α} (h : l[i]? = some x) : (atI l (i : Int)).isSome = true ∧ gI l (i : Int) = x := by
  obtain ⟨h1, h2⟩ := List.getElem?_eq_some_iff.mp h
  exact ⟨(gi_mem (by omega) (by omega)).1, (gi_nat h1).trans h2⟩
/-- how the chains stand -/
def ChOk (of : List (Mk × List Cand)) : Prop := ∀ q ∈ of, q.2.length ≤ 1 ∧ ∀ c ∈ q.2, c.2.length ≤ of.length
theorem cands_app (s : Int) (p : Mk) (a b : List (Mk × List Cand)) : cands s p (a ++ b) = cands s p a ++ cands s p b := List.flatMap_append
theorem cands_len (s : Int) (p : Mk) : ∀ {of : List (Mk × List Cand)}, (∀ q ∈ of, q.2.length ≤ 1) → (cands s p of).length ≤ 2 * of.length
  | [], _ => Nat.le_refl _
  | q :: of, h => by
    have a := h q (List.mem_cons_self ..)
    have b := cands_len s p (of := of) fun x hx => h x (List.mem_cons_of_mem _ hx)
    unfold cands at b ⊢
    rw [List.flatMap_cons, List.length_append, List.length_cons, List.length_cons, List.length_map]
    omega
theorem cands_names {s : Int} {p : Mk} {of : List (Mk × List Cand)} (h : ChOk of) : ∀ c ∈ cands s p of, c.2.length ≤ of.length + 1 := by
  intro c hc
  obtain ⟨q, hq, hc⟩ := List.mem_flatMap.mp hc
  have hn : 0 < of.length := List.length_pos_of_mem hq
  rcases List.mem_cons.mp hc with z | z
  · rw [z]
    show 2 ≤ _
    omega
  · obtain ⟨d, hd, rfl⟩ := List.mem_map.mp z
    have := (h q hq).2 d hd
    show (d.2 ++ [p.1]).length ≤ _
    rw [List.length_append, List.length_singleton]
    omega
theorem chGo_ok {s : Int} {of : List (Mk × List Cand)} {p : Mk} (h : ChOk of) : ChOk (chGo s of p) := by
  intro q hq
  have el : (chGo s of p).length = of.length + 1 := by simp [chGo]
  rw [el]
  rcases List.mem_append.mp hq with z | z
  · exact ⟨(h q z).1, fun c hc => Nat.le_succ_of_le ((h q z).2 c hc)⟩
  · rw [List.mem_singleton.mp z]
    exact ⟨great_len _, great_names (cands_names h)⟩
theorem chAll_ok {s : Int} : ∀ (row : List Mk) {of : List (Mk × List Cand)}, ChOk of → ChOk (row.foldl (chGo s) of) ∧ (row.foldl (chGo s) of).map (·.1) = of.map (·.1) ++ row
  | [], of, h => ⟨h, by simp⟩
  | p :: row, of, h => by
    obtain ⟨a, b⟩ := chAll_ok (s := s) row (chGo_ok (s := s) (p := p) h)
    rw [List.foldl_cons]
    exact ⟨a, by rw [b]; simp [chGo]⟩
theorem ch0 : ChOk [] := fun _ z => nomatch z
theorem c_chains_to (row : List Mk) (s : Int) (h : Pre_chains_to row s) (K : List (List Cand) → Prop) (q : K (m_chains_to row s)) : W_chains_to row s K := by
  have h : row.length ≤ 8 := h
  refine forW_pre (fun pre (f : List (List Cand)) => f = ((pre.map (·.2)).foldl (chGo s) []).map (·.2)) rfl (fun pre x suf f nx bk el hI hn _ => ?_) (fun f hI => ?_)
  · obtain ⟨ex, er⟩ := enum_split el
    obtain ⟨cok, cfst⟩ := chAll_ok (s := s) (pre.map (·.2)) ch0
    rw [List.map_nil, List.nil_append] at cfst
    generalize ho : (pre.map (·.2)).foldl (chGo s) [] = of at hI cok cfst
    have ol : of.length = pre.length := by
      have := congrArg List.length cfst
      simpa using this
    have pl : pre.length ≤ 8 := by
      have := congrArg List.length er
      simp only [List.length_append, List.length_map, List.length_cons] at this
      omega
    have ecut : cutL row none (some x.1) = of.map (·.1) := by
      rw [ex, cut_to0 (by rw [er]; simp), cfst]
      conv => lhs; rw [er]
      rw [List.take_append_of_le_length (by rw [List.length_map]; exact Nat.le_refl _)]
      exact List.take_of_length_le (by rw [List.length_map]; exact Nat.le_refl _)
    show forW _ _ (enumL (cutL row none (some x.1))) ([] : List Cand)
    rw [ecut]
    refine forW_pre (fun pre2 (b : List Cand) => b = cands s x.2 (of.take pre2.length)) rfl (fun pre2 y suf2 b nx2 bk2 el2 hI2 hn2 _ => ?_) (fun b hI2 => ?_)
    · obtain ⟨ey, er2⟩ := enum_split el2
      have p2 : pre2.length < of.length := by
        have := congrArg List.length er2
        simp only [List.length_append, List.length_map, List.length_cons] at this
        omega
      have eq : of[pre2.length]? = some of[pre2.length] := List.getElem?_eq_getElem p2
      generalize of[pre2.length] = z at eq
      have ez : z.1 = y.2 := by
        have : (of.map (·.1))[pre2.length]? = some y.2 := by rw [er2]; simp
        rw [List.getElem?_map, eq] at this
        injection this
      have ef : f[pre2.length]? = some z.2 := by rw [hI, List.getElem?_map, eq]; rfl
      obtain ⟨g1, g2⟩ := nth_gi ef
      have hz := cok z (List.mem_of_getElem? eq)
      have tk : of.take (pre2.length + 1) = of.take pre2.length ++ [z] := by rw [List.take_add_one, eq]; rfl
      have bl : b.length ≤ 2 * pre2.length := by
        rw [hI2]
        have := cands_len s x.2 (of := of.take pre2.length) fun q hq => (cok q (List.mem_of_mem_take hq)).1
        rw [List.length_take] at this
        omega
      refine ⟨trivial, by omega, ?_⟩
      rw [ey]
      refine ⟨g1, ?_⟩
      rw [g2]
      refine ⟨by omega, fun c hc => ?_, ?_, hn2 _ ?_⟩
      · have := hz.2 c hc
        have l5 : sizeLine = 16777216 := sizeLine_eq
        simp only [List.length_singleton]
        omega
      · rw [List.length_append, List.length_singleton, List.length_map]
        omega
      · rw [List.length_append, List.length_singleton, tk, cands_app, ← hI2, List.append_assoc]
        congr 1
        show _ = [z].flatMap _
        rw [← ez]
        simp [cst]
    · have el3 : (enumL (of.map (·.1))).length = of.length := by unfold enumL; simp
      rw [el3, List.take_length] at hI2
      have bl := cands_len s x.2 (of := of) fun q hq => (cok q hq).1
      refine ⟨?_, ?_, hn _ ?_⟩
      · show b.length ≤ 1000
        rw [hI2]; omega
      · rw [hI, List.length_map]; omega
      · rw [hI, hI2, List.map_append, List.foldl_append, ho]
        simp [chGo]
  · have : (enumL row).map (·.2) = row := by
      unfold enumL
      refine List.ext_getElem? fun i => ?_
      rw [List.getElem?_map, List.getElem?_mapIdx]
      cases row[i]? <;> rfl
    rw [hI, this]; exact q

/-! how far each one must go to the right -/
def potAt (s : Int) (f : List (Mk × Int)) (p : Mk) : Int := f.foldl (fun a q => max a (q.2 + cst s q.1 p)) 0
def stepP (s : Int) (f : List (Mk × Int)) (p : Mk) : List (Mk × Int) := f ++ [(p, potAt s f p)]
def pots (s : Int) (row : List Mk) : List (Mk × Int) := row.foldl (stepP s) []
def pt0 (q : Mk × List Cand) : Mk × Int := (q.1, need0 q.2)
theorem need_cands (s : Int) (p : Mk) : ∀ (of : List (Mk × List Cand)) (a : Int), (∀ q ∈ of, q.2.length ≤ 1) → ((cands s p of).map (·.1)).foldl max a = (of.map pt0).foldl (fun a q => max a (q.2 + cst s q.1 p)) a
  | [], _, _ => rfl
  | q :: of, a, h => by
    have hl := h q (List.mem_cons_self ..)
    have ih := fun a => need_cands s p of a fun x hx => h x (List.mem_cons_of_mem _ hx)
    have e : cands s p (q :: of) = ((cst s q.1 p, [q.1.1, p.1]) :: q.2.map fun c => (c.1 + cst s q.1 p, c.2 ++ [p.1])) ++ cands s p of := rfl
    have l1 : ((cands s p (q :: of)).map (·.1)).foldl max a = (of.map pt0).foldl (fun a q => max a (q.2 + cst s q.1 p)) ((((cst s q.1 p, [q.1.1, p.1]) :: q.2.map fun c => (c.1 + cst s q.1 p, c.2 ++ [p.1])).map (·.1)).foldl max a) := by
      rw [e, List.map_append, List.foldl_append, ih]
    rw [l1]
    show _ = (of.map pt0).foldl _ (max a ((pt0 q).2 + cst s (pt0 q).1 p))
    congr 1
    obtain ⟨m, l⟩ := q
    match l, hl with
    | [], _ =>
      show max a (cst s m p) = max a (0 + cst s m p)
      omega
    | [c], _ =>
      show max (max a (cst s m p)) (c.1 + cst s m p) = max a (max 0 c.1 + cst s m p)
      omega
    | _ :: _ :: _, hl => simp at hl
theorem ch_pots (s : Int) : ∀ (row : List Mk) (of : List (Mk × List Cand)), ChOk of → (row.foldl (chGo s) of).map pt0 = row.foldl (stepP s) (of.map pt0)
  | [], _, _ => rfl
  | p :: row, of, h => by
    rw [List.foldl_cons, List.foldl_cons, ch_pots s row _ (chGo_ok h)]
    congr 1
    show (of ++ [(p, m_greatest_of (cands s p of))]).map pt0 = of.map pt0 ++ [(p, potAt s (of.map pt0) p)]
    rw [List.map_append]
    congr 1
    show [(p, need0 (m_greatest_of (cands s p of)))] = _
    rw [need_great, need_cands s p of 0 fun q hq => (h q hq).1]; rfl
/-- the greatest of them -/
def potMax (s : Int) (row : List Mk) : Int := ((pots s row).map (·.2)).foldl max 0
theorem pots_ch (s : Int) (row : List Mk) : pots s row = (row.foldl (chGo s) []).map pt0 := (ch_pots s row [] ch0).symm
theorem potMax_great (s : Int) (row : List Mk) : need0 (m_greatest_of (m_chains_to row s).flatten) = potMax s row := by
  obtain ⟨ok, _⟩ := chAll_ok (s := s) row ch0
  rw [need_great]
  unfold m_chains_to
  rw [need_flat _ 0 (fun l hl => by
    obtain ⟨q, hq, rfl⟩ := List.mem_map.mp hl
    exact (ok q hq).1) (Int.le_refl _)]
  unfold potMax
  rw [pots_ch, List.map_map, List.map_map]; rfl
theorem potMax_nn (s : Int) (row : List Mk) : 0 ≤ potMax s row := (fold_max_ge _ 0).1
theorem least_pot (w : List Mk) (s : Int) : m_least_of w s = (potMax s (m_ordered w) + 1) / 2 := by
  rw [← potMax_great]
  unfold m_least_of m_worst_chain
  cases e : m_greatest_of (m_chains_to (m_ordered w) s).flatten with
  | nil => rfl
  | cons c r =>
    show (match (if c.1 ≤ 0 then none else some c : Option Cand) with
      | none => 0
      | some c => (c.1 + 1) / 2) = (max 0 c.1 + 1) / 2
    by_cases h : c.1 ≤ 0
    · rw [if_pos h]
      show (0 : Int) = _
      omega
    · rw [if_neg h]
      show (c.1 + 1) / 2 = _
      omega
theorem flat_id {α : Type} : ∀ l : List (List α), l.flatMap (fun x => x) = l.flatten
  | [] => rfl
  | x :: l => by rw [List.flatMap_cons, List.flatten_cons, flat_id l]
theorem flat_id2 {α : Type} : ∀ l : List (List α), l.flatMap (fun x => x.map fun y => y) = l.flatten
  | [] => rfl
  | x :: l => by rw [List.flatMap_cons, List.flatten_cons, flat_id2 l, List.map_id']
theorem flat_short : ∀ {ls : List (List Cand)}, (∀ l ∈ ls, l.length ≤ 1) → ls.flatten.length ≤ ls.length
  | [], _ => Nat.le_refl _
  | l :: ls, h => by
    have a := h l (List.mem_cons_self ..)
    have b := flat_short (ls := ls) fun x hx => h x (List.mem_cons_of_mem _ hx)
    rw [List.flatten_cons, List.length_append, List.length_cons]; omega
theorem chains_len (row : List Mk) (s : Int) : (m_chains_to row s).length = row.length := by
  obtain ⟨_, e⟩ := chAll_ok (s := s) row ch0
  have := congrArg List.length e
  unfold m_chains_to
  simpa using this
theorem chains_short (row : List Mk) (s : Int) : ∀ l ∈ m_chains_to row s, l.length ≤ 1 := fun l hl => by
  obtain ⟨ok, _⟩ := chAll_ok (s := s) row ch0
  unfold m_chains_to at hl
  obtain ⟨q, hq, rfl⟩ := List.mem_map.mp hl
  exact (ok q hq).1
theorem c_worst_chain (w : List Mk) (s : Int) (h : Pre_worst_chain w s) (K : Option Cand → Prop) (q : K (m_worst_chain w s)) : W_worst_chain w s K := by
  have h : w.length ≤ 8 := h
  have hl := flat_short (chains_short (m_ordered w) s)
  rw [chains_len, ordered_len] at hl
  refine ⟨trivial, by show (m_ordered w).length ≤ 8; rw [ordered_len]; exact h, ?_, ?_, ?_⟩
  · first
      | (rw [flat_id]; omega)
      | (rw [flat_id2]; omega)

  · show (List.flatMap _ _).length ≤ 1000
    rw [flat_id2]; omega
  · rw [flat_id2]
    unfold m_worst_chain at q
    generalize m_greatest_of (m_chains_to (m_ordered w) s).flatten = g at q
    cases g with
    | nil =>
      refine ⟨fun e => ?_, fun _ => q, fun e => ?_⟩
      · cases e
      · cases e
    | cons c r =>
      have e0 : decide (c :: r = ([] : List Cand)) = false := decide_eq_false (fun z => nomatch z)
      have g0 : gI (c :: r) (0 : Int) = c := (nth_gi (l := c :: r) (i := 0) (x := c) rfl).2
      have a0 : (atI (c :: r) (0 : Int)).isSome = true := (nth_gi (l := c :: r) (i := 0) (x := c) rfl).1
      refine ⟨fun _ => a0, fun e => ?_, fun e => ⟨a0, ?_⟩⟩
      · rw [e0, Bool.false_or, decide_eq_true_eq] at e
        rw [g0] at e
        have q' : K (if c.1 ≤ 0 then none else some c) := q
        rw [if_pos e] at q'; exact q'
      · rw [e0, Bool.false_or, decide_eq_false_iff_not] at e
        rw [g0] at e
        have q' : K (if c.1 ≤ 0 then none else some c) := q
        rw [if_neg e] at q'
        rw [g0]; exact q'
theorem c_least_of (w : List Mk) (s : Int) (h : Pre_least_of w s) (K : Int → Prop) (q : K (m_least_of w s)) : W_least_of w s K := by
  refine ⟨h, ?_⟩
  unfold m_least_of at q
  cases e : m_worst_chain w s with
  | none =>
    rw [e] at q
    exact ⟨fun _ => q, fun z => nomatch z⟩
  | some c =>
    rw [e] at q
    exact ⟨fun z => (nomatch z), fun _ => ⟨rfl, by unfold DivOk; decide, q⟩⟩
theorem c_least_move (w : List Mk) (s : Int) (h : Pre_least_move w s) (K : Int → Prop) (q : K (m_least_move w s)) : W_least_move w s K := by
  obtain ⟨h1, h2, h3⟩ := h
  exact ⟨h1, ⟨h2, h3⟩, h1.1, q⟩
/-! the leftmost places -/
/-- moved -/
def mv (b : Int) (q : Mk × Int) : Mk := (q.1.1, q.1.2.1 - b + q.2, q.1.2.2)
theorem low_pot (s b : Int) (p : Mk) : ∀ (f : List (Mk × Int)) (a : Int), lowAt s (f.map (mv b)) p (p.2.1 - b + a) = p.2.1 - b + f.foldl (fun a q => max a (q.2 + cst s q.1 p)) a
  | [], _ => rfl
  | q :: f, a => by
    have e : mxI (p.2.1 - b + a) ((mv b q).2.1 + m_room_for (mv b q) p s) = p.2.1 - b + max a (q.2 + cst s q.1 p) := by
      have r : m_room_for (mv b q) p s = m_room_for q.1 p s := rfl
      rw [r]
      show mxI _ (q.1.2.1 - b + q.2 + m_room_for q.1 p s) = _
      unfold mxI cst
      split <;> omega
    show lowAt s (f.map (mv b)) p (mxI _ _) = _
    rw [e, low_pot s b p f]; rfl
theorem low_at (s b : Int) (f : List (Mk × Int)) (p : Mk) : lowAt s (f.map (mv b)) p (p.2.1 - b) = p.2.1 - b + potAt s f p := by
  have := low_pot s b p f 0
  rw [Int.add_zero] at this
  exact this
theorem ap_step (s b : Int) (f : List (Mk × Int)) (p : Mk) : apStep s b (f.map (mv b)) p = (stepP s f p).map (mv b) := by
  unfold apStep stepP
  rw [low_at, List.map_append]; rfl
theorem ap_all (s b : Int) : ∀ (row : List Mk) (f : List (Mk × Int)), row.foldl (apStep s b) (f.map (mv b)) = (row.foldl (stepP s) f).map (mv b)
  | [], _ => rfl
  | p :: row, f => by rw [List.foldl_cons, List.foldl_cons, ap_step, ap_all s b row]
theorem step_sub (s : Int) : ∀ (row : List Mk) (f : List (Mk × Int)), ∀ q ∈ f, q ∈ row.foldl (stepP s) f
  | [], _, _, h => h
  | p :: row, f, q, h => step_sub s row _ q (List.mem_append_left _ h)
theorem lm_some (s b : Int) : ∀ (row : List Mk) (f : List (Mk × Int)), (∀ q ∈ row.foldl (stepP s) f, q.2 ≤ 2 * b) → lmGo s b row (f.map (mv b)) = some ((row.foldl (stepP s) f).map (mv b))
  | [], _, _ => rfl
  | p :: row, f, h => by
    have hp : potAt s f p ≤ 2 * b := h (p, potAt s f p) (step_sub s row _ _ (by simp [stepP]))
    show (if lowAt s (f.map (mv b)) p (p.2.1 - b) > p.2.1 + b then none else lmGo s b row (apStep s b (f.map (mv b)) p)) = _
    rw [low_at, if_neg (by omega), ap_step]
    exact lm_some s b row _ h
theorem lm_none (s b : Int) : ∀ (row : List Mk) (f : List (Mk × Int)) (q : Mk × Int), q ∈ row.foldl (stepP s) f → q ∉ f → 2 * b < q.2 → lmGo s b row (f.map (mv b)) = none
  | [], _, _, h, n, _ => absurd h n
  | p :: row, f, q, h, n, hb => by
    show (if lowAt s (f.map (mv b)) p (p.2.1 - b) > p.2.1 + b then none else lmGo s b row (apStep s b (f.map (mv b)) p)) = none
    rw [low_at, ap_step]
    by_cases e : p.2.1 - b + potAt s f p > p.2.1 + b
    · rw [if_pos e]
    · rw [if_neg e]
      refine lm_none s b row _ q h (fun z => ?_) hb
      rcases List.mem_append.mp z with z | z
      · exact n z
      · rw [List.mem_singleton.mp z] at hb
        have hb : 2 * b < potAt s f p := hb
        omega
theorem lm_eq (w : List Mk) (s b : Int) (hb : 0 ≤ b) : m__law_left_most w s b = if potMax s (m_ordered w) ≤ 2 * b then some ((pots s (m_ordered w)).map (mv b)) else none := by
  obtain ⟨g1, g2⟩ := fold_max_ge ((pots s (m_ordered w)).map (·.2)) 0
  by_cases h : potMax s (m_ordered w) ≤ 2 * b
  · rw [if_pos h]
    refine lm_some s b (m_ordered w) [] fun q hq => ?_
    have := g2 q.2 (List.mem_map.mpr ⟨q, hq, rfl⟩)
    unfold potMax at h
    omega
  · rw [if_neg h]
    have : ∃ q ∈ pots s (m_ordered w), 2 * b < q.2 := Classical.byContradiction fun z => h (fold_max_le _ 0 _ (by omega) fun y hy => by
      obtain ⟨q, hq, rfl⟩ := List.mem_map.mp hy
      exact Int.not_lt.mp fun z2 => z ⟨q, hq, z2⟩)
    obtain ⟨q, hq, z⟩ := this
    exact lm_none s b (m_ordered w) [] q hq (fun z => nomatch z) z
/-! the bound -/
theorem ordered_pw (w : List Mk) : (m_ordered w).Pairwise fun a b => a.2.1 ≤ b.2.1 := by
  refine (sortK_pw (stoT2 stoI stoS) w (key := kyS)).imp fun {a b} h => ?_
  have h1 : ltT2 ltI ltS (kyS b) (kyS a) = false := by simpa [leOf] using h
  unfold ltT2 at h1
  rw [Bool.or_eq_false_iff] at h1
  have := of_decide_eq_false h1.1
  show a.2.1 ≤ b.2.1
  have : ¬ b.2.1 < a.2.1 := this
  omega
theorem cst_le {s : Int} {o p : Mk} (h0 : 0 ≤ s) (h8 : s ≤ 8) (h : o.2.1 ≤ p.2.1) : cst s o p ≤ 8 := by
  unfold cst m_room_for
  split <;> omega
theorem pots_le {s : Int} (h0 : 0 ≤ s) (h8 : s ≤ 8) : ∀ (row : List Mk) (f : List (Mk × Int)), (∀ q ∈ f, q.2 ≤ 8 * (f.length : Int)) → (∀ q ∈ f, ∀ p ∈ row, q.1.2.1 ≤ p.2.1) → row.Pairwise (fun a b => a.2.1 ≤ b.2.1) → ∀ q ∈ row.foldl (stepP s) f, q.2 ≤ 8 * ((f.length : Int) + row.length)
  | [], f, h, _, _, q, hq => by
    have := h q hq
    simp only [List.length_nil]
    omega
  | p :: row, f, h, hx, pw, q, hq => by
    have pw2 := List.pairwise_cons.mp pw
    have hp : potAt s f p ≤ 8 * ((f.length : Int) + 1) := by
      have go : ∀ (g : List (Mk × Int)) (a : Int), (∀ q ∈ g, q ∈ f) → a ≤ 8 * ((f.length : Int) + 1) → g.foldl (fun a q => max a (q.2 + cst s q.1 p)) a ≤ 8 * ((f.length : Int) + 1) := by
        intro g
        induction g with
        | nil => intro a _ h; exact h
        | cons q g ih =>
          intro a hg ha
          rw [List.foldl_cons]
          have hq := hg q (List.mem_cons_self ..)
          have a1 := h q hq
          have a2 := cst_le h0 h8 (hx q hq p (List.mem_cons_self ..))
          exact ih _ (fun x hx => hg x (List.mem_cons_of_mem _ hx)) (by omega)
      exact go f 0 (fun _ z => z) (by omega)
    have el : ((stepP s f p).length : Int) = f.length + 1 := by simp [stepP]
    have := pots_le h0 h8 row (stepP s f p) (fun q hq => by
      rw [el]
      rcases List.mem_append.mp hq with z | z
      · have := h q z; omega
      · rw [List.mem_singleton.mp z]; exact hp) (fun q hq y hy => by
      rcases List.mem_append.mp hq with z | z
      · exact hx q z y (List.mem_cons_of_mem _ hy)
      · rw [List.mem_singleton.mp z]; exact pw2.1 y hy) pw2.2 q hq
    rw [el] at this
    rw [List.length_cons]
    omega
theorem potMax_le {w : List Mk} {s : Int} (h0 : 0 ≤ s) (h8 : s ≤ 8) (hl : w.length ≤ 8) : potMax s (m_ordered w) ≤ 64 := by
  refine fold_max_le _ 0 _ (by omega) fun y hy => ?_
  obtain ⟨q, hq, rfl⟩ := List.mem_map.mp hy
  have := pots_le h0 h8 (m_ordered w) [] (fun _ z => nomatch z) (fun _ z => nomatch z) (ordered_pw w) q hq
  have e := ordered_len w
  simp only [List.length_nil] at this
  omega

/-! the law's own -/
theorem kyS_inj {w : List Mk} (h : (w.map (·.1)).Nodup) : ∀ x ∈ w, ∀ y ∈ w, kyS x = kyS y → x = y := by
  induction w with
  | nil => intro x hx; cases hx
  | cons z w ih =>
    rw [List.map_cons, List.nodup_cons] at h
    have e : ∀ x y : Mk, kyS x = kyS y → x.1 = y.1 := fun x y q => congrArg Prod.snd q
    intro x hx y hy q
    rcases List.mem_cons.mp hx with a | a
    · rcases List.mem_cons.mp hy with b | b
      · rw [a, b]
      · exact absurd (List.mem_map.mpr ⟨y, b, (e x y q).symm.trans (by rw [a])⟩) h.1
    · rcases List.mem_cons.mp hy with b | b
      · exact absurd (List.mem_map.mpr ⟨x, a, (e x y q).trans (by rw [b])⟩) h.1
      · exact ih h.2 x a y b q
theorem stoT4 {α β γ δ : Type} {f : α → α → Bool} {g : β → β → Bool} {h : γ → γ → Bool} {k : δ → δ → Bool} (hf : Sto f) (hg : Sto g) (hh : Sto h) (hk : Sto k) : Sto (ltT4 f g h k) := by
  have : ltT4 f g h k = ltT2 f (ltT3 g h k) := by funext x y; rfl
  rw [this]
  exact stoT2 hf (stoT3 hg hh hk)
def quad (x : Mk) : Int × OkS × Int × Int := (x.2.1, x)
theorem in_order_eq {w : List Mk} (hn : (w.map (·.1)).Nodup) : (((w.map quad).mergeSort (leOf (ltT4 ltI ltS ltI ltI))).map fun x => x.2) = m_ordered w := by
  refine (sortK_uniq (stoT2 stoI stoS) (key := kyS) (kyS_inj hn) ?_ ?_).symm
  · have p : (((w.map quad).mergeSort (leOf (ltT4 ltI ltS ltI ltI))).map fun x => x.2).Perm ((w.map quad).map fun x => x.2) := (List.mergeSort_perm _ _).map _
    rw [List.map_map] at p
    have e : ((fun x : Int × OkS × Int × Int => x.2) ∘ quad) = id := by funext x; rfl
    rw [e, List.map_id] at p
    exact p
  · rw [List.pairwise_map]
    have pw := sort_pw (stoT4 stoI stoS stoI stoI) (w.map quad)
    refine pw.imp_of_mem fun {a b} ha hb h => ?_
    have hq : ∀ c ∈ (w.map quad).mergeSort (leOf (ltT4 ltI ltS ltI ltI)), c.1 = c.2.2.1 := fun c hc => by
      obtain ⟨x, _, rfl⟩ := List.mem_map.mp ((List.mergeSort_perm _ _).mem_iff.mp hc)
      rfl
    have h4 : ltT4 ltI ltS ltI ltI b a = false := by simpa [leOf] using h
    show (!ltT2 ltI ltS (kyS b.2) (kyS a.2)) = true
    have : ltT2 ltI ltS (kyS b.2) (kyS a.2) = false := by
      unfold ltT4 at h4
      unfold ltT2 kyS
      rw [← hq a ha, ← hq b hb]
      revert h4
      cases ltI b.1 a.1 <;> cases ltI a.1 b.1 <;> cases ltS b.2.1 a.2.1 <;> simp
    rw [this]; rfl
theorem maxL_fold (a : Int) (l : List Int) : maxL ([a] ++ l) = l.foldl max a := by
  obtain ⟨h1, h2⟩ := maxL_spec (l := [a] ++ l) (by simp)
  obtain ⟨g1, g2⟩ := fold_max_ge l a
  have b := fold_max_le l a (maxL ([a] ++ l)) (h2 a (by simp)) fun y hy => h2 y (by simp [hy])
  rcases List.mem_append.mp h1 with z | z
  · rw [List.mem_singleton.mp z] at b ⊢
    omega
  · have := g2 _ z
    omega
theorem low_max (s : Int) (p : Mk) : ∀ (f : List Mk) (x : Int), (f.map fun (x2 : Mk) => x2.2.1 + m__law_room x2 p s).foldl max x = lowAt s f p x
  | [], _ => rfl
  | o :: f, x => by
    rw [List.map_cons, List.foldl_cons, low_max s p f]
    show _ = lowAt s f p (mxI x (o.2.1 + m_room_for o p s))
    congr 1
    show max x (o.2.1 + m_room_for o p s) = _
    unfold mxI
    split <;> omega
theorem lm_app (s b : Int) : ∀ (pre suf f : List Mk), lmGo s b pre f = none → lmGo s b (pre ++ suf) f = none
  | [], _, _, h => by cases h
  | p :: pre, suf, f, h => by
    show (if lowAt s f p (p.2.1 - b) > p.2.1 + b then none else lmGo s b (pre ++ suf) (apStep s b f p)) = none
    have h' : (if lowAt s f p (p.2.1 - b) > p.2.1 + b then none else lmGo s b pre (apStep s b f p)) = none := h
    by_cases e : lowAt s f p (p.2.1 - b) > p.2.1 + b
    · rw [if_pos e]
    · rw [if_neg e] at h' ⊢
      exact lm_app s b pre suf _ h'
theorem lm_cat (s b : Int) : ∀ (pre suf f g : List Mk), lmGo s b pre f = some g → lmGo s b (pre ++ suf) f = lmGo s b suf g
  | [], _, _, _, h => by
    injection h with h
    subst h; rfl
  | p :: pre, suf, f, g, h => by
    show (if lowAt s f p (p.2.1 - b) > p.2.1 + b then none else lmGo s b (pre ++ suf) (apStep s b f p)) = _
    have h' : (if lowAt s f p (p.2.1 - b) > p.2.1 + b then none else lmGo s b pre (apStep s b f p)) = some g := h
    by_cases e : lowAt s f p (p.2.1 - b) > p.2.1 + b
    · rw [if_pos e] at h'; cases h'
    · rw [if_neg e] at h' ⊢
      exact lm_cat s b pre suf _ g h'
theorem lm_len (s b : Int) : ∀ (row f g : List Mk), lmGo s b row f = some g → g.length = f.length + row.length
  | [], f, g, h => by
    injection h with h
    subst h; simp
  | p :: row, f, g, h => by
    have h' : (if lowAt s f p (p.2.1 - b) > p.2.1 + b then none else lmGo s b row (apStep s b f p)) = some g := h
    split at h'
    · cases h'
    · have := lm_len s b row _ g h'
      simp [apStep] at this
      rw [List.length_cons]; omega
theorem rng_split {n : Int} {pre suf : List Int} {x : Int} (h : rngL 0 n = pre ++ x :: suf) : x = (pre.length : Nat) := by
  have e : (rngL 0 n)[pre.length]? = some x := by rw [h]; simp
  unfold rngL at e
  rw [List.getElem?_map] at e
  cases z : (List.range (n - 0).toNat)[pre.length]? with
  | none => rw [z] at e; cases e
  | some y =>
    rw [z] at e
    obtain ⟨h1, h2⟩ := List.getElem?_eq_some_iff.mp z
    rw [List.getElem_range] at h2
    have e2 : (0 : Int) + ((y : Nat) : Int) = x := Option.some.inj e
    omega
theorem least_some {w : List Mk} {s b : Int} (hb : 0 ≤ b) : (m__law_left_most w s b).isSome = decide (m_least_of w s ≤ b) := by
  rw [lm_eq w s b hb, least_pot]
  by_cases h : potMax s (m_ordered w) ≤ 2 * b
  · rw [if_pos h, decide_eq_true (by omega)]; rfl
  · rw [if_neg h, decide_eq_false (by omega)]; rfl
theorem least_le {w : List Mk} {s : Int} (h0 : 0 ≤ s) (h8 : s ≤ 8) (hl : w.length ≤ 8) : 0 ≤ m_least_of w s ∧ m_least_of w s ≤ 32 := by
  have a := potMax_le h0 h8 hl
  have b := potMax_nn s (m_ordered w)
  rw [least_pot]; omega

theorem ap_len (s b : Int) : ∀ (row f : List Mk), (row.foldl (apStep s b) f).length = f.length + row.length
  | [], f => by simp
  | p :: row, f => by
    rw [List.foldl_cons, ap_len s b row, List.length_cons]
    simp [apStep]; omega
theorem c_apart_of (w : List Mk) (s : Int) (h : Pre_apart_of w s) (K : List Mk → Prop) (q : K (m_apart_of w s)) : W_apart_of w s K := by
  have h : w.length ≤ 8 := h
  refine ⟨h, trivial, forW_pre (fun pre f => f = pre.foldl (apStep s (m_least_of w s)) []) rfl (fun pre x suf f nx bk el hI hn _ => ?_) (fun f hI => hI ▸ q)⟩
  have el := congrArg List.length el
  rw [ordered_len, List.length_append, List.length_cons] at el
  have fl := ap_len s (m_least_of w s) pre []
  rw [← hI, List.length_nil] at fl
  refine forW_pre (fun pre2 low => low = lowAt s pre2 x (x.2.1 - m_least_of w s)) rfl (fun pre2 y suf2 low nx2 bk2 el2 hI2 hn2 _ => ⟨trivial, hn2 _ ?_⟩) (fun low hI2 => ⟨by omega, hn _ ?_⟩)
  · rw [hI2]
    unfold lowAt
    rw [List.foldl_append]; rfl
  · rw [List.foldl_append, ← hI, hI2]; rfl
theorem c_apart (w : List Mk) (s : Int) (h : Pre_apart w s) (K : List Mk → Prop) (q : K (m_apart w s)) : W_apart w s K := by
  obtain ⟨h1, h2, h3⟩ := h
  exact ⟨h1, ⟨h2, h3⟩, h1.1, q⟩
theorem apart_pots (w : List Mk) (s : Int) : m_apart_of w s = (pots s (m_ordered w)).map (mv (m_least_of w s)) := ap_all s _ (m_ordered w) []
theorem left_apart {w : List Mk} {s : Int} (h0 : 0 ≤ s) (h8 : s ≤ 8) (hl : w.length ≤ 8) : m__law_left_most w s (m_least_of w s) = some (m_apart_of w s) := by
  obtain ⟨l0, l1⟩ := least_le h0 h8 hl
  have e := least_pot w s
  rw [lm_eq w s _ l0, apart_pots, if_pos (by omega)]

theorem c_chain (w : List Mk) (s : Int) (h : Pre_chain w s) (K : Option (List OkS) → Prop) (q : K (m_chain w s)) : W_chain w s K := by
  obtain ⟨h1, h2, h3⟩ := h
  refine ⟨h1, ⟨h2, h3⟩, h1.1, ?_⟩
  unfold m_chain at q
  cases e : m_worst_chain w s with
  | none =>
    rw [e] at q
    exact ⟨fun _ => q, fun z => nomatch z⟩
  | some c =>
    rw [e] at q
    exact ⟨fun z => (nomatch z), fun _ => ⟨rfl, q⟩⟩
/-! moved by far -/
def sh (X Y : Int) (p : Mk) : Mk := (p.1, p.2.1 + X, p.2.2 + Y)
theorem sh_cst (X Y s : Int) (o p : Mk) : cst s (sh X Y o) (sh X Y p) = cst s o p := by
  unfold cst m_room_for sh
  have e : o.2.2 + Y - (p.2.2 + Y) = o.2.2 - p.2.2 := by omega
  show (if absI (o.2.2 + Y - (p.2.2 + Y)) < s then s else 0) - (p.2.1 + X - (o.2.1 + X)) = _
  rw [e]
  omega
theorem sh_ordered (X Y : Int) (w : List Mk) : m_ordered (w.map (sh X Y)) = (m_ordered w).map (sh X Y) := by
  unfold m_ordered
  refine (List.map_mergeSort fun a _ b _ => ?_).symm
  show (!ltT2 ltI ltS (kyS b) (kyS a)) = (!ltT2 ltI ltS (kyS (sh X Y b)) (kyS (sh X Y a)))
  congr 1
  show (decide (b.2.1 < a.2.1) || (!decide (a.2.1 < b.2.1) && ltS b.1 a.1)) = (decide (b.2.1 + X < a.2.1 + X) || (!decide (a.2.1 + X < b.2.1 + X) && ltS b.1 a.1))
  have e1 : decide (b.2.1 + X < a.2.1 + X) = decide (b.2.1 < a.2.1) := decide_eq_decide.mpr (by omega)
  have e2 : decide (a.2.1 + X < b.2.1 + X) = decide (a.2.1 < b.2.1) := decide_eq_decide.mpr (by omega)
  rw [e1, e2]
def sh2 (X Y : Int) (q : Mk × Int) : Mk × Int := (sh X Y q.1, q.2)
theorem sh_pot (X Y s : Int) (p : Mk) : ∀ (f : List (Mk × Int)) (a : Int), (f.map (sh2 X Y)).foldl (fun a q => max a (q.2 + cst s q.1 (sh X Y p))) a = f.foldl (fun a q => max a (q.2 + cst s q.1 p)) a
  | [], _ => rfl
  | q :: f, a => by
    rw [List.map_cons, List.foldl_cons, List.foldl_cons, sh_pot X Y s p f]
    show List.foldl _ (max a (q.2 + cst s (sh X Y q.1) (sh X Y p))) f = _
    rw [sh_cst]
theorem sh_pots (X Y s : Int) : ∀ (row : List Mk) (f : List (Mk × Int)), (row.map (sh X Y)).foldl (stepP s) (f.map (sh2 X Y)) = (row.foldl (stepP s) f).map (sh2 X Y)
  | [], _ => rfl
  | p :: row, f => by
    rw [List.map_cons, List.foldl_cons, List.foldl_cons, ← sh_pots X Y s row]
    congr 1
    unfold stepP potAt
    rw [sh_pot, List.map_append]; rfl
theorem sh_pots0 (X Y s : Int) (row : List Mk) : pots s (row.map (sh X Y)) = (pots s row).map (sh2 X Y) := sh_pots X Y s row []
theorem sh_max (X Y s : Int) (row : List Mk) : potMax s (row.map (sh X Y)) = potMax s row := by
  unfold potMax
  rw [sh_pots0, List.map_map]; rfl
theorem sh_least (X Y s : Int) (w : List Mk) : m_least_of (w.map (sh X Y)) s = m_least_of w s := by rw [least_pot, least_pot, sh_ordered, sh_max]
theorem sh_apart (X Y s : Int) (w : List Mk) : (m_apart_of w s).map (sh X Y) = m_apart_of (w.map (sh X Y)) s := by
  rw [apart_pots, apart_pots, sh_ordered, sh_pots0, sh_least, List.map_map, List.map_map]
  refine List.map_congr_left fun q _ => ?_
  show ((q.1.1, q.1.2.1 - m_least_of w s + q.2 + X, q.1.2.2 + Y) : Mk) = (q.1.1, q.1.2.1 + X - m_least_of w s + q.2, q.1.2.2 + Y)
  rw [show q.1.2.1 - m_least_of w s + q.2 + X = q.1.2.1 + X - m_least_of w s + q.2 by omega]
def sh1 (X Y : Int) (q : Mk × List Cand) : Mk × List Cand := (sh X Y q.1, q.2)
theorem sh_cands (X Y s : Int) (p : Mk) : ∀ of : List (Mk × List Cand), cands s (sh X Y p) (of.map (sh1 X Y)) = cands s p of
  | [] => rfl
  | q :: of => by
    have ih := sh_cands X Y s p of
    unfold cands at ih ⊢
    rw [List.map_cons, List.flatMap_cons, List.flatMap_cons, ih]
    congr 1
    show (cst s (sh X Y q.1) (sh X Y p), [q.1.1, p.1]) :: q.2.map (fun c => (c.1 + cst s (sh X Y q.1) (sh X Y p), c.2 ++ [p.1])) = _
    rw [sh_cst]
theorem sh_ch (X Y s : Int) : ∀ (row : List Mk) (of : List (Mk × List Cand)), (row.map (sh X Y)).foldl (chGo s) (of.map (sh1 X Y)) = (row.foldl (chGo s) of).map (sh1 X Y)
  | [], _ => rfl
  | p :: row, of => by
    rw [List.map_cons, List.foldl_cons, List.foldl_cons, ← sh_ch X Y s row]
    congr 1
    unfold chGo
    rw [sh_cands, List.map_append]; rfl
theorem sh_chain (X Y s : Int) (w : List Mk) : m_chain w s = m_chain (w.map (sh X Y)) s := by
  unfold m_chain m_worst_chain m_chains_to
  have := sh_ch X Y s (m_ordered w) []
  rw [List.map_nil] at this
  rw [sh_ordered, this, List.map_map]; rfl
/-! two far from each other -/
theorem pots_app {s : Int} (A : List Mk) : ∀ (B : List Mk) (g : List (Mk × Int)), (∀ p ∈ B, ∀ q ∈ pots s A, q.2 + cst s q.1 p ≤ 0) → B.foldl (stepP s) (pots s A ++ g) = pots s A ++ B.foldl (stepP s) g
  | [], _, _ => rfl
  | p :: B, g, h => by
    rw [List.foldl_cons, List.foldl_cons]
    have e : stepP s (pots s A ++ g) p = pots s A ++ stepP s g p := by
      unfold stepP
      rw [List.append_assoc]
      have : potAt s (pots s A ++ g) p = potAt s g p := by
        unfold potAt
        rw [List.foldl_append]
        congr 1
        have go : ∀ l : List (Mk × Int), (∀ q ∈ l, q.2 + cst s q.1 p ≤ 0) → l.foldl (fun a q => max a (q.2 + cst s q.1 p)) 0 = 0 := by
          intro l
          induction l with
          | nil => intro _; rfl
          | cons q l ih =>
            intro hl
            have := hl q (List.mem_cons_self ..)
            rw [List.foldl_cons, show max (0 : Int) (q.2 + cst s q.1 p) = 0 by omega]
            exact ih fun x hx => hl x (List.mem_cons_of_mem _ hx)
        exact go _ (h p (List.mem_cons_self ..))
      rw [this]
    rw [e]
    exact pots_app A B _ fun x hx => h x (List.mem_cons_of_mem _ hx)
theorem pots_two {s : Int} (A B : List Mk) (h : ∀ p ∈ B, ∀ q ∈ pots s A, q.2 + cst s q.1 p ≤ 0) : pots s (A ++ B) = pots s A ++ pots s B := by
  have e : pots s (A ++ B) = B.foldl (stepP s) (pots s A) := List.foldl_append ..
  rw [e]
  have := pots_app A B [] h
  rw [List.append_nil] at this
  exact this
theorem fold_max_acc : ∀ (l : List Int) (a : Int), 0 ≤ a → l.foldl max a = max a (l.foldl max 0)
  | [], a, h => by show a = max a 0; omega
  | x :: l, a, h => by
    rw [List.foldl_cons, List.foldl_cons, fold_max_acc l (max a x) (by omega), fold_max_acc l (max 0 x) (by omega)]
    omega
theorem potMax_two {s : Int} (A B : List Mk) (h : ∀ p ∈ B, ∀ q ∈ pots s A, q.2 + cst s q.1 p ≤ 0) : potMax s (A ++ B) = max (potMax s A) (potMax s B) := by
  unfold potMax
  rw [pots_two A B h, List.map_append, List.foldl_append, fold_max_acc _ _ (fold_max_ge _ 0).1]
/-- the bounds of the two -/
def Near (w : List Mk) : Prop := ∀ p ∈ w, 0 ≤ p.2.1 ∧ p.2.1 ≤ 8
def Far (w : List Mk) : Prop := ∀ p ∈ w, 1000000 ≤ p.2.1
theorem both_ordered {w v b : List Mk} (hb : b.Perm (w ++ v)) (hn : ((w ++ v).map (·.1)).Nodup) (h1 : Near w) (h2 : Far v) : m_ordered b = m_ordered w ++ m_ordered v := by
  have bn : (b.map (·.1)).Nodup := (hb.map (·.1)).nodup_iff.mpr hn
  refine sortK_uniq (stoT2 stoI stoS) (key := kyS) (kyS_inj bn) ((ordered_perm w).append (ordered_perm v) |>.trans hb.symm) ?_
  refine List.pairwise_append.mpr ⟨sortK_pw (stoT2 stoI stoS) w, sortK_pw (stoT2 stoI stoS) v, fun a ha c hc => ?_⟩
  have a1 := h1 a ((ordered_perm w).mem_iff.mp ha)
  have c1 := h2 c ((ordered_perm v).mem_iff.mp hc)
  show (!(decide (c.2.1 < a.2.1) || (!decide (a.2.1 < c.2.1) && ltS c.1 a.1))) = true
  rw [decide_eq_false (by omega), decide_eq_true (show a.2.1 < c.2.1 by omega)]; rfl
theorem pots_mem {s : Int} : ∀ (row : List Mk) (f : List (Mk × Int)), ∀ q ∈ row.foldl (stepP s) f, q ∈ f ∨ q.1 ∈ row
  | [], f, q, h => .inl h
  | p :: row, f, q, h => by
    rcases pots_mem row _ q h with z | z
    · rcases List.mem_append.mp z with z | z
      · exact .inl z
      · rw [List.mem_singleton.mp z]
        exact .inr (List.mem_cons_self ..)
    · exact .inr (List.mem_cons_of_mem _ z)
theorem far_ok {w v : List Mk} {s : Int} (h0 : 0 ≤ s) (h8 : s ≤ 8) (hl : w.length ≤ 8) (h1 : Near w) (h2 : Far v) : ∀ p ∈ m_ordered v, ∀ q ∈ pots s (m_ordered w), q.2 + cst s q.1 p ≤ 0 := fun p hp q hq => by
  have a := h2 p ((ordered_perm v).mem_iff.mp hp)
  have b := (pots_mem (m_ordered w) [] q hq).resolve_left (fun z => nomatch z)
  have c := h1 q.1 ((ordered_perm w).mem_iff.mp b)
  have d := pots_le h0 h8 (m_ordered w) [] (fun _ z => nomatch z) (fun _ z => nomatch z) (ordered_pw w) q hq
  have e := ordered_len w
  simp only [List.length_nil] at d
  have f : m_room_for q.1 p s ≤ 8 := by
    unfold m_room_for
    split <;> omega
  unfold cst
  omega
theorem pots_len (s : Int) : ∀ (row : List Mk) (f : List (Mk × Int)), (row.foldl (stepP s) f).length = f.length + row.length
  | [], f => by simp
  | p :: row, f => by
    rw [List.foldl_cons, pots_len s row, List.length_cons]
    simp [stepP]; omega

theorem cut_mid {α : Type} {l : List α} {a b : Nat} (h1 : a ≤ b) (h2 : b ≤ l.length) : cutL l (some (a : Int)) (some (b : Int)) = (l.drop a).take (b - a) := by
  unfold cutL
  have e : ∀ {i d : Nat}, i ≤ l.length → HT.sIx l.length d (some (i : Int)) = i := fun {i d} h => by
    unfold HT.sIx
    simp only [Int.toNat_natCast]
    rw [if_neg (by omega), Nat.min_eq_left h]
  rw [e (show a ≤ l.length by omega), e h2]
theorem cut_from0 {α : Type} {l : List α} {i : Nat} (h : i ≤ l.length) : cutL l (some (i : Int)) none = l.drop i := by
  have := cut_mid (l := l) (a := i) (b := l.length) h (Nat.le_refl _)
  have e : cutL l (some (i : Int)) (some (l.length : Int)) = cutL l (some (i : Int)) none := by
    unfold cutL
    congr 1
    have : HT.sIx l.length l.length (some (l.length : Int)) = HT.sIx l.length l.length none := by
      unfold HT.sIx
      simp only [Int.toNat_natCast]
      rw [if_neg (by omega), Nat.min_self]
    rw [this]
  rw [← e, this]
  exact List.take_of_length_le (by rw [List.length_drop]; exact Nat.le_refl _)
theorem sh_lam (X Y : Int) (w : List Mk) : (w.map fun (x : Mk) => (x.1, (x.2.1 + X), (x.2.2 + Y))) = w.map (sh X Y) := rfl
theorem law_end (w v b : List Mk) (s : Int) (h0 : 1 ≤ s) (h8 : s ≤ 8) (wl : w.length ≤ 4) (vl : v.length ≤ 4) (hb : b.Perm (w ++ v)) (hn : ((w ++ v).map (·.1)).Nodup) (h1 : Near w) (h2 : Far v) :
    m_least_of b s = mxI (m_least_of w s) (m_least_of v s) ∧ m_apart_of b s = (pots s (m_ordered w)).map (mv (mxI (m_least_of w s) (m_least_of v s))) ++ (pots s (m_ordered v)).map (mv (mxI (m_least_of w s) (m_least_of v s))) := by
  have fo := far_ok (s := s) (by omega) h8 (show w.length ≤ 8 by omega) h1 h2
  have bo := both_ordered hb hn h1 h2
  have e : m_least_of b s = mxI (m_least_of w s) (m_least_of v s) := by
    rw [least_pot, least_pot, least_pot, bo, potMax_two _ _ fo]
    unfold mxI
    split <;> omega
  refine ⟨e, ?_⟩
  rw [apart_pots, bo, pots_two _ _ fo, List.map_append, e]
theorem c_law (ns : List Int) (hl : ns.length ≤ 63) (K : Bool → Prop) (q : K true) : W_law ns K := by
  refine ⟨hl, ⟨by decide, by decide⟩, fun folk0 pf => ?_⟩
  obtain ⟨g1, g2, g3⟩ := pf
  have hp : (folk0.mergeSort (leOf ltS)).Perm folk0 := List.mergeSort_perm _ _
  show W_law_2 () (folk0.mergeSort (leOf ltS)) K
  generalize folk0.mergeSort (leOf ltS) = folk at hp
  have f1 : folk.length = 8 := by rw [hp.length_eq, g1]; rfl
  have f2 : folk.Nodup := hp.nodup_iff.mpr g2
  have f3 : ∀ x ∈ folk, Nm x := fun x hx => g3 x (hp.mem_iff.mp hx)
  refine pick_ok (by decide) (by decide) fun r2 a2 b2 => ?_
  have c1 : cutL folk none (some ((1 : Int) + r2)) = folk.take (1 + r2).toNat := by
    rw [show (1 : Int) + r2 = (((1 + r2).toNat : Nat) : Int) by omega, cut_to0 (by omega)]
    exact congrArg (fun k => folk.take k) (by omega)
  rw [c1]
  refine ⟨by rw [List.length_take]; omega, forW_pre (fun pre (w : List Mk) => w.map (·.1) = pre ∧ Near w) ⟨rfl, fun _ z => nomatch z⟩ (fun pre x suf w nx bk el hI hn _ => ?_) (fun w hI => ?_)⟩
  · refine pick_ok (by decide) (by decide) fun r5 a5 b5 => pick_ok (by decide) (by decide) fun r6 a6 b6 => hn _ ⟨?_, fun p hp => ?_⟩
    · show (w ++ [(x, r5, r6)]).map (·.1) = _
      rw [List.map_append, hI.1]; rfl
    · rcases List.mem_append.mp hp with z | z
      · exact hI.2 p z
      · have z : p = (x, r5, r6) := List.mem_singleton.mp z
        rw [z]
        exact ⟨a5, by show r5 ≤ 8; omega⟩
  obtain ⟨wn, hnear⟩ := hI
  refine ⟨by decide, pick_ok (by decide) (by decide) fun r8 a8 b8 => ?_⟩
  have c2 : cutL folk (some (4 : Int)) (some ((5 : Int) + r8)) = (folk.drop 4).take (1 + r8).toNat := by
    have := cut_mid (l := folk) (a := 4) (b := (5 + r8).toNat) (by omega) (by omega)
    rw [show (((5 + r8).toNat : Nat) : Int) = 5 + r8 by omega] at this
    refine Eq.trans this ?_
    congr 1; omega
  rw [c2]
  refine ⟨by rw [List.length_take, List.length_drop]; omega, forW_pre (fun pre (v : List Mk) => v.map (·.1) = pre ∧ Far v) ⟨rfl, fun _ z => nomatch z⟩ (fun pre x suf v nx bk el hI hn _ => ?_) (fun v hI => ?_)⟩
  · refine pick_ok (by decide) (by decide) fun r5 a5 b5 => pick_ok (by decide) (by decide) fun r6 a6 b6 => hn _ ⟨?_, fun p hp => ?_⟩
    · rw [Option.toList_some, List.map_append, hI.1]; rfl
    · rw [Option.toList_some] at hp
      rcases List.mem_append.mp hp with z | z
      · exact hI.2 p z
      · rw [List.mem_singleton.mp z]
        have e6 : ((10 : Int) ^ ((6 : Int)).toNat) = 1000000 := by decide
        show 1000000 ≤ (10 : Int) ^ ((6 : Int)).toNat + r5
        rw [e6]; omega
  obtain ⟨vn, hfar⟩ := hI
  refine pick_ok (by decide) (by decide) fun r14 a14 b14 => ⟨by decide, pick_ok (by decide) (by decide +kernel) fun r15 a15 b15 => ⟨by decide, by decide, pick_ok (by decide) (by decide +kernel) fun r16 a16 b16 => ⟨by decide, ?_⟩⟩⟩
  generalize r15 - (10 : Int) ^ ((17 : Int)).toNat = X
  generalize r16 - (10 : Int) ^ ((17 : Int)).toNat = Y
  have wl : w.length ≤ 4 := by
    have := congrArg List.length wn
    rw [List.length_map, List.length_take] at this
    omega
  have vl : v.length ≤ 4 := by
    have := congrArg List.length vn
    rw [List.length_map, List.length_take, List.length_drop] at this
    omega
  have nd : ((w ++ v).map (·.1)).Nodup := by
    rw [List.map_append, wn, vn]
    refine List.Sublist.nodup ?_ f2
    conv => rhs; rw [← List.take_append_drop 4 folk]
    refine List.Sublist.append ?_ (List.take_sublist _ _)
    have : folk.take (1 + r2).toNat = (folk.take 4).take (1 + r2).toNat := by rw [List.take_take, Nat.min_eq_left (by omega)]
    rw [this]
    exact List.take_sublist _ _
  have nm : ∀ p ∈ w ++ v, Nm p.1 := fun p hp => by
    refine f3 _ ?_
    have : p.1 ∈ (w ++ v).map (·.1) := List.mem_map.mpr ⟨p, hp, rfl⟩
    rw [List.map_append, wn, vn] at this
    rcases List.mem_append.mp this with z | z
    · exact List.mem_of_mem_take z
    · exact List.mem_of_mem_drop (List.mem_of_mem_take z)
  rw [List.map_append] at nd
  have nd2 := List.nodup_append.mp nd
  have gw : GoodS w := ⟨by omega, nd2.1, fun p hp => nm p (List.mem_append_left _ hp)⟩
  have gv : GoodS v := ⟨by omega, nd2.2.1, fun p hp => nm p (List.mem_append_right _ hp)⟩
  have gl : GoodS (w.map (sh X Y)) := ⟨by rw [List.length_map]; omega, by
    rw [List.map_map]
    exact nd2.1, fun p hp => by
    obtain ⟨x, hx, rfl⟩ := List.mem_map.mp hp
    exact gw.2.2 x hx⟩
  have s1 : (1 : Int) ≤ 1 + r14 := by omega
  have s8 : (1 : Int) + r14 ≤ 8 := by omega
  have al : ∀ u : List Mk, (m_apart u (1 + r14)).length = u.length := fun u => by
    have := ap_len (1 + r14) (m_least_of u (1 + r14)) (m_ordered u) []
    rw [ordered_len, List.length_nil, Nat.zero_add] at this
    exact this
  refine ⟨by omega, ⟨gw, s1, s8⟩, ⟨gl, s1, s8⟩, by rw [al]; omega, fun e => absurd (sh_apart X Y (1 + r14) w) e, fun _ => ⟨⟨gw, s1, s8⟩, ⟨gl, s1, s8⟩, fun e => absurd (sh_chain X Y (1 + r14) w) e, fun _ => ⟨⟨gw, s1, s8⟩, ⟨gv, s1, s8⟩, ?_⟩⟩⟩
  have l5 : sizeLine = 16777216 := sizeLine_eq
  refine ⟨by omega, by show (w ++ v).length < 1000; rw [List.length_append]; omega, fun b hb => ?_⟩
  have hb : b.Perm (w ++ v) := hb
  have bl : b.length = w.length + v.length := by rw [hb.length_eq, List.length_append]
  have gb : GoodS b := ⟨by omega, (hb.map (·.1)).nodup_iff.mpr (by rw [List.map_append]; exact nd), fun p hp => nm p (hb.mem_iff.mp hp)⟩
  obtain ⟨e1, e2⟩ := law_end w v b (1 + r14) s1 s8 wl vl hb (by rw [List.map_append]; exact nd) hnear hfar
  have ew := apart_pots w (1 + r14)
  have ev := apart_pots v (1 + r14)
  have pl : ((pots (1 + r14) (m_ordered w)).map (mv (mxI (m_least_of w (1 + r14)) (m_least_of v (1 + r14))))).length = w.length := by
    rw [List.length_map]
    have := pots_len (1 + r14) (m_ordered w) []
    rw [List.length_nil, Nat.zero_add, ordered_len] at this
    exact this
  refine ⟨⟨gb, s1, s8⟩, fun e => absurd e1 e, fun _ => ⟨⟨gb, s1, s8⟩, fun e => ?_, fun _ => ⟨fun _ => ⟨gv, s1, s8⟩, ?_⟩⟩⟩
  · exfalso
    rw [Bool.and_eq_true, decide_eq_true_eq, Bool.not_eq_true', decide_eq_false_iff_not] at e
    refine e.2 ?_
    show cutL (m_apart_of b (1 + r14)) none (some (w.length : Int)) = m_apart_of w (1 + r14)
    rw [e2, cut_to0 (by rw [List.length_append, pl]; omega), List.take_append_of_le_length (by rw [pl]; exact Nat.le_refl _), List.take_of_length_le (by rw [pl]; exact Nat.le_refl _), ew]
    have h1 : m_least_of v (1 + r14) ≤ m_least_of w (1 + r14) := e.1
    have : mxI (m_least_of w (1 + r14)) (m_least_of v (1 + r14)) = m_least_of w (1 + r14) := by unfold mxI; split <;> omega
    rw [this]
  · have : (decide (m_least_move v (1 + r14) < m_least_move w (1 + r14)) || decide ((cutL (m_apart b (1 + r14)) (some (w.length : Int)) none) = (m_apart v (1 + r14)))) = true := by
      by_cases h : m_least_of v (1 + r14) < m_least_of w (1 + r14)
      · rw [decide_eq_true (show m_least_move v (1 + r14) < m_least_move w (1 + r14) from h)]; rfl
      · rw [Bool.or_eq_true]
        refine .inr (decide_eq_true ?_)
        show cutL (m_apart_of b (1 + r14)) (some (w.length : Int)) none = m_apart_of v (1 + r14)
        have e3 : mxI (m_least_of w (1 + r14)) (m_least_of v (1 + r14)) = m_least_of v (1 + r14) := by unfold mxI; split <;> omega
        rw [e2, cut_from0 (by rw [List.length_append, pl]; omega), List.drop_append_of_le_length (by rw [pl]; exact Nat.le_refl _), List.drop_of_length_le (by rw [pl]; exact Nat.le_refl _), List.nil_append, ev, e3]
    rw [this]; exact q

theorem p_law : ∀ ds Q, S_law ds Q → ds.length = 1 ∧ t_law (endD Q) (startE 18 ds) := p_law_of c_law
/-! ### the head -/
end DL
namespace DL
open PySem PySem.Spec PyProof.Rows L2
def d_is_name : He.DefD := ⟨("is_name", none), "is_name", "is_name", defArgs s_is_name, defBody s_is_name, defScope s_is_name, [], []⟩
def d_need_symbols : He.DefD := ⟨("need_symbols", none), "need_symbols", "need_symbols", defArgs s_need_symbols, defBody s_need_symbols, defScope s_need_symbols, [], []⟩
def d_need_size : He.DefD := ⟨("need_size", none), "need_size", "need_size", defArgs s_need_size, defBody s_need_size, defScope s_need_size, [], []⟩
def d_ordered : He.DefD := ⟨("ordered", none), "ordered", "ordered", defArgs s_ordered, defBody s_ordered, defScope s_ordered, [], []⟩
def d_room_for : He.DefD := ⟨("room_for", none), "room_for", "room_for", defArgs s_room_for, defBody s_room_for, defScope s_room_for, [], []⟩
def d_chains_to : He.DefD := ⟨("chains_to", none), "chains_to", "chains_to", defArgs s_chains_to, defBody s_chains_to, defScope s_chains_to, [], []⟩
def d_greatest_of : He.DefD := ⟨("greatest_of", none), "greatest_of", "greatest_of", defArgs s_greatest_of, defBody s_greatest_of, defScope s_greatest_of, [], []⟩
def d_worst_chain : He.DefD := ⟨("worst_chain", none), "worst_chain", "worst_chain", defArgs s_worst_chain, defBody s_worst_chain, defScope s_worst_chain, [], []⟩
def d_least_of : He.DefD := ⟨("least_of", none), "least_of", "least_of", defArgs s_least_of, defBody s_least_of, defScope s_least_of, [], []⟩
def d_least_move : He.DefD := ⟨("least_move", none), "least_move", "least_move", defArgs s_least_move, defBody s_least_move, defScope s_least_move, [], [("size", .int (2))]⟩
def d_apart_of : He.DefD := ⟨("apart_of", none), "apart_of", "apart_of", defArgs s_apart_of, defBody s_apart_of, defScope s_apart_of, [], []⟩
def d_apart : He.DefD := ⟨("apart", none), "apart", "apart", defArgs s_apart, defBody s_apart, defScope s_apart, [], [("size", .int (2))]⟩
def d_chain : He.DefD := ⟨("chain", none), "chain", "chain", defArgs s_chain, defBody s_chain, defScope s_chain, [], [("size", .int (2))]⟩
def d__law_pen : He.DefD := ⟨("_law_pen", none), "_law_pen", "_law_pen", defArgs s__law_pen, defBody s__law_pen, defScope s__law_pen, [], []⟩
def d__law_pick : He.DefD := ⟨("_law_pick", none), "_law_pick", "_law_pick", defArgs s__law_pick, defBody s__law_pick, defScope s__law_pick, [], []⟩
def d__law_shuffled : He.DefD := ⟨("_law_shuffled", none), "_law_shuffled", "_law_shuffled", defArgs s__law_shuffled, defBody s__law_shuffled, defScope s__law_shuffled, [], []⟩
def d__law_folk : He.DefD := ⟨("_law_folk", none), "_law_folk", "_law_folk", defArgs s__law_folk, defBody s__law_folk, defScope s__law_folk, [], []⟩
def d_law : He.DefD := ⟨("law", none), "law", "law", defArgs s_law, defBody s_law, defScope s_law, [], []⟩
def fn : List He.DefD := [d_is_name, d_need_symbols, d_need_size, d_ordered, d_room_for, d_chains_to, d_greatest_of, d_worst_chain, d_least_of, d_least_move, d_apart_of, d_apart, d_chain, d__law_pen, d__law_pick, d__law_shuffled, d__law_folk, d_law]
def fa : List He.Fa := [.glo "is_name", .glo "need_symbols", .glo "need_size", .glo "ordered", .glo "room_for", .glo "chains_to", .glo "greatest_of", .glo "worst_chain", .glo "least_of", .glo "least_move", .glo "apart_of", .glo "apart", .glo "chain", .glo "_law_pen", .glo "_law_pick", .glo "_law_shuffled", .glo "_law_folk", .glo "law", .free "len", .free "list", .free "all", .free "set", .free "sorted", .free "abs", .free "enumerate", .free "max", .free "min", .free "range", .int "MOST_NAME" (8), .str "LETTERS" "abcdefghijklmnopqrstuvwxyz", .int "MOST_SYMBOLS" (8), .int "MOST_SIZE" (8)]
def loose : List PySem.Str := (["SheetError", "BadSize", "BadSymbols", "MOST_NAME", "LETTERS", "is_name", "MOST_SYMBOLS", "SIZE", "MOST_SIZE", "need_symbols", "need_size", "ordered", "room_for", "chains_to", "greatest_of", "worst_chain", "least_of", "least_move", "apart_of", "apart", "chain", "_law_pen", "_law_pick", "_law_shuffled", "_law_folk"] : List PySem.Str)
abbrev R : PySem.W.OpenRow := PySem.W.OpenLaw.row PySem.Challenge.rw_scalesheet_k28_whole_symbols_elsewhere
def tf : List He.Defn := [("ordered", none), ("greatest_of", none)]
abbrev hk : PySem.W.Hook := He.hookX 4 fa fn [] tf (tabsNd tf)
def ob (s : PySem.W.SharedT) : He.AlX := He.obsX 4 fa fn [] tf (tabsNd tf) (HandSHeadRun.getT s)
theorem ob_eq (s : PySem.W.SharedT) : ob s = hk.obs s.abs := He.obsX_eq (HandSHeadRun.getT_eq s)
theorem run (w : World) : HandSHeadRun.RunEq R (PySem.W.view R.prog [29]) hk ob 20000 loose w := by
  intro os
  kernel_rfl
variable [Tb]
theorem up {P : Program} {w : World} {K : PySem.W.Frag} {mg : Str → Option Value} {base : Heap} {j k : Nat} {x : Str} {S : DSpec} (F : Fd P w K mg base j x S) (h : j ≤ k) : Fd P w K mg base k x S := F.imp h fun _ _ z => z
theorem upK {P : Program} {w : World} {K : PySem.W.Frag} {mg : Str → Option Value} {base : Heap} {j k : Nat} {x : Str} {st : Stmt} {ps : List Str} {kws : List (Str × V)} {S : DSpec} (F : FdK P w K mg base j x st ps kws S) (h : j ≤ k) : FdK P w K mg base k x st ps kws S := F.imp h
theorem upPen {P : Program} {w : World} {K : PySem.W.Frag} {mg : Str → Option Value} {base : Heap} {j k : Nat} {x : Str} (F : FnPen P w K mg base j x) (h : j ≤ k) : FnPen P w K mg base k x := by
  obtain ⟨f, fd, ps, F, r⟩ := F
  exact ⟨f, fd, ps, F.mono h, r⟩
theorem okL {P : Program} {w : World} {K : PySem.W.Frag} {mg : Str → Option Value} {base : Heap} {k : Nat} {f : Addr} {fd : FuncData} (F : FnP K "law" s_law f fd)
    (walk : ∀ (cdv : Value) (A : Around) (outer : List PySem.Env) (s : Shared) (H : Hp) (E : XK), Room k (A.deeper (envOfC "law" (defScope s_law) s.heap.objs.size f cdv)) → PDB (cxOf CX0 P w K mg base ["_law_script", "_law_pen_here", "_law_folk_here", "_law_marks", "_law_far", "_law_others", "_law_size_in", "_law_x", "_law_y", "_law_later", "_law_here", "_law_there", "_law_one", "_law_two", "_law_both", "_law_told", "_law_name", "_law_row"] "law" (defScope s_law) f cdv A outer s H E).nox (defBody s_law) t_law) : FnOk P w K mg base CX0 (k + 1) f fd ["_law_script"] (liftF K S_law) := by
  refine F.ok sc_law (fun vs H Q E h => ?_) (fun cdv A outer s H vs Q E hr h => ⟨liftS K t_law, PSs.nox (walk cdv A outer s H E hr), def_body p_law h⟩)
  obtain ⟨P', M, ds, Q0, s, r, pf, q, _⟩ := h
  rw [r.len]
  exact (p_law _ _ q).1
theorem entry_law {K : PySem.W.Frag} {H : Hp} {a : Addr} {ns : List Int} (hT : ∀ p ∈ Tb.T, TabF H p.1 p.2) (hl : ns.length ≤ 63) (hS : SqL K H a (ns.map V.int)) {E : XK} : liftF K S_law [.ref a] H (fun v _ => v = .bl true) E := by
  refine ⟨[], [], [.lst .f (ns.map D.int)], fun d => d = .bl true, ⟨fun a l h => (nomatch h), fun _ z => z, fun _ z => (nomatch z), hT⟩, ?_, ?_, ⟨ns, rfl, hl, rfl⟩, fun v H' r => ?_⟩
  · have r0 : Rep K [] [] [] H (.ref a) (.lst .f (ns.map D.int)) [] := .lstF (hS.elim (fun h => .inl ⟨h, fun z => (nomatch z)⟩) .inr) (ints_reps ns) (pfs_of _ fun x hx => by
      obtain ⟨i, _, rfl⟩ := List.mem_map.mp hx
      rfl)
    have := Reps.cons r0 .nil
    simpa using this
  · show ((true && D.pfs (ns.map D.int)) && true) = true
    rw [pfs_of _ fun x hx => by
      obtain ⟨i, _, rfl⟩ := List.mem_map.mp hx
      rfl]
    rfl
  · obtain ⟨d, L, rfl, _, _, r, _⟩ := r
    exact r.bl_inv.1
theorem facts {P : Program} {w : World} {K : PySem.W.Frag} {h : Heap} {mg : Str → Option Value} {f : Addr} (X : K.In h) (G : h.Ns mainGlobals mg) (hfa : mg ("law" : Str) = some (.ref f)) (c : He.SaysD fa fn K) (hT : Tb.T = tabsOf K tf) (nd : tabsNd tf K = true) :
    ∃ fd : FuncData, (∀ (s : Shared) (v : Value), BindsTo s fd ⟨[v], []⟩ [("_law_script", v)]) ∧ ∀ base : Heap, K.In base → base.Ns mainGlobals mg → (∀ p ∈ tf, LamX.TabB base mg (He.cT K p).1 (He.cT K p).2) → FnOk P w K mg base CX0 7 f fd ["_law_script"] (liftF K S_law) := by
  obtain ⟨fd_is_name, F_is_name⟩ := c.def_ 0 (d := d_is_name) rfl
  have q_is_name := He.glo_ok X G (c.fact 0 (f := .glo "is_name") rfl)
  obtain ⟨fd_need_symbols, F_need_symbols⟩ := c.def_ 1 (d := d_need_symbols) rfl
  have q_need_symbols := He.glo_ok X G (c.fact 1 (f := .glo "need_symbols") rfl)
  obtain ⟨fd_need_size, F_need_size⟩ := c.def_ 2 (d := d_need_size) rfl
  have q_need_size := He.glo_ok X G (c.fact 2 (f := .glo "need_size") rfl)
  obtain ⟨fd_ordered, F_ordered⟩ := c.def_ 3 (d := d_ordered) rfl
  have q_ordered := He.glo_ok X G (c.fact 3 (f := .glo "ordered") rfl)
  obtain ⟨fd_room_for, F_room_for⟩ := c.def_ 4 (d := d_room_for) rfl
  have q_room_for := He.glo_ok X G (c.fact 4 (f := .glo "room_for") rfl)
  obtain ⟨fd_chains_to, F_chains_to⟩ := c.def_ 5 (d := d_chains_to) rfl
  have q_chains_to := He.glo_ok X G (c.fact 5 (f := .glo "chains_to") rfl)
  obtain ⟨fd_greatest_of, F_greatest_of⟩ := c.def_ 6 (d := d_greatest_of) rfl
  have q_greatest_of := He.glo_ok X G (c.fact 6 (f := .glo "greatest_of") rfl)
  obtain ⟨fd_worst_chain, F_worst_chain⟩ := c.def_ 7 (d := d_worst_chain) rfl
  have q_worst_chain := He.glo_ok X G (c.fact 7 (f := .glo "worst_chain") rfl)
  obtain ⟨fd_least_of, F_least_of⟩ := c.def_ 8 (d := d_least_of) rfl
  have q_least_of := He.glo_ok X G (c.fact 8 (f := .glo "least_of") rfl)
  obtain ⟨fd_least_move, F_least_move⟩ := c.def_ 9 (d := d_least_move) rfl
  have q_least_move := He.glo_ok X G (c.fact 9 (f := .glo "least_move") rfl)
  obtain ⟨fd_apart_of, F_apart_of⟩ := c.def_ 10 (d := d_apart_of) rfl
  have q_apart_of := He.glo_ok X G (c.fact 10 (f := .glo "apart_of") rfl)
  obtain ⟨fd_apart, F_apart⟩ := c.def_ 11 (d := d_apart) rfl
  have q_apart := He.glo_ok X G (c.fact 11 (f := .glo "apart") rfl)
  obtain ⟨fd_chain, F_chain⟩ := c.def_ 12 (d := d_chain) rfl
  have q_chain := He.glo_ok X G (c.fact 12 (f := .glo "chain") rfl)
  obtain ⟨fd__law_pen, F__law_pen⟩ := c.def_ 13 (d := d__law_pen) rfl
  have q__law_pen := He.glo_ok X G (c.fact 13 (f := .glo "_law_pen") rfl)
  obtain ⟨fd__law_pick, F__law_pick⟩ := c.def_ 14 (d := d__law_pick) rfl
  have q__law_pick := He.glo_ok X G (c.fact 14 (f := .glo "_law_pick") rfl)
  obtain ⟨fd__law_shuffled, F__law_shuffled⟩ := c.def_ 15 (d := d__law_shuffled) rfl
  have q__law_shuffled := He.glo_ok X G (c.fact 15 (f := .glo "_law_shuffled") rfl)
  obtain ⟨fd__law_folk, F__law_folk⟩ := c.def_ 16 (d := d__law_folk) rfl
  have q__law_folk := He.glo_ok X G (c.fact 16 (f := .glo "_law_folk") rfl)
  obtain ⟨fd_law, F_law⟩ := c.def_ 17 (d := d_law) rfl
  have q_law := He.glo_ok X G (c.fact 17 (f := .glo "law") rfl)
  have m_len := He.free_ok X G (c.fact 18 (f := .free "len") rfl)
  have m_list := He.free_ok X G (c.fact 19 (f := .free "list") rfl)
  have m_all := He.free_ok X G (c.fact 20 (f := .free "all") rfl)
  have m_set := He.free_ok X G (c.fact 21 (f := .free "set") rfl)
  have m_sorted := He.free_ok X G (c.fact 22 (f := .free "sorted") rfl)
  have m_abs := He.free_ok X G (c.fact 23 (f := .free "abs") rfl)
  have m_enumerate := He.free_ok X G (c.fact 24 (f := .free "enumerate") rfl)
  have m_max := He.free_ok X G (c.fact 25 (f := .free "max") rfl)
  have m_min := He.free_ok X G (c.fact 26 (f := .free "min") rfl)
  have m_range := He.free_ok X G (c.fact 27 (f := .free "range") rfl)
  have g_MOST_NAME := He.int_ok X G (c.fact 28 (f := .int "MOST_NAME" (8)) rfl)
  have g_LETTERS := He.str_ok X G (c.fact 29 (f := .str "LETTERS" "abcdefghijklmnopqrstuvwxyz") rfl)
  have g_MOST_SYMBOLS := He.int_ok X G (c.fact 30 (f := .int "MOST_SYMBOLS" (8)) rfl)
  have g_MOST_SIZE := He.int_ok X G (c.fact 31 (f := .int "MOST_SIZE" (8)) rfl)
  have e := hfa.symm.trans q_law
  cases e
  have b := FunD.bindsA (ps := ["_law_script"]) F_law fun _ _ _ _ _ _ us hl => match us, hl with | [_], _ => rfl
  refine ⟨fd_law, fun s v => b s [v] rfl, fun base _ _ TBs => ?_⟩
  have l_ordered : LamF K base mg _ "ordered" := lamF_of F_ordered hT (p := ("ordered", none)) (List.mem_cons_self ..) rfl nd TBs
  have l_greatest_of : LamF K base mg _ "greatest_of" := lamF_of F_greatest_of hT (p := ("greatest_of", none)) (List.mem_cons_of_mem _ (List.mem_cons_self ..)) rfl nd TBs
  have k__law_pick : Fd P w K mg base 1 "_law_pick" S__law_pick := ok__law_pick m_len F__law_pick q__law_pick
  have k__law_pen : FnPen P w K mg base 6 "_law_pen" := upPen (ok__law_pen (k := 0) m_len m_list F__law_pen q__law_pen) (by decide)
  have k_is_name : Fd P w K mg base 1 "is_name" S_is_name := ok_is_name m_len m_all g_MOST_NAME g_LETTERS F_is_name q_is_name (p_is_name_of c_is_name)
  have k_need_size : Fd P w K mg base 1 "need_size" S_need_size := ok_need_size g_MOST_SIZE F_need_size q_need_size (p_need_size_of c_need_size)
  have k_ordered : Fd P w K mg base 1 "ordered" S_ordered := ok_ordered m_sorted F_ordered q_ordered l_ordered (p_ordered_of c_ordered)
  have k_room_for : Fd P w K mg base 1 "room_for" S_room_for := ok_room_for m_abs F_room_for q_room_for (p_room_for_of c_room_for)
  have k_greatest_of : Fd P w K mg base 1 "greatest_of" S_greatest_of := ok_greatest_of m_max m_min m_len F_greatest_of q_greatest_of l_greatest_of (p_greatest_of_of c_greatest_of)
  have k_need_symbols : Fd P w K mg base 2 "need_symbols" S_need_symbols := ok_need_symbols m_len m_set m_all g_MOST_SYMBOLS (up k_is_name (by decide)) F_need_symbols q_need_symbols (p_need_symbols_of c_need_symbols)
  have k_chains_to : Fd P w K mg base 2 "chains_to" S_chains_to := ok_chains_to m_enumerate (up k_room_for (by decide)) (up k_greatest_of (by decide)) F_chains_to q_chains_to (p_chains_to_of c_chains_to)
  have k__law_shuffled : Fd P w K mg base 2 "_law_shuffled" S__law_shuffled := ok__law_shuffled m_list m_range m_len (up k__law_pick (by decide)) F__law_shuffled q__law_shuffled (p__law_shuffled_of c__law_shuffled)
  have k__law_folk : Fd P w K mg base 2 "_law_folk" S__law_folk := ok__law_folk m_len m_range (up k__law_pick (by decide)) F__law_folk q__law_folk (p__law_folk_of c__law_folk)
  have k_worst_chain : Fd P w K mg base 3 "worst_chain" S_worst_chain := ok_worst_chain (up k_greatest_of (by decide)) (up k_chains_to (by decide)) (up k_ordered (by decide)) F_worst_chain q_worst_chain (p_worst_chain_of c_worst_chain)
  have k_least_of : Fd P w K mg base 4 "least_of" S_least_of := ok_least_of (up k_worst_chain (by decide)) F_least_of q_least_of (p_least_of_of c_least_of)
  have k_chain : FdK P w K mg base 4 "chain" s_chain ["symbols", "size"] [("size", V.int (2))] S_chain := ok_chain (up k_need_symbols (by decide)) (up k_need_size (by decide)) (up k_worst_chain (by decide)) F_chain q_chain (p_chain_of c_chain)
  have k_least_move : FdK P w K mg base 5 "least_move" s_least_move ["symbols", "size"] [("size", V.int (2))] S_least_move := ok_least_move (up k_need_symbols (by decide)) (up k_need_size (by decide)) (up k_least_of (by decide)) F_least_move q_least_move (p_least_move_of c_least_move)
  have k_apart_of : Fd P w K mg base 5 "apart_of" S_apart_of := ok_apart_of m_max (up k_least_of (by decide)) (up k_ordered (by decide)) (up k_room_for (by decide)) F_apart_of q_apart_of (p_apart_of_of c_apart_of)
  have k_apart : FdK P w K mg base 6 "apart" s_apart ["symbols", "size"] [("size", V.int (2))] S_apart := ok_apart (up k_need_symbols (by decide)) (up k_need_size (by decide)) (up k_apart_of (by decide)) F_apart q_apart (p_apart_of c_apart)
  exact okL F_law fun cdv A outer s H E hr => w_law m_sorted m_max m_len (up k__law_folk (by decide)) (up k__law_pick (by decide)) (upK k_apart (by decide)) (upK k_chain (by decide)) (upK k_least_move (by decide)) (up k__law_shuffled (by decide)) k__law_pen cdv A outer s H E hr
end DL
open PySem PySem.W PySem.Calls PyProof.Rows
theorem PySem.Challenge.cw_scalesheet_k28_whole_symbols_elsewhere_holds : PySem.Challenge.rw_scalesheet_k28_whole_symbols_elsewhere.Holds := by
  w_on; o_law
  refine HandSHeadRun.head_any (r := OpenLaw.row PySem.Challenge.rw_scalesheet_k28_whole_symbols_elsewhere) (q := view (OpenLaw.row PySem.Challenge.rw_scalesheet_k28_whole_symbols_elsewhere).prog [29]) (H := DL.hk) (ob := DL.ob) (M := 20000) (loose := DL.loose) (d := HandSHeadRun.topDef (OpenLaw.row PySem.Challenge.rw_scalesheet_k28_whole_symbols_elsewhere).prog 29) (kwd := []) DL.ob_eq
    (by kernel_rfl) (fun s => by kernel_rfl) DL.run (by kernel_rfl) (by kernel_rfl) (by kernel_rfl) (by rfl) (by first | assumption | decide +kernel) (by decide +kernel) ⟨rfl, rfl, rfl, rfl, rfl, by decide +kernel⟩ ?hw ?hc
  case hw => w_witness2
  case hc =>
    refine LamX.walk_ofTsE (l := PySem.Challenge.rw_scalesheet_k28_whole_symbols_elsewhere) (n := 63) (k := 7) (x := "_law_script") (CX := fun _ => L2.CX0) rfl (by decide) (by kernel_rfl) ⟨rfl, by decide, by decide⟩ ?F (fun _ _ _ _ _ z => z)
    intro w mg fa h Y G hmg0
    obtain ⟨K, KX, c⟩ := Y
    have hmg : mg ("law" : PySem.Str) = some (.ref fa) := by
      have e : (HandSHeadRun.topDef (OpenLaw.row PySem.Challenge.rw_scalesheet_k28_whole_symbols_elsewhere).prog 29).name = ("law" : PySem.Str) := by kernel_rfl
      rw [← e]
      exact hmg0
    letI : DL.Tb := ⟨DL.tabsOf K DL.tf⟩
    obtain ⟨fd, hb, hF⟩ := DL.facts (P := (PySem.Challenge.rw_scalesheet_k28_whole_symbols_elsewhere).prog) (w := w) KX G hmg c.t.d rfl c.more
    refine ⟨K, KX, fd, DL.tf.map (He.cT K), DL.liftF K DL.S_law, fun p hp => ?_, fun p hp => ?_, fun p hp => ?_, hb, fun H a ns hl _ hH hS => DL.entry_law (DL.tabs_all hH) hl hS, fun base KB NB TB => hF base KB NB fun p hp => TB _ (List.mem_map.mpr ⟨p, hp, rfl⟩)⟩
    · obtain ⟨r, hr, rfl⟩ := List.mem_map.mp hp
      exact c.empty r hr
    · obtain ⟨r, hr, rfl⟩ := List.mem_map.mp hp
      exact c.out r hr
    · obtain ⟨r, hr, rfl⟩ := List.mem_map.mp hp
      exact PySem.W.codeHd_of_K KX (c.hd r hr)
