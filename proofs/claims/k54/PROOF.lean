import PyProof.Rows.All
import HandS.ForMost
import HandS.Exc
import HandS.TryMany
import HandS.TryOnly
import HandS.ExcOwn
import HandS.IsInst
import HandS.Deep
import HandS.Wide
import HandS.TupAny
import HandS.TupMul
import HandS.Lambda
import HandS.EndTab
import HandS.Dict
import KE.KDictKeyed
import HandS.Zip
import KE.GoesMore
import KE.GoesZip
import KE.GoesEnum
import HandS.WordsExc
import HandS.ExcIs
import HandS.ExcField
import HandS.Ends
import HandS.Style
import HandS.Conv
import HandS.ExcInit
import KE.KNest
import KE.KNestM
import PyProof.AssignAttr
import PyProof.FactsTree
import PyProof.AutoIntG4
import HandS.Strs
import HandS.SetFor
import HandS.SortKw
import KE.DataMinMax
import KE.DataAny
import KE.DataEq
import HandS.SetBool
import HandS.CallLocal
import Wide.All
import OpenK.AllK
import Wide.FinOn
import PySem.Challenge.RW_palewalk_k54_whole_marks_unlooked_at
set_option Elab.async false
set_option linter.all false
set_option maxRecDepth 100000
set_option maxHeartbeats 4000000
/-! AV: values without the heap, slots, and what must hold so that code runs (over HandS). -/
namespace AV
open PySem PySem.Spec PyProof.Rows L2

/-- a value as data -/
inductive D where
  | non | bl (b : Bool) | int (i : Int) | str (x : Str)
  | tup (ds : List D) | lst (ds : List D) | edic
  /-- a dict: its keys (all ints, or all tuples), its values -/
  | dic (ks ds : List D)
  /-- the script -/
  | scr (ns : List Int)
  | ins (C : Addr) (ns : List Str) (ds : List D)

abbrev GS := Addr → Prop
/-- the tables of code objects that lambdas write at, and by what name; the program, the world -/
class TabC where
  T : List (Addr × Str)
  w : World
def isT [tt : TabC] (b : Addr) : Prop := ∃ q, (b, q) ∈ tt.T
variable [TabC]
mutual
/-- a key of nested tuples -/
def nkD : D → NestedKey
  | .int i => .num i
  | .bl b => .num (if b then 1 else 0)
  | .str x => .text x
  | .tup ds => .tup (nkDs ds)
  | _ => .none
def nkDs : List D → List NestedKey
  | [] => []
  | d :: ds => nkD d :: nkDs ds
end
mutual
/-- .. of a depth below n -/
def okK : Nat → D → Bool
  | _, .non => true
  | _, .bl _ => true
  | _, .int _ => true
  | _, .str _ => true
  | n + 1, .tup ds => okKs n ds
  | _, _ => false
def okKs : Nat → List D → Bool
  | _, [] => true
  | n, d :: ds => okK n d && okKs n ds
end
def isTup : D → Bool
  | .tup _ => true
  | _ => false
/-- the dict at a with tuple keys: its own object -/
def DicO [tt : TabC] (a : Addr) (ks : List NestedKey) (as : List Addr) (vs : List V) : HO := .ext fun h =>
  ∃ (us : List Value) (o : Obj) (es : Array DictEntry) (ep : Nat), Vals vs us ∧ h.get? a = some o ∧ o.ExactDict ∧ o.data = .dict es ep ∧ es.toList = (ks.zip (as.zip us)).map fun x => ⟨x.1.hash tt.w, .ref x.2.1, x.2.2⟩

/-- a list of the written part -/
def KsL (K : PySem.W.Frag) (a : Addr) (xs : List V) : Prop := ∃ (o : Obj) (its : Array Value) (n : Nat), K.lookup a = some o ∧ o.cls = .type "list" ∧ o.dict = none ∧ o.data = .seq its n ∧ its.size ≤ sizeLine ∧ Vals xs its.toList
def ScrAt (K : PySem.W.Frag) (G : GS) (H : Hp) (a : Addr) (xs : List V) : Prop := (G a ∧ Rd H a (.lst xs)) ∨ KsL K a xs
theorem ScrAt.sq {K : PySem.W.Frag} {G : GS} {H : Hp} {a : Addr} {xs : List V} (h : ScrAt K G H a xs) : SqL K H a xs := h.imp (fun z => z.2) id
/-- the dict's object -/
def DicH (H : Hp) (a : Addr) (ks ds : List D) (xs vs : List V) : Prop := ks.length = ds.length ∧ ks.length ≤ sizeLine ∧
  ((∃ is : List Int, ks = is.map .int ∧ is.Nodup ∧ H a = some (.dK ((is.map fun i => (Sum.inl i : Key)).zip vs))) ∨
   (∃ as : List Addr, xs = as.map .ref ∧ ks.all isTup = true ∧ okKs 8 ks = true ∧ (nkDs ks).Nodup ∧ (a == sysModules) = false ∧ H a = some (DicO a (nkDs ks) as vs)))
theorem DicH.keep {H H' : Hp} {a : Addr} {ks ds : List D} {xs vs : List V} (h : DicH H a ks ds xs vs) (k : ∀ o, H a = some o → (∀ ps, o ≠ .tbl ps) → H' a = some o) : DicH H' a ks ds xs vs := by
  obtain ⟨l1, l2, h⟩ := h
  refine ⟨l1, l2, ?_⟩
  rcases h with ⟨is, e1, e2, e3⟩ | ⟨as, e1, e2, e3, e4, e5, e6⟩
  · exact .inl ⟨is, e1, e2, k _ e3 fun ps z => by cases z⟩
  · exact .inr ⟨as, e1, e2, e3, e4, e5, k _ e6 fun ps z => by cases z⟩
theorem DicH.there {H : Hp} {a : Addr} {ks ds : List D} {xs vs : List V} (h : DicH H a ks ds xs vs) : ∃ o, H a = some o ∧ (∀ ps, o ≠ .tbl ps) ∧ (∀ ys, o ≠ .tup ys) ∧ ∀ b u, o ≠ .frz b u := by
  obtain ⟨l1, l2, h⟩ := h
  rcases h with ⟨is, e1, e2, e3⟩ | ⟨as, e1, e2, e3, e4, e5, e6⟩
  · exact ⟨_, e3, (fun _ z => by cases z), (fun _ z => by cases z), (fun _ _ z => by cases z)⟩
  · exact ⟨_, e6, (fun _ z => by unfold DicO at z; cases z), (fun _ z => by unfold DicO at z; cases z), (fun _ _ z => by unfold DicO at z; cases z)⟩
mutual
/-- v is d; G: the addresses of lists, instances that nobody changes here -/
def Rep (K : PySem.W.Frag) (G : GS) (H : Hp) : D → V → Prop
  | .non, v => v = .non
  | .bl b, v => v = .bl b
  | .int i, v => v = .int i
  | .str x, v => v = .str x
  | .tup ds, v => ∃ a xs, v = .ref a ∧ SqT K H a xs ∧ Reps K G H ds xs
  | .lst ds, v => ∃ a xs, v = .ref a ∧ G a ∧ H a = some (.lst xs) ∧ Reps K G H ds xs
  | .edic, v => ∃ a, v = .ref a ∧ G a ∧ H a = some (.dK [])
  | .dic ks ds, v => ∃ a xs vs, v = .ref a ∧ G a ∧ Reps K G H ks xs ∧ Reps K G H ds vs ∧ DicH H a ks ds xs vs
  | .scr ns, v => ∃ a, v = .ref a ∧ ScrAt K G H a (ns.map V.int)
  | .ins C ns ds, v => ∃ a dx xs, v = .ref a ∧ G a ∧ H a = some (.ins C dx (ns.zip xs)) ∧ Reps K G H ds xs
def Reps (K : PySem.W.Frag) (G : GS) (H : Hp) : List D → List V → Prop
  | [], xs => xs = []
  | d :: ds, xs => ∃ v vs, xs = v :: vs ∧ Rep K G H d v ∧ Reps K G H ds vs
end

structure Stab (G : GS) (H H' : Hp) : Prop where
  tup : ∀ b xs, H b = some (.tup xs) → H' b = some (.tup xs)
  frz : ∀ b o u, H b = some (.frz o u) → H' b = some (.frz o u)
  g : ∀ b, G b → H' b = H b
theorem Stab.refl {G : GS} {H : Hp} : Stab G H H := ⟨fun _ _ h => h, fun _ _ _ h => h, fun _ _ => rfl⟩
theorem Stab.trans {G G' : GS} {H H1 H2 : Hp} (a : Stab G H H1) (b : Stab G' H1 H2) (h : ∀ b, G b → G' b) : Stab G H H2 :=
  ⟨fun c xs q => b.tup c xs (a.tup c xs q), fun c o u q => b.frz c o u (a.frz c o u q), fun c q => (b.g c (h c q)).trans (a.g c q)⟩

section
variable {K : PySem.W.Frag} {G G' : GS} {H H' : Hp}
theorem sqT_stab (s : Stab G H H') {a : Addr} {xs : List V} (h : SqT K H a xs) : SqT K H' a xs := by
  rcases h with (h | ⟨o, h⟩) | h
  · exact .inl (.inl (s.tup _ _ h))
  · exact .inl (.inr ⟨o, s.frz _ _ _ h⟩)
  · exact .inr h
theorem sqL_stab (s : Stab G H H') {a : Addr} {xs : List V} (g : G a) (h : SqL K H a xs) : SqL K H' a xs := by
  rcases h with (h | ⟨o, h⟩) | h
  · exact .inl (.inl ((s.g _ g).trans h))
  · exact .inl (.inr ⟨o, s.frz _ _ _ h⟩)
  · exact .inr h
mutual
theorem Rep.stab (s : Stab G H H') (hg : ∀ b, G b → G' b) : ∀ (d : D) (v : V), Rep K G H d v → Rep K G' H' d v
  | .non, v, h => h
  | .bl b, v, h => h
  | .int i, v, h => h
  | .str x, v, h => h
  | .tup ds, v, h => by
    obtain ⟨a, xs, e, q, r⟩ := h
    exact ⟨a, xs, e, sqT_stab s q, Reps.stab s hg ds xs r⟩
  | .lst ds, v, h => by
    obtain ⟨a, xs, e, g, q, r⟩ := h
    exact ⟨a, xs, e, hg a g, (s.g a g).trans q, Reps.stab s hg ds xs r⟩
  | .edic, v, h => by
    obtain ⟨a, e, g, q⟩ := h
    exact ⟨a, e, hg a g, (s.g a g).trans q⟩
  | .dic ks ds, v, h => by
    obtain ⟨a, xs, vs, e, g, r1, r2, q⟩ := h
    exact ⟨a, xs, vs, e, hg a g, Reps.stab s hg ks xs r1, Reps.stab s hg ds vs r2, q.keep fun o e _ => (s.g a g).trans e⟩
  | .scr ns, v, h => by
    obtain ⟨a, e, q⟩ := h
    refine ⟨a, e, ?_⟩
    rcases q with ⟨g, q⟩ | q
    · refine .inl ⟨hg a g, ?_⟩
      unfold Rd at q ⊢
      rw [s.g a g]; exact q
    · exact .inr q
  | .ins C ns ds, v, h => by
    obtain ⟨a, dx, xs, e, g, q, r⟩ := h
    exact ⟨a, dx, xs, e, hg a g, (s.g a g).trans q, Reps.stab s hg ds xs r⟩
theorem Reps.stab (s : Stab G H H') (hg : ∀ b, G b → G' b) : ∀ (ds : List D) (xs : List V), Reps K G H ds xs → Reps K G' H' ds xs
  | [], xs, h => h
  | d :: ds, xs, h => by
    obtain ⟨v, vs, e, r, rs⟩ := h
    exact ⟨v, vs, e, Rep.stab s hg d v r, Reps.stab s hg ds vs rs⟩
end
theorem Reps.length : ∀ {ds : List D} {xs : List V}, Reps K G H ds xs → xs.length = ds.length
  | [], _, h => by cases h; rfl
  | d :: ds, _, h => by
    obtain ⟨v, vs, rfl, _, rs⟩ := h
    simp [Reps.length rs]
theorem Reps.get : ∀ {ds : List D} {xs : List V} {i : Nat} {d : D}, Reps K G H ds xs → ds[i]? = some d → ∃ v, xs[i]? = some v ∧ Rep K G H d v
  | [], _, _, _, _, e => by simp at e
  | d :: ds, _, 0, _, h, e => by
    obtain ⟨v, vs, rfl, r, rs⟩ := h
    simp at e; subst e
    exact ⟨v, rfl, r⟩
  | d :: ds, _, i + 1, _, h, e => by
    obtain ⟨v, vs, rfl, r, rs⟩ := h
    obtain ⟨w, e1, r1⟩ := Reps.get (i := i) rs (by simpa using e)
    exact ⟨w, by simpa using e1, r1⟩
theorem Reps.get' : ∀ {ds : List D} {xs : List V} {i : Nat} {v : V}, Reps K G H ds xs → xs[i]? = some v → ∃ d, ds[i]? = some d ∧ Rep K G H d v
  | [], _, _, _, h, e => by cases h; simp at e
  | d :: ds, _, 0, _, h, e => by
    obtain ⟨v, vs, rfl, r, rs⟩ := h
    simp at e; subst e
    exact ⟨d, rfl, r⟩
  | d :: ds, _, i + 1, _, h, e => by
    obtain ⟨v, vs, rfl, r, rs⟩ := h
    obtain ⟨w, e1, r1⟩ := Reps.get' (i := i) rs (by simpa using e)
    exact ⟨w, by simpa using e1, r1⟩
theorem Reps.append : ∀ {ds es : List D} {xs ys : List V}, Reps K G H ds xs → Reps K G H es ys → Reps K G H (ds ++ es) (xs ++ ys)
  | [], es, _, ys, h, h' => by cases h; exact h'
  | d :: ds, es, _, ys, h, h' => by
    obtain ⟨v, vs, rfl, r, rs⟩ := h
    exact ⟨v, vs ++ ys, rfl, r, rs.append h'⟩
theorem Reps.drop : ∀ {ds : List D} {xs : List V} (n : Nat), Reps K G H ds xs → Reps K G H (ds.drop n) (xs.drop n)
  | _, _, 0, h => h
  | [], _, n + 1, h => by cases h; exact rfl
  | d :: ds, _, n + 1, h => by
    obtain ⟨v, vs, rfl, r, rs⟩ := h
    exact rs.drop n
theorem Reps.take : ∀ {ds : List D} {xs : List V} (n : Nat), Reps K G H ds xs → Reps K G H (ds.take n) (xs.take n)
  | _, _, 0, h => by simp; exact rfl
  | [], _, n + 1, h => by cases h; exact rfl
  | d :: ds, _, n + 1, h => by
    obtain ⟨v, vs, rfl, r, rs⟩ := h
    exact ⟨v, vs.take n, rfl, r, rs.take n⟩
theorem Reps.reverse {ds : List D} {xs : List V} (h : Reps K G H ds xs) : Reps K G H ds.reverse xs.reverse := by
  induction ds generalizing xs with
  | nil => cases h; exact rfl
  | cons d ds ih =>
    obtain ⟨v, vs, rfl, r, rs⟩ := h
    rw [List.reverse_cons, List.reverse_cons]
    exact (ih rs).append ⟨v, [], rfl, r, rfl⟩
theorem Reps.set : ∀ {ds : List D} {xs : List V} {d : D} {v : V} (i : Nat), Rep K G H d v → Reps K G H ds xs → Reps K G H (ds.set i d) (xs.set i v)
  | [], _, _, _, _, _, h => by cases h; exact rfl
  | e :: ds, _, d, v, 0, q, h => by
    obtain ⟨w, vs, rfl, r, rs⟩ := h
    exact ⟨v, vs, rfl, q, rs⟩
  | e :: ds, _, d, v, i + 1, q, h => by
    obtain ⟨w, vs, rfl, r, rs⟩ := h
    exact ⟨w, vs.set i v, rfl, r, rs.set i q⟩
theorem Reps.rep {ds : List D} {xs : List V} (h : Reps K G H ds xs) : ∀ k : Nat, Reps K G H (List.replicate k ds).flatten (List.replicate k xs).flatten
  | 0 => by simp; exact rfl
  | k + 1 => by
    rw [List.replicate_succ, List.replicate_succ, List.flatten_cons, List.flatten_cons]
    exact h.append (h.rep k)
theorem Reps.one {d : D} {v : V} (h : Rep K G H d v) : Reps K G H [d] [v] := ⟨v, [], rfl, h, rfl⟩
theorem Reps.ints {ns : List Int} : ∀ {xs : List V}, Reps K G H (ns.map D.int) xs → xs = ns.map V.int := by
  induction ns with
  | nil => intro xs h; exact h
  | cons n ns ih =>
    intro xs h
    obtain ⟨v, vs, rfl, r, rs⟩ := h
    have r : v = .int n := r
    rw [r, ih rs]; rfl
theorem Reps.of_ints {ns : List Int} : Reps K G H (ns.map D.int) (ns.map V.int) := by
  induction ns with
  | nil => exact rfl
  | cons n ns ih => exact ⟨_, _, rfl, rfl, ih⟩
end

/-! ### slots -/
/-- an exception: its class, its fields -/
structure EX where
  C : Addr
  ns : List Str
  ds : List D
inductive ExRep (K : PySem.W.Frag) (G : GS) (H : Hp) : EX → Value → Option Addr → Prop
  | bare {C : Addr} : ExRep K G H ⟨C, [], []⟩ (.ref C) none
  | with {C d : Addr} {ns : List Str} {ds : List D} {xs : List V} : ns ≠ [] → G d → H d = some (.xd (ns.zip xs)) → ns.length = xs.length → Reps K G H ds xs → ExRep K G H ⟨C, ns, ds⟩ (.ref C) (some d)
theorem ExRep.stab {K : PySem.W.Frag} {G G' : GS} {H H' : Hp} (s : Stab G H H') (hg : ∀ b, G b → G' b) {ex : EX} {c : Value} {d : Option Addr} (h : ExRep K G H ex c d) : ExRep K G' H' ex c d := by
  cases h with
  | bare => exact .bare
  | «with» n g e l r => exact .with n (hg _ g) ((s.g _ g).trans e) l (Reps.stab s hg _ _ r)
theorem ExRep.dn {K : PySem.W.Frag} {G : GS} {H : Hp} {ex : EX} {c : Value} {d : Option Addr} (h : ExRep K G H ex c d) : ex.ns = [] → d = none := fun e => by
  cases h with
  | bare => rfl
  | «with» n _ _ _ _ => exact (n e).elim
inductive Slot where
  | un
  | val (d : D)
  /-- a list of the def's own, which it changes -/
  | own (oa : Option Addr) (ds : List D)
  /-- the state of draws -/
  | stt
  /-- an instance in the making, the def's own -/
  | slf (b C : Addr) (ns : List Str) (ds : List D)
  /-- a dict of the def's own -/
  | dow (ks ds : List D)
  /-- a lambda handed in: its code object at c', of this name -/
  | clo (f c' : Addr) (q : Str) (Gl : GS) (Hl : Hp)
  /-- the exception at a, in an except suite -/
  | exc (ex : EX) (a : Addr) (d : Option Addr)
abbrev Rho := List Slot
def gt : Rho → Nat → Slot
  | [], _ => .un
  | s :: _, 0 => s
  | _ :: r, n + 1 => gt r n
def sv (σ : L2.St) (i : Nat) : Option V := (σ[i]?).getD none
theorem sv_some {σ : L2.St} {i : Nat} {v : V} : sv σ i = some v ↔ σ[i]? = some (some v) := by
  unfold sv
  cases h : σ[i]? with
  | none => simp
  | some o => simp
theorem sv_set {σ : L2.St} {i j : Nat} {o : Option V} : sv (σ.set i o) j = if j = i ∧ i < σ.length then o else sv σ j := by
  unfold sv
  by_cases h : i = j
  · subst h
    by_cases hl : i < σ.length
    · rw [List.getElem?_set_self hl, if_pos ⟨rfl, hl⟩]; rfl
    · rw [if_neg (fun z => hl z.2), List.getElem?_eq_none (by simpa using hl), List.getElem?_eq_none (by simpa using hl)]
  · rw [List.getElem?_set_ne h, if_neg (fun z => h z.1.symm)]
theorem gt_set : ∀ {ρ : Rho} {i j : Nat} {s : Slot}, gt (ρ.set i s) j = if j = i ∧ i < ρ.length then s else gt ρ j
  | [], i, j, s => by simp [gt]
  | a :: r, 0, 0, s => by simp [gt]
  | a :: r, 0, j + 1, s => by simp [gt]
  | a :: r, i + 1, 0, s => by simp [gt]
  | a :: r, i + 1, j + 1, s => by
    have := gt_set (ρ := r) (i := i) (j := j) (s := s)
    simp only [List.set_cons_succ, gt, this, List.length_cons, Nat.add_lt_add_iff_right, Nat.add_right_cancel_iff]
theorem gt_out {ρ : Rho} {i : Nat} (h : ρ.length ≤ i) : gt ρ i = .un := by
  induction ρ generalizing i with
  | nil => rfl
  | cons a r ih =>
    cases i with
    | zero => simp at h
    | succ i => exact ih (by simpa using h)

/-- the state of draws: before the first one, after -/
def StOk (xs : List V) : Prop :=
  (∃ n : Int, xs = [.int n]) ∨ ∃ a b c : Int, xs = [.int a, .int b, .int c] ∧ 0 ≤ b ∧ b < 2147483647 ∧ 0 ≤ c

structure Fr where
  H0 : Hp
  st0 : Option Addr
  G0 : GS
  /-- a point passed: what was of Gb then stands -/
  Hb : Hp
  Gb : GS
  /-- lists in the making, which nobody else sees -/
  Pv : GS
  hs : ∀ a, st0 = some a → H0 a ≠ none
  ht : ∀ b, isT b → H0 b ≠ none

def SlotOk (K : PySem.W.Frag) (fr : Fr) (G : GS) (H : Hp) : Slot → Option V → Prop
  | .un, _ => True
  | .val d, o => ∃ v, o = some v ∧ Rep K G H d v
  | .own oa ds, o => ∃ a xs, o = some (.ref a) ∧ H a = some (.lst xs) ∧ Reps K G H ds xs ∧ ¬ G a ∧ fr.H0 a = none ∧ ∀ b, oa = some b → a = b
  | .stt, o => ∃ a xs, o = some (.ref a) ∧ H a = some (.lst xs) ∧ StOk xs ∧ ¬ G a ∧ (fr.st0 = some a ∨ fr.H0 a = none)
  | .slf b C ns ds, o => ∃ a dx xs, o = some (.ref a) ∧ H a = some (.ins C dx (ns.zip xs)) ∧ Reps K G H ds xs ∧ ¬ G a ∧ fr.H0 a = none ∧ a = b
  | .dow ks ds, o => ∃ a xs vs, o = some (.ref a) ∧ Reps K G H ks xs ∧ Reps K G H ds vs ∧ DicH H a ks ds xs vs ∧ ¬ G a ∧ fr.H0 a = none
  | .clo f c' q Gl Hl, o => o = some (.ref f) ∧ fr.H0 c' = some (LamX.CodeO c' q) ∧ (fr.st0 ≠ some c' ∧ ¬ isT c') ∧ Stab Gl Hl H ∧ ∀ b, Gl b → G b
  | .exc ex a d, o => o = some (.ref a) ∧ ExRep K G H ex (.ref ex.C) d
def isMut : Slot → Prop
  | .own _ _ => True
  | .stt => True
  | .slf _ _ _ _ => True
  | .dow _ _ => True
  | _ => False

structure Rel (K : PySem.W.Frag) (fr : Fr) (G : GS) (ρ : Rho) (σ : L2.St) (H : Hp) : Prop where
  g0 : ∀ b, fr.G0 b → G b
  gn : ∀ b, G b → fr.G0 b ∨ fr.H0 b = none
  gi : ∀ b, G b → ∃ o, H b = some o
  same : ∀ b o, fr.st0 ≠ some b → ¬ isT b → fr.H0 b = some o → H b = some o
  sta : ∀ a, fr.st0 = some a → ¬ G a ∧ ∃ xs, H a = some (.lst xs) ∧ StOk xs
  slot : ∀ i, SlotOk K fr G H (gt ρ i) (sv σ i)
  apart : ∀ i j a, i ≠ j → isMut (gt ρ i) → isMut (gt ρ j) → sv σ i = some (.ref a) → sv σ j ≠ some (.ref a)
  len : σ.length = ρ.length
  bst : Stab fr.Gb fr.Hb H
  bg : ∀ b, fr.Gb b → G b
  prv : ∀ b, fr.Pv b → ¬ G b ∧ (∃ o, H b = some o) ∧ fr.H0 b = none ∧ ∀ i, isMut (gt ρ i) → sv σ i ≠ some (.ref b)
  tb : ∀ b, isT b → ¬ G b
  tbs : LamX.Tabs TabC.T H
theorem notT {H : Hp} (t : LamX.Tabs TabC.T H) {b : Addr} {o : HO} (e : H b = some o) (n : ∀ ps, o ≠ .tbl ps) : ¬ isT b := fun ⟨q, hq⟩ => by
  obtain ⟨ps, e1, _⟩ := t _ hq
  rw [e] at e1
  exact n ps (Option.some.inj e1)
theorem isT_some {H : Hp} (t : LamX.Tabs TabC.T H) {b : Addr} (h : isT b) : ∃ ps, H b = some (.tbl ps) := let ⟨_, hq⟩ := h; let ⟨ps, e1, _⟩ := t _ hq; ⟨ps, e1⟩
theorem Rel.pvT {K : PySem.W.Frag} {fr : Fr} {G : GS} {ρ : Rho} {σ : L2.St} {H : Hp} (r : Rel K fr G ρ σ H) {b : Addr} (h : fr.Pv b) : ¬ isT b := fun z => fr.ht b z (r.prv b h).2.2.1

abbrev WE := (EX → Prop) → Rho → (D → Prop) → Prop

/-- an expression's step -/
structure Step (K : PySem.W.Frag) (fr : Fr) (G : GS) (ρ : Rho) (σ : L2.St) (H : Hp) (G' : GS) (H' : Hp) : Prop where
  rel : Rel K fr G' ρ σ H'
  stab : Stab G H H'
  gg : ∀ b, G b → G' b
  gnew : ∀ b, G' b → G b ∨ H b = none
  up : ∀ b, H' b = none → H b = none
  keep : ∀ b, fr.Pv b → H' b = H b
theorem Step.refl {K : PySem.W.Frag} {fr : Fr} {G : GS} {ρ : Rho} {σ : L2.St} {H : Hp} (r : Rel K fr G ρ σ H) : Step K fr G ρ σ H G H :=
  ⟨r, .refl, fun _ h => h, fun _ h => .inl h, fun _ h => h, fun _ _ => rfl⟩
theorem Step.rep {K : PySem.W.Frag} {fr : Fr} {G G' : GS} {ρ : Rho} {σ : L2.St} {H H' : Hp} (s : Step K fr G ρ σ H G' H') {d : D} {v : V} (h : Rep K G H d v) : Rep K G' H' d v := Rep.stab s.stab s.gg d v h
theorem Step.reps {K : PySem.W.Frag} {fr : Fr} {G G' : GS} {ρ : Rho} {σ : L2.St} {H H' : Hp} (s : Step K fr G ρ σ H G' H') {d : List D} {v : List V} (h : Reps K G H d v) : Reps K G' H' d v := Reps.stab s.stab s.gg d v h

def RaiseE (K : PySem.W.Frag) (Wx : WX) (fr : Fr) (ρ : Rho) (σ : L2.St) (R : EX → Prop) : Prop :=
  ∀ ex cls d G' H', R ex → ExRep K G' H' ex cls d → Rel K fr G' ρ σ H' → Wx cls d σ H'

structure DE (X : Cx) (Wx : WX) (e : Expr) (W : WE) : Prop where
  ex : ∃ t, PE X e t ∧ ∀ fr G ρ σ H R Qa Q, Rel X.K fr G ρ σ H → RaiseE X.K Wx fr ρ σ R → W R ρ Qa →
    (∀ v d G' H', Step X.K fr G ρ σ H G' H' → Rep X.K G' H' d v → Qa d → Q v H') → t σ H Q

/-! ### new objects -/
section
variable {K : PySem.W.Frag} {fr : Fr} {G : GS} {ρ : Rho} {σ : L2.St} {H : Hp} {p : Addr} {o : HO}
theorem stab_new (n : H p = none) (gi : ∀ b, G b → ∃ o, H b = some o) : Stab G H (upd H p o) :=
  ⟨fun b xs q => by rw [upd_ne (ne_of_none q n)]; exact q, fun b ob u q => by rw [upd_ne (ne_of_none q n)]; exact q, fun b q => by
    obtain ⟨ob, e⟩ := gi b q
    rw [upd_ne (ne_of_none e n)]⟩
theorem slotOk_stab {G' : GS} {H' : Hp} (s : Stab G H H') (gg : ∀ b, G b → G' b) (gm : ∀ a o, H a = some o → (∀ ps, o ≠ .tbl ps) → ¬ G a → H' a = some o ∧ ¬ G' a) :
    ∀ {sl : Slot} {o : Option V}, SlotOk K fr G H sl o → SlotOk K fr G' H' sl o
  | .un, _, _ => trivial
  | .val d, _, h => by
    obtain ⟨v, e, r⟩ := h
    exact ⟨v, e, Rep.stab s gg d v r⟩
  | .own oa ds, _, h => by
    obtain ⟨a, xs, e, q, r, ng, n0⟩ := h
    exact ⟨a, xs, e, (gm a _ q (fun _ z => by cases z) ng).1, Reps.stab s gg ds xs r, (gm a _ q (fun _ z => by cases z) ng).2, n0⟩
  | .slf b C ns ds, _, h => by
    obtain ⟨a, dx, xs, e, q, r, ng, n0⟩ := h
    exact ⟨a, dx, xs, e, (gm a _ q (fun _ z => by cases z) ng).1, Reps.stab s gg ds xs r, (gm a _ q (fun _ z => by cases z) ng).2, n0⟩
  | .stt, _, h => by
    obtain ⟨a, xs, e, q, ok, ng, n0⟩ := h
    exact ⟨a, xs, e, (gm a _ q (fun _ z => by cases z) ng).1, ok, (gm a _ q (fun _ z => by cases z) ng).2, n0⟩
  | .dow ks ds, _, h => by
    obtain ⟨a, xs, vs, e, r1, r2, q, ng, n0⟩ := h
    obtain ⟨o, ho, nt, _⟩ := q.there
    exact ⟨a, xs, vs, e, Reps.stab s gg ks xs r1, Reps.stab s gg ds vs r2, q.keep fun o e n => (gm a _ e n ng).1, (gm a _ ho nt ng).2, n0⟩
  | .clo f c' q Gl Hl, _, h => ⟨h.1, h.2.1, h.2.2.1, h.2.2.2.1.trans s h.2.2.2.2, fun b g => gg b (h.2.2.2.2 b g)⟩
  | .exc _ _ _, _, h => ⟨h.1, h.2.stab s gg⟩
theorem Rel.h0 (r : Rel K fr G ρ σ H) (n : H p = none) : fr.H0 p = none := by
  cases e : fr.H0 p with
  | none => rfl
  | some u =>
    by_cases hs : fr.st0 = some p
    · obtain ⟨_, xs, q, _⟩ := r.sta p hs
      rw [n] at q; cases q
    · by_cases ht : isT p
      · obtain ⟨ps, q⟩ := isT_some r.tbs ht
        rw [n] at q; cases q
      · have := r.same p u hs ht e
        rw [n] at this; cases this
/-- a new object, not of G -/
theorem Rel.new (r : Rel K fr G ρ σ H) (n : H p = none) : Rel K fr G ρ σ (upd H p o) where
  g0 := r.g0
  gn := r.gn
  gi := fun b q => let ⟨ob, e⟩ := r.gi b q; ⟨ob, by rw [upd_ne (ne_of_none e n)]; exact e⟩
  same := fun b ob hs ht e => by rw [upd_ne (ne_of_none (r.same b ob hs ht e) n)]; exact r.same b ob hs ht e
  sta := fun a e => by
    obtain ⟨ng, xs, q, ok⟩ := r.sta a e
    exact ⟨ng, xs, by rw [upd_ne (ne_of_none q n)]; exact q, ok⟩
  slot := fun i => slotOk_stab (stab_new n r.gi) (fun _ h => h) (fun a xs q _ ng => ⟨by rw [upd_ne (ne_of_none q n)]; exact q, ng⟩) (r.slot i)
  apart := r.apart
  len := r.len
  bst := r.bst.trans (stab_new n r.gi) r.bg
  bg := r.bg
  prv := fun b h => let ⟨a1, ⟨ob, a2⟩, a3, a4⟩ := r.prv b h; ⟨a1, ⟨ob, by rw [upd_ne (ne_of_none a2 n)]; exact a2⟩, a3, a4⟩
  tb := r.tb
  tbs := r.tbs.ext fun b ob e => by rw [upd_ne (ne_of_none e n)]; exact e
/-- .. of G -/
theorem Rel.newG (r : Rel K fr G ρ σ H) (n : H p = none) : Rel K fr (fun b => G b ∨ b = p) ρ σ (upd H p o) where
  g0 := fun b h => .inl (r.g0 b h)
  gn := fun b h => by
    rcases h with h | rfl
    · exact r.gn b h
    · exact .inr (r.h0 n)
  gi := fun b q => by
    rcases q with q | rfl
    · obtain ⟨ob, e⟩ := r.gi b q
      exact ⟨ob, by rw [upd_ne (ne_of_none e n)]; exact e⟩
    · exact ⟨o, upd_same⟩
  same := fun b ob hs ht e => by rw [upd_ne (ne_of_none (r.same b ob hs ht e) n)]; exact r.same b ob hs ht e
  sta := fun a e => by
    obtain ⟨ng, xs, q, ok⟩ := r.sta a e
    exact ⟨fun z => z.elim ng fun z => ne_of_none q n z, xs, by rw [upd_ne (ne_of_none q n)]; exact q, ok⟩
  slot := fun i => slotOk_stab (stab_new n r.gi) (fun _ h => .inl h) (fun a xs q _ ng => ⟨by rw [upd_ne (ne_of_none q n)]; exact q, fun z => z.elim ng fun z => ne_of_none q n z⟩) (r.slot i)
  apart := r.apart
  len := r.len
  bst := r.bst.trans (stab_new n r.gi) r.bg
  bg := fun b h => .inl (r.bg b h)
  prv := fun b h => let ⟨a1, ⟨ob, a2⟩, a3, a4⟩ := r.prv b h; ⟨fun z => z.elim a1 fun z => ne_of_none a2 n z, ⟨ob, by rw [upd_ne (ne_of_none a2 n)]; exact a2⟩, a3, a4⟩
  tb := fun b ht z => z.elim (r.tb b ht) fun z => by
    obtain ⟨ps, q⟩ := isT_some r.tbs ht
    exact ne_of_none q n z
  tbs := r.tbs.ext fun b ob e => by rw [upd_ne (ne_of_none e n)]; exact e
theorem keep_new (r : Rel K fr G ρ σ H) (n : H p = none) : ∀ b, fr.Pv b → (upd H p o) b = H b := fun b h => by
  obtain ⟨_, ⟨ob, e⟩, _⟩ := r.prv b h
  rw [upd_ne (ne_of_none e n)]
theorem up_new : ∀ b, (upd H p o) b = none → H b = none := fun b h => by
  unfold upd at h
  split at h
  · cases h
  · exact h
theorem Step.new (r : Rel K fr G ρ σ H) (n : H p = none) : Step K fr G ρ σ H G (upd H p o) := ⟨r.new n, stab_new n r.gi, fun _ h => h, fun _ h => .inl h, up_new, keep_new r n⟩
theorem Step.newG (r : Rel K fr G ρ σ H) (n : H p = none) : Step K fr G ρ σ H (fun b => G b ∨ b = p) (upd H p o) :=
  ⟨r.newG n, stab_new n r.gi, fun _ h => .inl h, fun b h => h.imp id fun z => by rw [z]; exact n, up_new, keep_new r n⟩
theorem Step.trans {G1 G2 : GS} {H1 H2 : Hp} (a : Step K fr G ρ σ H G1 H1) (b : Step K fr G1 ρ σ H1 G2 H2) : Step K fr G ρ σ H G2 H2 :=
  ⟨b.rel, a.stab.trans b.stab a.gg, fun c h => b.gg c (a.gg c h), fun c h => by
    rcases b.gnew c h with z | z
    · exact a.gnew c z
    · exact .inr (a.up c z), fun c h => a.up c (b.up c h), fun c h => (b.keep c h).trans (a.keep c h)⟩
end
section
variable {K : PySem.W.Frag} {fr : Fr} {G G' : GS} {ρ : Rho} {σ : L2.St} {H H' : Hp} {p : Addr} {o : HO}
theorem Rel.mut_there (r : Rel K fr G ρ σ H) {i : Nat} {a : Addr} (m : isMut (gt ρ i)) (e : sv σ i = some (.ref a)) : (∃ o, H a = some o) ∧ ¬ G a := by
  have s := r.slot i
  cases q : gt ρ i with
  | un => rw [q] at m; exact m.elim
  | val d => rw [q] at m; exact m.elim
  | exc _ _ _ => rw [q] at m; exact m.elim
  | clo _ _ _ _ _ => rw [q] at m; exact m.elim
  | dow ks ds =>
    rw [q] at s
    obtain ⟨a', xs, vs, e1, _, _, e2, e3, _⟩ := s
    rw [e] at e1; cases e1
    obtain ⟨o, ho, _⟩ := e2.there
    exact ⟨⟨_, ho⟩, e3⟩
  | own oa ds =>
    rw [q] at s
    obtain ⟨a', xs, e1, e2, _, e3, _⟩ := s
    rw [e] at e1; cases e1
    exact ⟨⟨_, e2⟩, e3⟩
  | slf b C ns ds =>
    rw [q] at s
    obtain ⟨a', dx, xs, e1, e2, _, e3, _⟩ := s
    rw [e] at e1; cases e1
    exact ⟨⟨_, e2⟩, e3⟩
  | stt =>
    rw [q] at s
    obtain ⟨a', xs, e1, e2, _, e3, _⟩ := s
    rw [e] at e1; cases e1
    exact ⟨⟨_, e2⟩, e3⟩
theorem Rel.not_mut (r : Rel K fr G ρ σ H) (n : H p = none) : ∀ i, isMut (gt ρ i) → sv σ i ≠ some (.ref p) := fun i m e => by
  obtain ⟨⟨xs, q⟩, _⟩ := r.mut_there m e
  rw [n] at q; cases q
/-- an object that stands is given to G -/
theorem Rel.addG (r : Rel K fr G ρ σ H) (h : H p = some o) (h0 : fr.H0 p = none) (hm : ∀ i, isMut (gt ρ i) → sv σ i ≠ some (.ref p)) (hp : ¬ fr.Pv p) (hs : fr.st0 ≠ some p) : Rel K fr (fun b => G b ∨ b = p) ρ σ H where
  g0 := fun b h => .inl (r.g0 b h)
  gn := fun b h => by
    rcases h with h | rfl
    · exact r.gn b h
    · exact .inr h0
  gi := fun b q => by
    rcases q with q | rfl
    · exact r.gi b q
    · exact ⟨o, h⟩
  same := r.same
  sta := fun a e => by
    obtain ⟨ng, xs, q, ok⟩ := r.sta a e
    exact ⟨fun z => z.elim ng fun z => hs (by rw [← z]; exact e), xs, q, ok⟩
  slot := fun i => by
    have s := r.slot i
    cases q : gt ρ i with
    | un => trivial
    | exc _ _ _ =>
      rw [q] at s
      exact ⟨s.1, s.2.stab .refl (fun _ h => .inl h)⟩
    | val d =>
      rw [q] at s
      obtain ⟨v, e, rp⟩ := s
      exact ⟨v, e, Rep.stab .refl (fun _ h => .inl h) d v rp⟩
    | clo f c' q' Gl Hl =>
      rw [q] at s
      exact ⟨s.1, s.2.1, s.2.2.1, s.2.2.2.1, fun b g => .inl (s.2.2.2.2 b g)⟩
    | dow ks ds =>
      rw [q] at s
      obtain ⟨a, xs, vs, e1, r1, r2, e2, e4, e5⟩ := s
      exact ⟨a, xs, vs, e1, Reps.stab .refl (fun _ h => .inl h) ks xs r1, Reps.stab .refl (fun _ h => .inl h) ds vs r2, e2, fun z => z.elim e4 fun z => hm i (by rw [q]; trivial) (by rw [← z]; exact e1), e5⟩
    | own oa ds =>
      rw [q] at s
      obtain ⟨a, xs, e1, e2, e3, e4, e5⟩ := s
      exact ⟨a, xs, e1, e2, Reps.stab .refl (fun _ h => .inl h) ds xs e3, fun z => z.elim e4 fun z => hm i (by rw [q]; trivial) (by rw [← z]; exact e1), e5⟩
    | slf b C ns ds =>
      rw [q] at s
      obtain ⟨a, dx, xs, e1, e2, e3, e4, e5⟩ := s
      exact ⟨a, dx, xs, e1, e2, Reps.stab .refl (fun _ h => .inl h) ds xs e3, fun z => z.elim e4 fun z => hm i (by rw [q]; trivial) (by rw [← z]; exact e1), e5⟩
    | stt =>
      rw [q] at s
      obtain ⟨a, xs, e1, e2, e3, e4, e5⟩ := s
      exact ⟨a, xs, e1, e2, e3, fun z => z.elim e4 fun z => hm i (by rw [q]; trivial) (by rw [← z]; exact e1), e5⟩
  apart := r.apart
  len := r.len
  bst := r.bst
  bg := fun b h => .inl (r.bg b h)
  prv := fun b h => let ⟨a1, a2, a3, a4⟩ := r.prv b h; ⟨fun z => z.elim a1 fun z => hp (z ▸ h), a2, a3, a4⟩
  tb := fun b ht z => z.elim (r.tb b ht) fun z => fr.ht b ht (z ▸ h0)
  tbs := r.tbs
end
/-- a list that may be one of the def's own -/
def RepL (K : PySem.W.Frag) (G : GS) (ρ : Rho) (σ : L2.St) (H : Hp) (d : D) (v : V) : Prop :=
  Rep K G H d v ∨ ∃ i oa ds, gt ρ i = .own oa ds ∧ d = .lst ds ∧ sv σ i = some v
structure DL (X : Cx) (Wx : WX) (e : Expr) (W : WE) : Prop where
  ex : ∃ t, PE X e t ∧ ∀ fr G ρ σ H R Qa Q, Rel X.K fr G ρ σ H → RaiseE X.K Wx fr ρ σ R → W R ρ Qa →
    (∀ v d G' H', Step X.K fr G ρ σ H G' H' → RepL X.K G' ρ σ H' d v → Qa d → Q v H') → t σ H Q
theorem DE.dl {X : Cx} {Wx : WX} {e : Expr} {W : WE} (h : DE X Wx e W) : DL X Wx e W := by
  obtain ⟨t, p, q⟩ := h.ex
  exact ⟨t, p, fun fr G ρ σ H R Qa Q r hr w k => q fr G ρ σ H R Qa Q r hr w fun v d G' H' s rp qa => k v d G' H' s (.inl rp) qa⟩
theorem RepL.step {K : PySem.W.Frag} {fr : Fr} {G G' : GS} {ρ : Rho} {σ : L2.St} {H H' : Hp} (s : Step K fr G ρ σ H G' H') {d : D} {v : V} (h : RepL K G ρ σ H d v) : RepL K G' ρ σ H' d v :=
  h.imp (fun r => s.rep r) id
def seqOf : D → Option (List D)
  | .tup ds => some ds
  | .lst ds => some ds
  | .scr ns => some (ns.map D.int)
  | _ => none
/-- a list or a tuple, read -/
theorem RepL.seq {K : PySem.W.Frag} {fr : Fr} {G : GS} {ρ : Rho} {σ : L2.St} {H : Hp} (r : Rel K fr G ρ σ H) {ds : List D} {v : V} : ∀ {d : D}, RepL K G ρ σ H d v → seqOf d = some ds →
    ∃ a xs, v = .ref a ∧ (SqL K H a xs ∨ SqT K H a xs) ∧ Reps K G H ds xs
  | d, .inl h, e => by
    cases d <;> simp only [seqOf] at e <;> cases e
    · obtain ⟨a, xs, e1, q, rs⟩ := h
      exact ⟨a, xs, e1, .inr q, rs⟩
    · obtain ⟨a, xs, e1, g, q, rs⟩ := h
      exact ⟨a, xs, e1, .inl (.of q), rs⟩
    · obtain ⟨a, e1, q⟩ := h
      exact ⟨a, _, e1, .inl q.sq, Reps.of_ints⟩
  | _, .inr ⟨i, oa, es, e1, rfl, e3⟩, e => by
    simp only [seqOf] at e; cases e
    have q := r.slot i
    rw [e1] at q
    obtain ⟨a, xs, e4, e5, rs, _⟩ := q
    rw [e3] at e4; cases e4
    exact ⟨a, xs, rfl, .inl (.of e5), rs⟩
theorem RepL.lst {K : PySem.W.Frag} {fr : Fr} {G : GS} {ρ : Rho} {σ : L2.St} {H : Hp} (r : Rel K fr G ρ σ H) {ds : List D} {v : V} (h : RepL K G ρ σ H (.lst ds) v) :
    ∃ a xs, v = .ref a ∧ H a = some (.lst xs) ∧ Reps K G H ds xs := by
  rcases h with h | ⟨i, oa, es, e1, e2, e3⟩
  · obtain ⟨a, xs, e1, g, q, rs⟩ := h
    exact ⟨a, xs, e1, q, rs⟩
  · cases e2
    have q := r.slot i
    rw [e1] at q
    obtain ⟨a, xs, e4, e5, rs, _⟩ := q
    rw [e3] at e4; cases e4
    exact ⟨a, xs, rfl, e5, rs⟩
theorem RepL.tup {K : PySem.W.Frag} {G : GS} {ρ : Rho} {σ : L2.St} {H : Hp} {ds : List D} {v : V} (h : RepL K G ρ σ H (.tup ds) v) :
    ∃ a xs, v = .ref a ∧ SqT K H a xs ∧ Reps K G H ds xs := by
  rcases h with h | ⟨i, oa, es, e1, e2, e3⟩
  · exact h
  · cases e2
end AV

set_option maxRecDepth 100000
set_option maxHeartbeats 4000000
namespace AV
open PySem PySem.Spec PyProof.Rows L2
variable [TabC]

abbrev WT := (EX → Prop) → Rho → (Bool → Prop) → Prop
abbrev WA := (EX → Prop) → Rho → (List D → Prop) → Prop

/-! ### what must hold, by shape -/
def wC (d : D) : WE := fun _ _ Q => Q d
def wVar (i : Nat) : WE := fun _ ρ Q => match gt ρ i with | .val d => Q d | _ => False
def wOwn (i : Nat) : WE := fun _ ρ Q => match gt ρ i with | .own _ ds => Q (.lst ds) | _ => False
def wOp (f : D → D → (D → Prop) → Prop) (Wa Wb : WE) : WE := fun R ρ Q => Wa R ρ fun x => Wb R ρ fun y => f x y Q
def wUn (f : D → (D → Prop) → Prop) (Wa : WE) : WE := fun R ρ Q => Wa R ρ fun x => f x Q
def wTest (W : WE) : WT := fun R ρ Q => W R ρ fun d => match d with | .bl k => Q k | _ => False
def truO : D → (Bool → Prop) → Prop
  | .non, Q => Q false
  | .bl b, Q => Q b
  | .int i, Q => Q (i != 0)
  | .tup ds, Q => Q (!ds.isEmpty)
  | .lst ds, Q => Q (!ds.isEmpty)
  | _, _ => False
def wTru (W : WE) : WT := fun R ρ Q => W R ρ fun d => truO d Q
def wAndT (Wa Wb : WT) : WT := fun R ρ Q => Wa R ρ fun k => if k = true then Wb R ρ Q else Q false
def wOrT (Wa Wb : WT) : WT := fun R ρ Q => Wa R ρ fun k => if k = true then Q true else Wb R ρ Q
def wNotT (Wa : WT) : WT := fun R ρ Q => Wa R ρ fun k => Q (!k)
def wAndV (Wa Wb : WE) : WE := fun R ρ Q => Wa R ρ fun x => match x with | .bl k => if k = true then Wb R ρ Q else Q (.bl false) | _ => False
def wOrV (Wa Wb : WE) : WE := fun R ρ Q => Wa R ρ fun x => match x with | .bl k => if k = true then Q (.bl true) else Wb R ρ Q | _ => False
def wNotV (Wa : WE) : WE := fun R ρ Q => Wa R ρ fun x => match x with | .bl k => Q (.bl (!k)) | _ => False
def wIf (Wc : WT) (Wa Wb : WE) : WE := fun R ρ Q => Wc R ρ fun k => if k = true then Wa R ρ Q else Wb R ρ Q
def wNil : WA := fun _ _ Q => Q []
def wCons (Wa : WE) (Wr : WA) : WA := fun R ρ Q => Wa R ρ fun d => Wr R ρ fun ds => Q (d :: ds)
def wTup (Wa : WA) : WE := fun R ρ Q => Wa R ρ fun ds => ds.length ≤ 16777216 ∧ Q (.tup ds)
def wLst (Wa : WA) : WE := fun R ρ Q => Wa R ρ fun ds => ds.length ≤ 16777216 ∧ Q (.lst ds)

/-! ### names, constants -/
section
variable {X : Cx} {Wx : WX} {a b c : Expr} {Wa Wb Wc : WE} {pos : Pos}
theorem de_int {i j pos} : DE X Wx (.Constant (.int i) j pos) (wC (.int i)) := ⟨⟨_, pe_int, fun fr G ρ σ H R Qa Q r hr w k => k _ (.int i) G H (.refl r) rfl w⟩⟩
theorem de_bl {i j pos} : DE X Wx (.Constant (.bool i) j pos) (wC (.bl i)) := ⟨⟨_, pe_bl, fun fr G ρ σ H R Qa Q r hr w k => k _ (.bl i) G H (.refl r) rfl w⟩⟩
theorem de_non {j pos} : DE X Wx (.Constant .none j pos) (wC .non) := ⟨⟨_, pe_non, fun fr G ρ σ H R Qa Q r hr w k => k _ .non G H (.refl r) rfl w⟩⟩
theorem de_str {x j pos} : DE X Wx (.Constant (.str x) j pos) (wC (.str x)) := ⟨⟨_, pe_str, fun fr G ρ σ H R Qa Q r hr w k => k _ (.str x) G H (.refl r) rfl w⟩⟩
/-- a constant of the module -/
theorem de_glob {x : Str} {v : V} {u : Value} {d : D} (hg : Gl X x) (hm : X.mg x = some u) (rv : RelV v u) (hd : ∀ G H, Rep X.K G H d v) (h2 : (x == ("__debug__" : Str)) = false := by decide) : DE X Wx (.Name x pos) (wC d) :=
  ⟨⟨_, pe_glob hg hm rv h2, fun fr G ρ σ H R Qa Q r hr w k => k _ _ G H (.refl r) (hd G H) w⟩⟩
theorem de_var (i : Nat) {x : Str} (hN : X.N[i]? = some x := by rfl) (hv : Vis X.env.scope x := by first | exact Or.inl rfl | exact Or.inr (Or.inl rfl) | exact Or.inr (Or.inr rfl)) (hd : (x == ("__debug__" : Str)) = false := by decide)
    (hcd : (x == ("__classdict__" : Str)) = false := by decide) : DE X Wx (.Name x pos) (wVar i) := ⟨⟨_, pe_var hN hv hd hcd, fun fr G ρ σ H R Qa Q r hr w k => by
  have s := r.slot i
  unfold wVar at w
  cases e : gt ρ i with
  | val d =>
    rw [e] at w s
    obtain ⟨v, e1, rp⟩ := s
    exact ⟨v, sv_some.mp e1, k v d G H (.refl r) rp w⟩
  | un => rw [e] at w; exact w.elim
  | exc _ _ _ => rw [e] at w; exact w.elim
  | dow _ _ => rw [e] at w; exact w.elim
  | clo _ _ _ _ _ => rw [e] at w; exact w.elim
  | own _ ds => rw [e] at w; exact w.elim
  | slf _ _ _ _ => rw [e] at w; exact w.elim
  | stt => rw [e] at w; exact w.elim⟩⟩
theorem dl_own (i : Nat) {x : Str} (hN : X.N[i]? = some x := by rfl) (hv : Vis X.env.scope x := by first | exact Or.inl rfl | exact Or.inr (Or.inl rfl) | exact Or.inr (Or.inr rfl)) (hd : (x == ("__debug__" : Str)) = false := by decide)
    (hcd : (x == ("__classdict__" : Str)) = false := by decide) : DL X Wx (.Name x pos) (wOwn i) := ⟨⟨_, pe_var hN hv hd hcd, fun fr G ρ σ H R Qa Q r hr w k => by
  have s := r.slot i
  unfold wOwn at w
  cases e : gt ρ i with
  | own oa ds =>
    rw [e] at w s
    obtain ⟨a, xs, e1, _⟩ := s
    exact ⟨_, sv_some.mp e1, k _ (.lst ds) G H (.refl r) (.inr ⟨i, oa, ds, e, rfl, e1⟩) w⟩
  | un => rw [e] at w; exact w.elim
  | exc _ _ _ => rw [e] at w; exact w.elim
  | dow _ _ => rw [e] at w; exact w.elim
  | clo _ _ _ _ _ => rw [e] at w; exact w.elim
  | val ds => rw [e] at w; exact w.elim
  | slf _ _ _ _ => rw [e] at w; exact w.elim
  | stt => rw [e] at w; exact w.elim⟩⟩
end

/-! ### operators -/
def OpA (X : Cx) (r : R2) (f : D → D → (D → Prop) → Prop) : Prop :=
  ∀ fr G ρ σ H x y d e Qa Q, Rel X.K fr G ρ σ H → RepL X.K G ρ σ H d x → RepL X.K G ρ σ H e y → f d e Qa → (∀ v d' G' H', Step X.K fr G ρ σ H G' H' → Rep X.K G' H' d' v → Qa d' → Q v H') → r x y H Q
def UnA (X : Cx) (r : V → Hp → VK → Prop) (f : D → (D → Prop) → Prop) : Prop :=
  ∀ fr G ρ σ H x d Qa Q, Rel X.K fr G ρ σ H → RepL X.K G ρ σ H d x → f d Qa → (∀ v d' G' H', Step X.K fr G ρ σ H G' H' → Rep X.K G' H' d' v → Qa d' → Q v H') → r x H Q
section
variable {X : Cx} {Wx : WX} {a b c : Expr} {Wa Wb Wc : WE} {pos : Pos}
theorem RepL.int {K : PySem.W.Frag} {G : GS} {ρ : Rho} {σ : L2.St} {H : Hp} {i : Int} {v : V} (h : RepL K G ρ σ H (.int i) v) : v = .int i := by
  rcases h with h | ⟨_, _, _, _, e, _⟩
  · exact h
  · cases e
theorem RepL.bl {K : PySem.W.Frag} {G : GS} {ρ : Rho} {σ : L2.St} {H : Hp} {i : Bool} {v : V} (h : RepL K G ρ σ H (.bl i) v) : v = .bl i := by
  rcases h with h | ⟨_, _, _, _, e, _⟩
  · exact h
  · cases e
theorem RepL.str {K : PySem.W.Frag} {G : GS} {ρ : Rho} {σ : L2.St} {H : Hp} {i : Str} {v : V} (h : RepL K G ρ σ H (.str i) v) : v = .str i := by
  rcases h with h | ⟨_, _, _, _, e, _⟩
  · exact h
  · cases e
theorem RepL.non {K : PySem.W.Frag} {G : GS} {ρ : Rho} {σ : L2.St} {H : Hp} {v : V} (h : RepL K G ρ σ H .non v) : v = .non := by
  rcases h with h | ⟨_, _, _, _, e, _⟩
  · exact h
  · cases e
theorem de_op {op : Operator} {r : R2} {f : D → D → (D → Prop) → Prop} (hop : OpA X r f) (ho : OpR X (binaryOp op) r) (ha : DL X Wx a Wa) (hb : DL X Wx b Wb) : DE X Wx (.BinOp a op b pos) (wOp f Wa Wb) := by
  obtain ⟨ta, pa, qa⟩ := ha.ex
  obtain ⟨tb, pb, qb⟩ := hb.ex
  refine ⟨⟨_, pe_op ho pa pb, fun fr G ρ σ H R Qa Q rl hr w k => ?_⟩⟩
  refine qa fr G ρ σ H R _ _ rl hr w fun v d G1 H1 s1 r1 w1 => ?_
  refine qb fr G1 ρ σ H1 R _ _ s1.rel hr w1 fun v2 d2 G2 H2 s2 r2 w2 => ?_
  exact hop fr G2 ρ σ H2 v v2 d d2 Qa Q s2.rel (r1.step s2) r2 w2 fun v3 d3 G3 H3 s3 r3 w3 => k v3 d3 G3 H3 ((s1.trans s2).trans s3) r3 w3
theorem de_un {op : UnaryOp} {r : V → Hp → VK → Prop} {f : D → (D → Prop) → Prop} (hop : UnA X r f) (ho : UnR X (unaryOp op) r) (ha : DL X Wx a Wa) : DE X Wx (.UnaryOp op a pos) (wUn f Wa) := by
  obtain ⟨ta, pa, qa⟩ := ha.ex
  refine ⟨⟨_, pe_un ho pa, fun fr G ρ σ H R Qa Q rl hr w k => ?_⟩⟩
  refine qa fr G ρ σ H R _ _ rl hr w fun v d G1 H1 s1 r1 w1 => ?_
  exact hop fr G1 ρ σ H1 v d Qa Q s1.rel r1 w1 fun v3 d3 G3 H3 s3 r3 w3 => k v3 d3 G3 H3 (s1.trans s3) r3 w3
structure CmpR (X : Cx) (op : CmpOp) (f : D → D → (D → Prop) → Prop) : Prop where
  ex : ∃ r, OpR X (compareOp op) r ∧ OpA X r f
theorem de_cmp {op : CmpOp} {f : D → D → (D → Prop) → Prop} (hc : CmpR X op f) (ha : DL X Wx a Wa) (hb : DL X Wx b Wb) (hm : behindInMarks op b = false := by first | exact nomark _ | rfl) : DE X Wx (.Compare a [op] [b] pos) (wOp f Wa Wb) := by
  obtain ⟨r, ho, hop⟩ := hc.ex
  obtain ⟨ta, pa, qa⟩ := ha.ex
  obtain ⟨tb, pb, qb⟩ := hb.ex
  refine ⟨⟨_, pe_cmpR ho pa pb hm, fun fr G ρ σ H R Qa Q rl hr w k => ?_⟩⟩
  refine qa fr G ρ σ H R _ _ rl hr w fun v d G1 H1 s1 r1 w1 => ?_
  refine qb fr G1 ρ σ H1 R _ _ s1.rel hr w1 fun v2 d2 G2 H2 s2 r2 w2 => ?_
  exact hop fr G2 ρ σ H2 v v2 d d2 Qa Q s2.rel (r1.step s2) r2 w2 fun v3 d3 G3 H3 s3 r3 w3 => k v3 d3 G3 H3 ((s1.trans s2).trans s3) r3 w3

/-! ### tests -/
structure DT (X : Cx) (Wx : WX) (e : Expr) (W : WT) : Prop where
  ex : ∃ t, PT X e t ∧ ∀ fr G ρ σ H R Qa Q, Rel X.K fr G ρ σ H → RaiseE X.K Wx fr ρ σ R → W R ρ Qa → (∀ k G' H', Step X.K fr G ρ σ H G' H' → Qa k → Q k H') → t σ H Q
structure DW (X : Cx) (Wx : WX) (e : Expr) (W : WT) : Prop where
  ex : ∃ t, PW X e t ∧ ∀ fr G ρ σ H R Qa Q, Rel X.K fr G ρ σ H → RaiseE X.K Wx fr ρ σ R → W R ρ Qa → (∀ k G' H', Step X.K fr G ρ σ H G' H' → Qa k → Q k H') → t σ H Q
theorem DW.dt {e : Expr} {W : WT} (h : DW X Wx e W) : DT X Wx e W := let ⟨t, p, q⟩ := h.ex; ⟨⟨t, p.pt, q⟩⟩
theorem dt_cmp {op : CmpOp} {f : D → D → (D → Prop) → Prop} (hc : CmpR X op f) (ha : DL X Wx a Wa) (hb : DL X Wx b Wb) (hm : behindInMarks op b = false := by first | exact nomark _ | rfl) : DT X Wx (.Compare a [op] [b] pos) (wTest (wOp f Wa Wb)) := by
  obtain ⟨r, ho, hop⟩ := hc.ex
  obtain ⟨ta, pa, qa⟩ := ha.ex
  obtain ⟨tb, pb, qb⟩ := hb.ex
  refine ⟨⟨_, pt_cmpR ho pa pb hm, fun fr G ρ σ H R Qa Q rl hr w k => ?_⟩⟩
  refine qa fr G ρ σ H R _ _ rl hr w fun v d G1 H1 s1 r1 w1 => ?_
  refine qb fr G1 ρ σ H1 R _ _ s1.rel hr w1 fun v2 d2 G2 H2 s2 r2 w2 => ?_
  refine hop fr G2 ρ σ H2 v v2 d d2 _ _ s2.rel (r1.step s2) r2 w2 fun v3 d3 G3 H3 s3 r3 w3 => ?_
  cases d3 with
  | bl z => exact ⟨z, r3, k z G3 H3 ((s1.trans s2).trans s3) w3⟩
  | _ => exact w3.elim
def wChain (f g : D → D → (D → Prop) → Prop) (Wa Wb Wc : WE) : WE := fun R ρ Q => Wa R ρ fun x => Wb R ρ fun y => f x y fun z => match z with | .bl k => if k = true then Wc R ρ fun z => g y z Q else Q (.bl false) | _ => False
theorem de_chain {op op' : CmpOp} {f g : D → D → (D → Prop) → Prop} (hc : CmpR X op f) (hc' : CmpR X op' g) (ha : DL X Wx a Wa) (hb : DL X Wx b Wb) (h3 : DL X Wx c Wc) (hm : lastMarks [op, op'] [b, c] = false := by with_unfolding_all rfl) :
    DE X Wx (.Compare a [op, op'] [b, c] pos) (wChain f g Wa Wb Wc) := by
  obtain ⟨r, ho, hop⟩ := hc.ex
  obtain ⟨r', ho', hop'⟩ := hc'.ex
  obtain ⟨ta, pa, qa⟩ := ha.ex
  obtain ⟨tb, pb, qb⟩ := hb.ex
  obtain ⟨tc, pc, qc⟩ := h3.ex
  refine ⟨⟨_, pe_chain ho ho' pa pb pc hm, fun fr G ρ σ H R Qa Q rl hr w k => ?_⟩⟩
  refine qa fr G ρ σ H R _ _ rl hr w fun v d G1 H1 s1 r1 w1 => ?_
  refine qb fr G1 ρ σ H1 R _ _ s1.rel hr w1 fun v2 d2 G2 H2 s2 r2 w2 => ?_
  refine hop fr G2 ρ σ H2 v v2 d d2 _ _ s2.rel (r1.step s2) r2 w2 fun v3 d3 G3 H3 s3 r3 w3 => ?_
  cases d3 with
  | bl z =>
    refine ⟨z, r3, ?_⟩
    cases z with
    | false => exact k _ (.bl false) G3 H3 ((s1.trans s2).trans s3) rfl w3
    | true =>
      refine qc fr G3 ρ σ H3 R _ _ s3.rel hr w3 fun v4 d4 G4 H4 s4 r4 w4 => ?_
      exact hop' fr G4 ρ σ H4 v2 v4 d2 d4 _ _ s4.rel ((r2.step s3).step s4) r4 w4 fun v5 d5 G5 H5 s5 r5 w5 => k v5 d5 G5 H5 ((((s1.trans s2).trans s3).trans s4).trans s5) r5 w5
  | _ => exact w3.elim
theorem dt_chain {op op' : CmpOp} {f g : D → D → (D → Prop) → Prop} (hc : CmpR X op f) (hc' : CmpR X op' g) (ha : DL X Wx a Wa) (hb : DL X Wx b Wb) (h3 : DL X Wx c Wc) (hm : lastMarks [op, op'] [b, c] = false := by with_unfolding_all rfl) :
    DT X Wx (.Compare a [op, op'] [b, c] pos) (wTest (wChain f g Wa Wb Wc)) := by
  obtain ⟨r, ho, hop⟩ := hc.ex
  obtain ⟨r', ho', hop'⟩ := hc'.ex
  obtain ⟨ta, pa, qa⟩ := ha.ex
  obtain ⟨tb, pb, qb⟩ := hb.ex
  obtain ⟨tc, pc, qc⟩ := h3.ex
  refine ⟨⟨_, pt_chain ho ho' pa pb pc hm, fun fr G ρ σ H R Qa Q rl hr w k => ?_⟩⟩
  refine qa fr G ρ σ H R _ _ rl hr w fun v d G1 H1 s1 r1 w1 => ?_
  refine qb fr G1 ρ σ H1 R _ _ s1.rel hr w1 fun v2 d2 G2 H2 s2 r2 w2 => ?_
  refine hop fr G2 ρ σ H2 v v2 d d2 _ _ s2.rel (r1.step s2) r2 w2 fun v3 d3 G3 H3 s3 r3 w3 => ?_
  cases d3 with
  | bl z =>
    refine ⟨z, r3, ?_⟩
    cases z with
    | false => exact ⟨false, rfl, k false G3 H3 ((s1.trans s2).trans s3) w3⟩
    | true =>
      refine qc fr G3 ρ σ H3 R _ _ s3.rel hr w3 fun v4 d4 G4 H4 s4 r4 w4 => ?_
      refine hop' fr G4 ρ σ H4 v2 v4 d2 d4 _ _ s4.rel ((r2.step s3).step s4) r4 w4 fun v5 d5 G5 H5 s5 r5 w5 => ?_
      cases d5 with
      | bl z => exact ⟨z, r5, k z G5 H5 ((((s1.trans s2).trans s3).trans s4).trans s5) w5⟩
      | _ => exact w5.elim
  | _ => exact w3.elim
theorem dt_truth (ha : DL X Wx a Wa) (he : ∀ whole, isTrue a X.env whole = (do let v ← whole; standAt a.pos; holding [v] (truthy v)) := by intro _; rfl) : DT X Wx a (wTru Wa) := by
  obtain ⟨ta, pa, qa⟩ := ha.ex
  refine ⟨⟨_, pt_truth pa he, fun fr G ρ σ H R Qa Q rl hr w k => ?_⟩⟩
  refine qa fr G ρ σ H R _ _ rl hr w fun v d G1 H1 s1 r1 w1 => ?_
  cases d with
  | non => cases r1.non; exact ⟨false, rfl, k _ G1 H1 s1 w1⟩
  | bl z => cases r1.bl; exact ⟨z, rfl, k _ G1 H1 s1 w1⟩
  | int z => cases r1.int; exact ⟨z != 0, rfl, k _ G1 H1 s1 w1⟩
  | tup ds =>
    obtain ⟨p, xs, rfl, q, rs⟩ := r1.tup
    refine ⟨!ds.isEmpty, .inr (.inl ⟨xs, q, ?_⟩), k _ G1 H1 s1 w1⟩
    have := rs.length
    cases ds <;> cases xs <;> simp_all
  | lst ds =>
    obtain ⟨p, xs, rfl, q, rs⟩ := r1.lst s1.rel
    refine ⟨!ds.isEmpty, .inl ⟨xs, .of q, ?_⟩, k _ G1 H1 s1 w1⟩
    have := rs.length
    cases ds <;> cases xs <;> simp_all
  | str z => exact w1.elim
  | edic => exact w1.elim
  | dic _ _ => exact w1.elim
  | scr ns => exact w1.elim
  | ins C ns ds => exact w1.elim
variable {WA' WB' : WT} {rest : List Expr}
theorem dw_and1 (ha : DT X Wx a WA') : DW X Wx (.BoolOp .And [a] pos) WA' := let ⟨t, p, q⟩ := ha.ex; ⟨⟨t, pw_and1 p, q⟩⟩
theorem dw_or1 (ha : DT X Wx a WA') : DW X Wx (.BoolOp .Or [a] pos) WA' := let ⟨t, p, q⟩ := ha.ex; ⟨⟨t, pw_or1 p, q⟩⟩
theorem dw_and (ha : DT X Wx a WA') (hb : DW X Wx (.BoolOp .And (b :: rest) pos) WB') : DW X Wx (.BoolOp .And (a :: b :: rest) pos) (wAndT WA' WB') := by
  obtain ⟨ta, pa, qa⟩ := ha.ex
  obtain ⟨tb, pb, qb⟩ := hb.ex
  refine ⟨⟨_, pw_and pa pb, fun fr G ρ σ H R Qa Q rl hr w k => ?_⟩⟩
  refine qa fr G ρ σ H R _ _ rl hr w fun z G1 H1 s1 w1 => ?_
  cases z with
  | false => exact k false G1 H1 s1 w1
  | true => exact qb fr G1 ρ σ H1 R _ _ s1.rel hr w1 fun z G2 H2 s2 w2 => k z G2 H2 (s1.trans s2) w2
theorem dw_or (ha : DT X Wx a WA') (hb : DW X Wx (.BoolOp .Or (b :: rest) pos) WB') : DW X Wx (.BoolOp .Or (a :: b :: rest) pos) (wOrT WA' WB') := by
  obtain ⟨ta, pa, qa⟩ := ha.ex
  obtain ⟨tb, pb, qb⟩ := hb.ex
  refine ⟨⟨_, pw_or pa pb, fun fr G ρ σ H R Qa Q rl hr w k => ?_⟩⟩
  refine qa fr G ρ σ H R _ _ rl hr w fun z G1 H1 s1 w1 => ?_
  cases z with
  | true => exact k true G1 H1 s1 w1
  | false => exact qb fr G1 ρ σ H1 R _ _ s1.rel hr w1 fun z G2 H2 s2 w2 => k z G2 H2 (s1.trans s2) w2
theorem dt_not (ha : DT X Wx a WA') : DT X Wx (.UnaryOp .Not a pos) (wNotT WA') := by
  obtain ⟨ta, pa, qa⟩ := ha.ex
  refine ⟨⟨_, pt_not pa, fun fr G ρ σ H R Qa Q rl hr w k => ?_⟩⟩
  exact qa fr G ρ σ H R _ _ rl hr w fun z G1 H1 s1 w1 => k (!z) G1 H1 s1 w1
theorem de_one {op} (ha : DE X Wx a Wa) : DE X Wx (.BoolOp op [a] pos) Wa := let ⟨t, p, q⟩ := ha.ex; ⟨⟨t, pe_one p, q⟩⟩
theorem de_and (ha : DE X Wx a Wa) (hb : DE X Wx (.BoolOp .And (b :: rest) pos) Wb) : DE X Wx (.BoolOp .And (a :: b :: rest) pos) (wAndV Wa Wb) := by
  obtain ⟨ta, pa, qa⟩ := ha.ex
  obtain ⟨tb, pb, qb⟩ := hb.ex
  refine ⟨⟨_, pe_and pa pb, fun fr G ρ σ H R Qa Q rl hr w k => ?_⟩⟩
  refine qa fr G ρ σ H R _ _ rl hr w fun v d G1 H1 s1 r1 w1 => ?_
  cases d with
  | bl z =>
    refine ⟨z, r1, ?_⟩
    cases z with
    | false => exact k _ (.bl false) G1 H1 s1 rfl w1
    | true => exact qb fr G1 ρ σ H1 R _ _ s1.rel hr w1 fun v d G2 H2 s2 r2 w2 => k v d G2 H2 (s1.trans s2) r2 w2
  | _ => exact w1.elim
theorem de_or (ha : DE X Wx a Wa) (hb : DE X Wx (.BoolOp .Or (b :: rest) pos) Wb) : DE X Wx (.BoolOp .Or (a :: b :: rest) pos) (wOrV Wa Wb) := by
  obtain ⟨ta, pa, qa⟩ := ha.ex
  obtain ⟨tb, pb, qb⟩ := hb.ex
  refine ⟨⟨_, pe_or pa pb, fun fr G ρ σ H R Qa Q rl hr w k => ?_⟩⟩
  refine qa fr G ρ σ H R _ _ rl hr w fun v d G1 H1 s1 r1 w1 => ?_
  cases d with
  | bl z =>
    refine ⟨z, r1, ?_⟩
    cases z with
    | true => exact k _ (.bl true) G1 H1 s1 rfl w1
    | false => exact qb fr G1 ρ σ H1 R _ _ s1.rel hr w1 fun v d G2 H2 s2 r2 w2 => k v d G2 H2 (s1.trans s2) r2 w2
  | _ => exact w1.elim
theorem de_not (ha : DE X Wx a Wa) : DE X Wx (.UnaryOp .Not a pos) (wNotV Wa) := by
  obtain ⟨ta, pa, qa⟩ := ha.ex
  refine ⟨⟨_, pe_not pa, fun fr G ρ σ H R Qa Q rl hr w k => ?_⟩⟩
  refine qa fr G ρ σ H R _ _ rl hr w fun v d G1 H1 s1 r1 w1 => ?_
  cases d with
  | bl z => exact ⟨z, r1, k _ (.bl !z) G1 H1 s1 rfl w1⟩
  | _ => exact w1.elim
theorem de_if (hc : DT X Wx c WA') (ha : DE X Wx a Wa) (hb : DE X Wx b Wb) : DE X Wx (.IfExp c a b pos) (wIf WA' Wa Wb) := by
  obtain ⟨tc, pc, qc⟩ := hc.ex
  obtain ⟨ta, pa, qa⟩ := ha.ex
  obtain ⟨tb, pb, qb⟩ := hb.ex
  refine ⟨⟨_, pe_ifExp pc pa pb, fun fr G ρ σ H R Qa Q rl hr w k => ?_⟩⟩
  refine qc fr G ρ σ H R _ _ rl hr w fun z G1 H1 s1 w1 => ?_
  cases z with
  | true => exact qa fr G1 ρ σ H1 R _ _ s1.rel hr w1 fun v d G2 H2 s2 r2 w2 => k v d G2 H2 (s1.trans s2) r2 w2
  | false => exact qb fr G1 ρ σ H1 R _ _ s1.rel hr w1 fun v d G2 H2 s2 r2 w2 => k v d G2 H2 (s1.trans s2) r2 w2

/-! ### arguments, displays -/
structure DA (X : Cx) (Wx : WX) (es : List Expr) (W : WA) : Prop where
  ex : ∃ t, PA X es t ∧ ∀ fr G ρ σ H R Qa Q, Rel X.K fr G ρ σ H → RaiseE X.K Wx fr ρ σ R → W R ρ Qa → (∀ vs ds G' H', Step X.K fr G ρ σ H G' H' → Reps X.K G' H' ds vs → Qa ds → Q vs H') → t σ H Q
def RepLs (K : PySem.W.Frag) (G : GS) (ρ : Rho) (σ : L2.St) (H : Hp) : List D → List V → Prop
  | [], vs => vs = []
  | d :: ds, vs => ∃ v r, vs = v :: r ∧ RepL K G ρ σ H d v ∧ RepLs K G ρ σ H ds r
theorem RepLs.step {K : PySem.W.Frag} {fr : Fr} {G G' : GS} {ρ : Rho} {σ : L2.St} {H H' : Hp} (s : Step K fr G ρ σ H G' H') : ∀ {ds : List D} {vs : List V}, RepLs K G ρ σ H ds vs → RepLs K G' ρ σ H' ds vs
  | [], _, h => h
  | d :: ds, _, ⟨v, r, e, h1, h2⟩ => ⟨v, r, e, h1.step s, RepLs.step s h2⟩
structure DAL (X : Cx) (Wx : WX) (es : List Expr) (W : WA) : Prop where
  ex : ∃ t, PA X es t ∧ ∀ fr G ρ σ H R Qa Q, Rel X.K fr G ρ σ H → RaiseE X.K Wx fr ρ σ R → W R ρ Qa → (∀ vs ds G' H', Step X.K fr G ρ σ H G' H' → RepLs X.K G' ρ σ H' ds vs → Qa ds → Q vs H') → t σ H Q
variable {es : List Expr} {Wr : WA}
theorem da_nil : DA X Wx [] wNil := ⟨⟨_, pa_nil, fun fr G ρ σ H R Qa Q rl hr w k => k [] [] G H (.refl rl) rfl w⟩⟩
theorem da_cons (ha : DE X Wx a Wa) (hr : DA X Wx es Wr) (hs : starEach (a :: es) X.env = (false, eval a X.env) :: starEach es X.env := by rfl) : DA X Wx (a :: es) (wCons Wa Wr) := by
  obtain ⟨ta, pa, qa⟩ := ha.ex
  obtain ⟨tb, pb, qb⟩ := hr.ex
  refine ⟨⟨_, pa_cons pa pb hs, fun fr G ρ σ H R Qa Q rl hr w k => ?_⟩⟩
  refine qa fr G ρ σ H R _ _ rl hr w fun v d G1 H1 s1 r1 w1 => ?_
  refine qb fr G1 ρ σ H1 R _ _ s1.rel hr w1 fun vs ds G2 H2 s2 r2 w2 => ?_
  exact k (v :: vs) (d :: ds) G2 H2 (s1.trans s2) ⟨v, vs, rfl, s2.rep r1, r2⟩ w2
theorem dal_nil : DAL X Wx [] wNil := ⟨⟨_, pa_nil, fun fr G ρ σ H R Qa Q rl hr w k => k [] [] G H (.refl rl) rfl w⟩⟩
theorem dal_cons (ha : DL X Wx a Wa) (hr : DAL X Wx es Wr) (hs : starEach (a :: es) X.env = (false, eval a X.env) :: starEach es X.env := by rfl) : DAL X Wx (a :: es) (wCons Wa Wr) := by
  obtain ⟨ta, pa, qa⟩ := ha.ex
  obtain ⟨tb, pb, qb⟩ := hr.ex
  refine ⟨⟨_, pa_cons pa pb hs, fun fr G ρ σ H R Qa Q rl hr w k => ?_⟩⟩
  refine qa fr G ρ σ H R _ _ rl hr w fun v d G1 H1 s1 r1 w1 => ?_
  refine qb fr G1 ρ σ H1 R _ _ s1.rel hr w1 fun vs ds G2 H2 s2 r2 w2 => ?_
  exact k (v :: vs) (d :: ds) G2 H2 (s1.trans s2) ⟨v, vs, rfl, r1.step s2, r2⟩ w2
theorem line_eq : (16777216 : Nat) = sizeLine := by rw [sizeLine_eq]
theorem de_tup {k : Nat} (ha : DA X Wx es Wr) : DE X Wx (.Tuple es k pos) (wTup Wr) := by
  obtain ⟨ta, pa, qa⟩ := ha.ex
  refine ⟨⟨_, pe_tup pa, fun fr G ρ σ H R Qa Q rl hr w k => ?_⟩⟩
  refine qa fr G ρ σ H R _ _ rl hr w fun vs ds G1 H1 s1 r1 w1 => ?_
  refine ⟨by rw [r1.length, ← line_eq]; exact w1.1, fun p np => ?_⟩
  have s2 := Step.new (o := .tup vs) s1.rel np
  exact k _ (.tup ds) _ _ (s1.trans s2) ⟨p, vs, rfl, .of upd_same, s2.reps r1⟩ w1.2
/-- a new list -/
structure DN (X : Cx) (Wx : WX) (e : Expr) (W : WE) : Prop where
  ex : ∃ t, PE X e t ∧ ∀ fr G ρ σ H R Qa Q, Rel X.K fr G ρ σ H → RaiseE X.K Wx fr ρ σ R → W R ρ Qa →
    (∀ p xs ds G' H', Step X.K fr G ρ σ H G' H' → H p = none → H' p = some (.lst xs) → ¬ G' p → Reps X.K G' H' ds xs → Qa (.lst ds) → Q (.ref p) H') → t σ H Q
/-- .. given to G -/
theorem Step.take {K : PySem.W.Frag} {fr : Fr} {G G' : GS} {ρ : Rho} {σ : L2.St} {H H' : Hp} {p : Addr} {xs : List V} (r : Rel K fr G ρ σ H) (s : Step K fr G ρ σ H G' H') (n : H p = none) (e : H' p = some (.lst xs)) :
    Step K fr G ρ σ H (fun b => G' b ∨ b = p) H' := by
  refine ⟨s.rel.addG e (r.h0 n) (r.not_mut n) (fun h => ?_) (fun h => ?_), s.stab, fun b h => .inl (s.gg b h), fun b h => ?_, s.up, s.keep⟩
  · obtain ⟨_, ⟨o, q⟩, _⟩ := r.prv p h
    rw [n] at q; cases q
  · obtain ⟨_, ys, q, _⟩ := r.sta p h
    rw [n] at q; cases q
  · rcases h with h | rfl
    · exact s.gnew b h
    · exact .inr n
theorem DN.de (h : DN X Wx a Wa) : DE X Wx a Wa := by
  obtain ⟨ta, pa, qa⟩ := h.ex
  refine ⟨⟨_, pa, fun fr G ρ σ H R Qa Q rl hr w k => ?_⟩⟩
  refine qa fr G ρ σ H R _ _ rl hr w fun p xs ds G1 H1 s1 np e ng r1 w1 => ?_
  exact k _ (.lst ds) _ _ (s1.take rl np e) ⟨p, xs, rfl, .inr rfl, e, Reps.stab .refl (fun _ h => .inl h) ds xs r1⟩ w1
theorem dn_lst (ha : DA X Wx es Wr) : DN X Wx (.List es pos) (wLst Wr) := by
  obtain ⟨ta, pa, qa⟩ := ha.ex
  refine ⟨⟨_, pe_lst pa, fun fr G ρ σ H R Qa Q rl hr w k => ?_⟩⟩
  refine qa fr G ρ σ H R _ _ rl hr w fun vs ds G1 H1 s1 r1 w1 => ?_
  refine ⟨by rw [r1.length, ← line_eq]; exact w1.1, fun p np => ?_⟩
  have s2 := Step.new (o := .lst vs) s1.rel np
  refine k p vs ds _ _ (s1.trans s2) (s1.up p np) upd_same (fun g => ?_) (s2.reps r1) w1.2
  obtain ⟨o, q⟩ := s1.rel.gi p g
  rw [np] at q; cases q
end
end AV

set_option maxRecDepth 100000
set_option maxHeartbeats 4000000
namespace AV
open PySem PySem.Spec PyProof.Rows L2
variable [TabC]

/-! ### data as the library has it -/
mutual
def toPy : D → PyData
  | .non => .none
  | .bl b => .bool b
  | .int i => .int i
  | .str x => .str x
  | .tup ds => .tuple (toPys ds)
  | .lst ds => .list (toPys ds)
  | .edic => .dict []
  | .dic _ _ => .dict []
  | .scr ns => .list (ns.map .int)
  | .ins _ _ _ => .dict []
def toPys : List D → List PyData
  | [] => []
  | d :: ds => toPy d :: toPys ds
end
theorem toPys_map : ∀ ds : List D, toPys ds = ds.map toPy
  | [] => rfl
  | d :: ds => by rw [toPys, toPys_map ds]; rfl
def okD (d : D) : Prop := SeqAt.shaped (toPy d) = true
def deq (d e : D) : Bool := PyData.eqv (toPy d) (toPy e)
section
variable {K : PySem.W.Frag} {G : GS} {H : Hp}
theorem dpAll_ints : ∀ ns : List Int, DpAll K H (ns.map V.int) (ns.map PyData.int)
  | [] => .nil
  | n :: ns => .cons (.int n) (dpAll_ints ns)
mutual
theorem Rep.dp : ∀ (d : D) (v : V), PyData.canLay0 (toPy d) = true → Rep K G H d v → Dp K H v (toPy d)
  | .non, v, _, h => by cases h; exact .non
  | .bl b, v, _, h => by cases h; exact .bl b
  | .int b, v, _, h => by cases h; exact .int b
  | .str b, v, _, h => by cases h; exact .str b
  | .tup ds, v, hl, h => by
    obtain ⟨a, xs, rfl, q, rs⟩ := h
    exact .tup q (Reps.dp ds xs (by simpa [toPy, PyData.canLay0] using hl) rs)
  | .lst ds, v, hl, h => by
    obtain ⟨a, xs, rfl, g, q, rs⟩ := h
    exact .lst (.of q) (Reps.dp ds xs (by simpa [toPy, PyData.canLay0] using hl) rs)
  | .edic, v, hl, h => by simp [toPy, PyData.canLay0] at hl
  | .dic _ _, v, hl, h => by simp [toPy, PyData.canLay0] at hl
  | .scr ns, v, hl, h => by
    obtain ⟨a, rfl, q⟩ := h
    exact .lst q.sq (dpAll_ints ns)
  | .ins _ _ _, v, hl, h => by simp [toPy, PyData.canLay0] at hl
theorem Reps.dp : ∀ (ds : List D) (vs : List V), PyData.canLayAll0 (toPys ds) = true → Reps K G H ds vs → DpAll K H vs (toPys ds)
  | [], vs, _, h => by cases h; exact .nil
  | d :: ds, vs, hl, h => by
    obtain ⟨v, r, rfl, h1, h2⟩ := h
    have hl' : PyData.canLay0 (toPy d) = true ∧ PyData.canLayAll0 (toPys ds) = true := by simpa [toPys, PyData.canLayAll0] using hl
    exact .cons (Rep.dp d v hl'.1 h1) (Reps.dp ds r hl'.2 h2)
end
theorem okD.lay {d : D} (h : okD d) : PyData.canLay0 (toPy d) = true := by
  unfold okD SeqAt.shaped at h
  rw [Bool.and_eq_true] at h
  exact h.1
theorem RepL.dp {fr : Fr} {ρ : Rho} {σ : L2.St} (r : Rel K fr G ρ σ H) {d : D} {v : V} (h : RepL K G ρ σ H d v) (hk : okD d) : Dp K H v (toPy d) := by
  rcases h with h | ⟨i, oa, ds, e1, rfl, e3⟩
  · exact Rep.dp d v hk.lay h
  · have q := r.slot i
    rw [e1] at q
    obtain ⟨a, xs, e4, e5, rs, _⟩ := q
    rw [e3] at e4; cases e4
    exact .lst (.of e5) (Reps.dp ds xs (by have := hk.lay; simpa [toPy, PyData.canLay0] using this) rs)
end

def oEq (d e : D) (Q : D → Prop) : Prop := okD d ∧ okD e ∧ Q (.bl (deq d e))
def oNe (d e : D) (Q : D → Prop) : Prop := okD d ∧ okD e ∧ Q (.bl (!deq d e))
def oCmp (p : Int → Int → Bool) : D → D → (D → Prop) → Prop
  | .int i, .int j, Q => Q (.bl (p i j))
  | _, _, _ => False
def isNon : D → Bool
  | .non => true
  | _ => false
def isBl (k : Bool) : D → Bool
  | .bl b => b == k
  | _ => false
def oIsN (d e : D) (Q : D → Prop) : Prop := match e with | .non => Q (.bl (isNon d)) | .bl k => Q (.bl (isBl k d)) | _ => False
def oNotN (d e : D) (Q : D → Prop) : Prop := match e with | .non => Q (.bl (!isNon d)) | .bl k => Q (.bl (!isBl k d)) | _ => False
def flatD : D → Bool
  | .non => true
  | .bl _ => true
  | .int _ => true
  | .str _ => true
  | _ => false
def isLst : D → Bool
  | .lst _ => true
  | .scr _ => true
  | _ => false
/-- x in xs -/
def oIn (neg : Bool) (d e : D) (Q : D → Prop) : Prop := ∃ ds, seqOf e = some ds ∧ ((flatD d = true ∧ ds.all flatD = true) ∨ (isLst e = true ∧ okD d ∧ okD e)) ∧ Q (.bl (if neg then !(ds.any fun z => deq z d) else ds.any fun z => deq z d))
def oAdd : D → D → (D → Prop) → Prop
  | .int i, .int j, Q => Q (.int (i + j))
  | .tup xs, .tup ys, Q => xs.length + ys.length ≤ 16777216 ∧ Q (.tup (xs ++ ys))
  | .lst xs, .lst ys, Q => xs.length + ys.length ≤ 16777216 ∧ Q (.lst (xs ++ ys))
  | _, _, _ => False
def oSub : D → D → (D → Prop) → Prop
  | .int i, .int j, Q => Q (.int (i - j))
  | _, _, _ => False
def oMul : D → D → (D → Prop) → Prop
  | .int i, .int j, Q => ((-(2 ^ 64) < i ∧ i < 2 ^ 64) ∨ (-(2 ^ 64) < j ∧ j < 2 ^ 64)) ∧ Q (.int (i * j))
  | .lst xs, .int k, Q => -(2 ^ 63) ≤ k ∧ k < 2 ^ 63 ∧ xs.length * k.toNat ≤ 16777216 ∧ Q (.lst (List.replicate k.toNat xs).flatten)
  | .tup xs, .int k, Q => xs ≠ [] ∧ 2 ≤ k ∧ k ≤ 1000 ∧ xs.length ≤ 1000 ∧ Q (.tup (List.replicate k.toNat xs).flatten)
  | _, _, _ => False
def oMod : D → D → (D → Prop) → Prop
  | .int i, .int j, Q => 0 < j ∧ Q (.int (i % j))
  | _, _, _ => False
def oFdiv : D → D → (D → Prop) → Prop
  | .int i, .int j, Q => (0 < j ∧ j.natAbs.log2 < 9000) ∧ Q (.int (i / j))
  | _, _, _ => False
def oPow : D → D → (D → Prop) → Prop
  | .int i, .int j, Q => (0 ≤ j ∧ j ≤ 1000000 ∧ i.natAbs < 2 ^ 64) ∧ Q (.int (i ^ j.toNat))
  | _, _, _ => False
def oNeg : D → (D → Prop) → Prop
  | .int i, Q => Q (.int (-i))
  | _, _ => False
def oIx (d e : D) (Q : D → Prop) : Prop := match e with | .int i => ∃ ds x, seqOf d = some ds ∧ atI ds i = some x ∧ Q x | _ => False
section
variable {X : Cx}
theorem opa_int {r : R2} {g : Int → Int → D} {f : D → D → (D → Prop) → Prop} {gv : Int → Int → V} {C : Int → Int → Prop} (hf : ∀ d e Q, f d e Q → ∃ i j, d = .int i ∧ e = .int j ∧ C i j ∧ Q (g i j)) (hg : ∀ G H i j, Rep X.K G H (g i j) (gv i j))
    (hr : ∀ i j H Q, C i j → Q (gv i j) H → r (.int i) (.int j) H Q) : OpA X r f := fun fr G ρ σ H x y d e Qa Q rl rx ry w k => by
  obtain ⟨i, j, rfl, rfl, c, q⟩ := hf _ _ _ w
  rw [rx.int, ry.int]
  exact hr i j H Q c (k _ _ G H (.refl rl) (hg G H i j) q)
theorem oInt {f : D → D → (D → Prop) → Prop} {C : Int → Int → Prop} {g : Int → Int → D} (h : ∀ i j Q, f (.int i) (.int j) Q → C i j ∧ Q (g i j)) (h2 : ∀ d e Q, f d e Q → ∃ i j, d = .int i ∧ e = .int j) :
    ∀ d e Q, f d e Q → ∃ i j, d = .int i ∧ e = .int j ∧ C i j ∧ Q (g i j) := fun d e Q w => by
  obtain ⟨i, j, rfl, rfl⟩ := h2 d e Q w
  exact ⟨i, j, rfl, rfl, h i j Q w⟩
theorem two_int {p : Int → Int → Bool} : ∀ d e Q, oCmp p d e Q → ∃ i j, d = .int i ∧ e = .int j ∧ True ∧ Q (.bl (p i j)) := fun d e Q w => by
  cases d <;> cases e <;> simp only [oCmp] at w <;> exact ⟨_, _, rfl, rfl, trivial, w⟩
theorem cmp_lt : CmpR X .Lt (oCmp fun i j => decide (i < j)) := ⟨⟨_, op_lt, opa_int two_int (gv := fun i j => .bl (decide (i < j))) (fun _ _ _ _ => rfl) fun i j H Q _ q => ⟨i, j, rfl, rfl, q⟩⟩⟩
theorem cmp_le : CmpR X .LtE (oCmp fun i j => decide (i ≤ j)) := ⟨⟨_, op_le, opa_int two_int (gv := fun i j => .bl (decide (i ≤ j))) (fun _ _ _ _ => rfl) fun i j H Q _ q => ⟨i, j, rfl, rfl, q⟩⟩⟩
theorem cmp_gt : CmpR X .Gt (oCmp fun i j => decide (j < i)) := ⟨⟨_, op_gt, opa_int two_int (gv := fun i j => .bl (decide (j < i))) (fun _ _ _ _ => rfl) fun i j H Q _ q => ⟨i, j, rfl, rfl, q⟩⟩⟩
theorem cmp_ge : CmpR X .GtE (oCmp fun i j => decide (j ≤ i)) := ⟨⟨_, op_ge, opa_int two_int (gv := fun i j => .bl (decide (j ≤ i))) (fun _ _ _ _ => rfl) fun i j H Q _ q => ⟨i, j, rfl, rfl, q⟩⟩⟩
theorem cmp_eq (hu : X.A.units + 64 < cLine) : CmpR X .Eq oEq := ⟨⟨_, op_eqD hu, fun fr G ρ σ H x y d e Qa Q rl rx ry w k => ⟨_, _, rx.dp rl w.1, ry.dp rl w.2.1, w.1, w.2.1, k (.bl _) (.bl _) G H (.refl rl) rfl w.2.2⟩⟩⟩
theorem cmp_ne (hu : X.A.units + 64 < cLine) : CmpR X .NotEq oNe := ⟨⟨_, op_neD hu, fun fr G ρ σ H x y d e Qa Q rl rx ry w k => ⟨_, _, rx.dp rl w.1, ry.dp rl w.2.1, w.1, w.2.1, k (.bl _) (.bl _) G H (.refl rl) rfl w.2.2⟩⟩⟩
theorem isNon_rep {K : PySem.W.Frag} {G : GS} {ρ : Rho} {σ : L2.St} {H : Hp} {d : D} {v : V} (h : RepL K G ρ σ H d v) (hs : ∀ i v, sv σ i = some v → gt ρ i ≠ .un → True) : True := trivial
theorem RepL.nonI {K : PySem.W.Frag} {fr : Fr} {G : GS} {ρ : Rho} {σ : L2.St} {H : Hp} (r : Rel K fr G ρ σ H) {d : D} {v : V} (h : RepL K G ρ σ H d v) : decide (v = .non) = isNon d := by
  rcases h with h | ⟨i, oa, ds, e1, rfl, e3⟩
  · cases d with
    | non => cases h; rfl
    | bl _ => cases h; rfl
    | int _ => cases h; rfl
    | str _ => cases h; rfl
    | tup _ => obtain ⟨a, xs, rfl, _⟩ := h; rfl
    | lst _ => obtain ⟨a, xs, rfl, _⟩ := h; rfl
    | edic => obtain ⟨a, rfl, _⟩ := h; rfl
    | dic _ _ => obtain ⟨a, _, _, rfl, _⟩ := h; rfl
    | scr _ => obtain ⟨a, rfl, _⟩ := h; rfl
    | ins _ _ _ => obtain ⟨a, _, _, rfl, _⟩ := h; rfl
  · have q := r.slot i
    rw [e1] at q
    obtain ⟨a, xs, e4, _⟩ := q
    rw [e3] at e4; cases e4
    rfl
def valV : V → Bool
  | .non => true
  | .bl _ => true
  | .int _ => true
  | .str _ => true
  | .ref _ => true
  | _ => false
def isBV (k : Bool) : V → Bool
  | .bl b => b == k
  | _ => false
theorem op_isB {X : Cx} : OpR X (compareOp .Is) (fun x y H Q => ∃ k, y = .bl k ∧ valV x = true ∧ Q (.bl (isBV k x)) H) := by
  intro pins s σ H x y v u Q I rx ry h
  obtain ⟨k, rfl, hv, q⟩ := h
  cases ry
  cases x <;> first
    | (cases rx; exact wpAny_pure (fin_bl I q rfl))
    | (obtain ⟨t, rfl⟩ := rx; exact wpAny_pure (fin_bl I q rfl))
    | (rename_i b; cases rx; cases b <;> cases k <;> exact wpAny_pure (fin_bl I q rfl))
    | cases hv
theorem op_notB {X : Cx} : OpR X (compareOp .IsNot) (fun x y H Q => ∃ k, y = .bl k ∧ valV x = true ∧ Q (.bl (!isBV k x)) H) := by
  intro pins s σ H x y v u Q I rx ry h
  obtain ⟨k, rfl, hv, q⟩ := h
  cases ry
  cases x <;> first
    | (cases rx; exact wpAny_pure (fin_bl I q rfl))
    | (obtain ⟨t, rfl⟩ := rx; exact wpAny_pure (fin_bl I q rfl))
    | (rename_i b; cases rx; cases b <;> cases k <;> exact wpAny_pure (fin_bl I q rfl))
    | cases hv
theorem RepL.isBl {K : PySem.W.Frag} {fr : Fr} {G : GS} {ρ : Rho} {σ : L2.St} {H : Hp} (r : Rel K fr G ρ σ H) {d : D} {v : V} (h : RepL K G ρ σ H d v) (k : Bool) : valV v = true ∧ isBV k v = isBl k d := by
  rcases h with h | ⟨i, oa, ds, e1, rfl, e3⟩
  · cases d with
    | non => cases h; exact ⟨rfl, rfl⟩
    | bl _ => cases h; exact ⟨rfl, rfl⟩
    | int _ => cases h; exact ⟨rfl, rfl⟩
    | str _ => cases h; exact ⟨rfl, rfl⟩
    | tup _ => obtain ⟨a, xs, rfl, _⟩ := h; exact ⟨rfl, rfl⟩
    | lst _ => obtain ⟨a, xs, rfl, _⟩ := h; exact ⟨rfl, rfl⟩
    | edic => obtain ⟨a, rfl, _⟩ := h; exact ⟨rfl, rfl⟩
    | dic _ _ => obtain ⟨a, _, _, rfl, _⟩ := h; exact ⟨rfl, rfl⟩
    | scr _ => obtain ⟨a, rfl, _⟩ := h; exact ⟨rfl, rfl⟩
    | ins _ _ _ => obtain ⟨a, _, _, rfl, _⟩ := h; exact ⟨rfl, rfl⟩
  · have q := r.slot i
    rw [e1] at q
    obtain ⟨a, xs, e4, _⟩ := q
    rw [e3] at e4; cases e4
    exact ⟨rfl, rfl⟩
theorem cmp_is : CmpR X .Is oIsN := ⟨⟨_, op_isN.or op_isB, fun fr G ρ σ H x y d e Qa Q rl rx ry w k => by
  cases e <;> simp only [oIsN] at w <;> first | exact w.elim | skip
  · rw [ry.non, rx.nonI rl]
    exact .inl ⟨rfl, k (.bl _) (.bl _) G H (.refl rl) rfl w⟩
  · rename_i b
    obtain ⟨h1, h2⟩ := rx.isBl rl b
    exact .inr ⟨b, ry.bl, h1, by rw [h2]; exact k (.bl _) (.bl _) G H (.refl rl) rfl w⟩⟩⟩
theorem cmp_isnot : CmpR X .IsNot oNotN := ⟨⟨_, op_notN.or op_notB, fun fr G ρ σ H x y d e Qa Q rl rx ry w k => by
  cases e <;> simp only [oNotN] at w <;> first | exact w.elim | skip
  · rw [ry.non, rx.nonI rl]
    exact .inl ⟨rfl, k (.bl _) (.bl _) G H (.refl rl) rfl w⟩
  · rename_i b
    obtain ⟨h1, h2⟩ := rx.isBl rl b
    exact .inr ⟨b, ry.bl, h1, by rw [h2]; exact k (.bl _) (.bl _) G H (.refl rl) rfl w⟩⟩⟩
theorem flat_rep {K : PySem.W.Frag} {G : GS} {H : Hp} {d : D} {v : V} (h : Rep K G H d v) (f : flatD d = true) : flatV v = true := by
  cases d <;> simp only [flatD] at f <;> cases f <;> cases h <;> rfl
theorem flat_reps {K : PySem.W.Frag} {G : GS} {H : Hp} : ∀ {ds : List D} {vs : List V}, Reps K G H ds vs → ds.all flatD = true → vs.all flatV = true
  | [], _, h, _ => by cases h; rfl
  | d :: ds, _, ⟨v, r, e, h1, h2⟩, f => by
    subst e
    rw [List.all_cons, Bool.and_eq_true] at f
    rw [List.all_cons, Bool.and_eq_true]
    exact ⟨flat_rep h1 f.1, flat_reps h2 f.2⟩
theorem flat_eqV {K : PySem.W.Frag} {G : GS} {H : Hp} {d e : D} {v u : V} (h : Rep K G H d v) (h' : Rep K G H e u) (f : flatD d = true) (f' : flatD e = true) : eqV v u = deq d e := by
  cases d <;> simp only [flatD] at f <;> cases f <;> cases h <;> cases e <;> simp only [flatD] at f' <;> cases f' <;> cases h' <;> rfl
theorem flat_inV {K : PySem.W.Frag} {G : GS} {H : Hp} {d : D} {v : V} (h : Rep K G H d v) (f : flatD d = true) : ∀ {ds : List D} {vs : List V}, Reps K G H ds vs → ds.all flatD = true → inV v vs = ds.any fun z => deq z d
  | [], _, h, _ => by cases h; rfl
  | z :: ds, _, ⟨u, r, e, h1, h2⟩, fs => by
    subst e
    rw [List.all_cons, Bool.and_eq_true] at fs
    have ih := flat_inV h f h2 fs.2
    show (eqV u v || inV v r) = _
    rw [ih, flat_eqV h1 h fs.1 f]
    rfl
theorem RepL.flat {K : PySem.W.Frag} {G : GS} {ρ : Rho} {σ : L2.St} {H : Hp} {d : D} {v : V} (h : RepL K G ρ σ H d v) (f : flatD d = true) : Rep K G H d v := by
  rcases h with h | ⟨i, oa, ds, e1, rfl, e3⟩
  · exact h
  · cases f
theorem any_toPys (d : D) : ∀ ds : List D, ((toPys ds).any fun z => PyData.eqv z (toPy d)) = ds.any fun z => deq z d
  | [] => rfl
  | z :: ds => by
    rw [toPys, List.any_cons, List.any_cons, any_toPys d ds]; rfl
theorem isLst_py {e : D} {ds : List D} (h : isLst e = true) (hs : seqOf e = some ds) : toPy e = .list (toPys ds) := by
  cases e <;> simp only [isLst] at h <;> cases h <;> simp only [seqOf] at hs <;> cases hs
  · rfl
  · rename_i ns
    rw [toPy, toPys_map, List.map_map]; rfl
theorem opa_in (hu : X.A.units + 65 < cLine) : CmpR X .In (oIn false) := ⟨⟨_, op_in_seq.or (op_inD hu), fun fr G ρ σ H x y d e Qa Q rl rx ry w k => by
  obtain ⟨ds, hs, hc, q⟩ := w
  rcases hc with ⟨f1, f2⟩ | ⟨hl, k1, k2⟩
  · obtain ⟨a, xs, rfl, sq, rs⟩ := ry.seq rl hs
    refine .inl ⟨a, xs, rfl, sq, flat_rep (rx.flat f1) f1, flat_reps rs f2, ?_⟩
    rw [flat_inV (rx.flat f1) f1 rs f2]
    exact k (.bl _) (.bl _) G H (.refl rl) rfl q
  · refine .inr ⟨_, toPys ds, rx.dp rl k1, ?_, k1, ?_, ?_⟩
    · rw [← isLst_py hl hs]; exact ry.dp rl k2
    · rw [← isLst_py hl hs]; exact k2
    · rw [any_toPys]
      exact k (.bl _) (.bl _) G H (.refl rl) rfl q⟩⟩
theorem opa_notin (hu : X.A.units + 65 < cLine) : CmpR X .NotIn (oIn true) := ⟨⟨_, op_notIn_seq.or (op_notInD hu), fun fr G ρ σ H x y d e Qa Q rl rx ry w k => by
  obtain ⟨ds, hs, hc, q⟩ := w
  rcases hc with ⟨f1, f2⟩ | ⟨hl, k1, k2⟩
  · obtain ⟨a, xs, rfl, sq, rs⟩ := ry.seq rl hs
    refine .inl ⟨a, xs, rfl, sq, flat_rep (rx.flat f1) f1, flat_reps rs f2, ?_⟩
    rw [flat_inV (rx.flat f1) f1 rs f2]
    exact k (.bl _) (.bl _) G H (.refl rl) rfl q
  · refine .inr ⟨_, toPys ds, rx.dp rl k1, ?_, k1, ?_, ?_⟩
    · rw [← isLst_py hl hs]; exact ry.dp rl k2
    · rw [← isLst_py hl hs]; exact k2
    · rw [any_toPys]
      exact k (.bl _) (.bl _) G H (.refl rl) rfl q⟩⟩

/-! ### arithmetic -/
variable {Wx : WX} {a b c : Expr} {Wa Wb Wc : WE} {pos : Pos}
def rAdd3 (K : PySem.W.Frag) : R2 := fun x y H Q => rI0 (fun i j => .int (i + j)) x y H Q ∨ (rCatA K x y H Q ∨ rCat x y H Q)
theorem opa_add : OpA X (rAdd3 X.K) oAdd := fun fr G ρ σ H x y d e Qa Q rl rx ry w k => by
  cases d <;> cases e <;> simp only [oAdd] at w
  · rename_i i j
    rw [rx.int, ry.int]
    exact .inl ⟨i, j, rfl, rfl, k (.int _) (.int _) G H (.refl rl) rfl w⟩
  · rename_i ds es
    obtain ⟨p, xs, rfl, q1, r1⟩ := rx.tup
    obtain ⟨p', ys, rfl, q2, r2⟩ := ry.tup
    refine .inr (.inl ⟨p, p', xs, ys, rfl, rfl, q1, q2, by rw [r1.length, r2.length, ← line_eq]; exact w.1, fun e => ?_, fun _ e => ?_, fun _ _ q np => ?_⟩)
    · have : ds = [] := by
        have := r1.length
        rw [e] at this
        exact List.eq_nil_of_length_eq_zero this.symm
      subst this
      exact k _ (.tup es) G H (.refl rl) ⟨p', ys, rfl, q2, r2⟩ (by simpa using w.2)
    · have : es = [] := by
        have := r2.length
        rw [e] at this
        exact List.eq_nil_of_length_eq_zero this.symm
      subst this
      exact k _ (.tup ds) G H (.refl rl) ⟨p, xs, rfl, q1, r1⟩ (by simpa using w.2)
    · have s2 := Step.new (o := .tup (xs ++ ys)) rl np
      exact k _ (.tup (ds ++ es)) _ _ s2 ⟨q, _, rfl, .of upd_same, s2.reps (r1.append r2)⟩ w.2
  · rename_i ds es
    obtain ⟨p, xs, rfl, q1, r1⟩ := rx.lst rl
    obtain ⟨p', ys, rfl, q2, r2⟩ := ry.lst rl
    refine .inr (.inr ⟨p, p', xs, ys, rfl, rfl, q1, q2, by rw [r1.length, r2.length, ← line_eq]; exact w.1, fun q np => ?_⟩)
    have s2 := Step.newG (o := .lst (xs ++ ys)) rl np
    exact k _ (.lst (ds ++ es)) _ _ s2 ⟨q, _, rfl, .inr rfl, upd_same, s2.reps (r1.append r2)⟩ w.2
theorem de_add (ha : DL X Wx a Wa) (hb : DL X Wx b Wb) : DE X Wx (.BinOp a .Add b pos) (wOp oAdd Wa Wb) := de_op opa_add (op_add.or (op_catA.or op_cat)) ha hb
theorem de_sub (ha : DL X Wx a Wa) (hb : DL X Wx b Wb) : DE X Wx (.BinOp a .Sub b pos) (wOp oSub Wa Wb) := de_op (r := rI0 fun i j => .int (i - j)) (fun fr G ρ σ H x y d e Qa Q rl rx ry w k => by
  cases d <;> cases e <;> simp only [oSub] at w
  rw [rx.int, ry.int]
  exact ⟨_, _, rfl, rfl, k (.int _) (.int _) G H (.refl rl) rfl w⟩) op_sub ha hb
theorem de_mul (ha : DL X Wx a Wa) (hb : DL X Wx b Wb) : DE X Wx (.BinOp a .Mult b pos) (wOp oMul Wa Wb) := de_op (r := fun x y H Q => rI CMul (fun i j => .int (i * j)) x y H Q ∨ (rRepT X.K x y H Q ∨ rRep x y H Q)) (fun fr G ρ σ H x y d e Qa Q rl rx ry w k => by
  cases d <;> cases e <;> simp only [oMul] at w
  · rw [rx.int, ry.int]
    exact .inl ⟨_, _, rfl, rfl, w.1, k (.int _) (.int _) G H (.refl rl) rfl w.2⟩
  · rename_i ds i
    obtain ⟨p, xs, rfl, q1, r1⟩ := rx.tup
    rw [ry.int]
    refine .inr (.inl ⟨p, i, xs, rfl, rfl, q1, fun z => w.1 ?_, w.2.1, w.2.2.1, by rw [r1.length]; exact w.2.2.2.1, fun q np => ?_⟩)
    · have := r1.length
      rw [z] at this
      exact List.eq_nil_of_length_eq_zero this.symm
    · have s2 := Step.new (o := .tup (List.replicate i.toNat xs).flatten) rl np
      exact k _ (.tup (List.replicate i.toNat ds).flatten) _ _ s2 ⟨q, _, rfl, .of upd_same, s2.reps (r1.rep _)⟩ w.2.2.2.2
  · rename_i ds i
    obtain ⟨p, xs, rfl, q1, r1⟩ := rx.lst rl
    rw [ry.int]
    refine .inr (.inr ⟨p, i, xs, rfl, rfl, q1, w.1, w.2.1, by rw [r1.length, ← line_eq]; exact w.2.2.1, fun q np => ?_⟩)
    have s2 := Step.newG (o := .lst (List.replicate i.toNat xs).flatten) rl np
    exact k _ (.lst (List.replicate i.toNat ds).flatten) _ _ s2 ⟨q, _, rfl, .inr rfl, upd_same, s2.reps (r1.rep _)⟩ w.2.2.2) (op_mul.or (op_repT.or op_rep)) ha hb
theorem de_mod (ha : DL X Wx a Wa) (hb : DL X Wx b Wb) : DE X Wx (.BinOp a .Mod b pos) (wOp oMod Wa Wb) := de_op (fun fr G ρ σ H x y d e Qa Q rl rx ry w k => by
  cases d <;> cases e <;> simp only [oMod] at w
  rw [rx.int, ry.int]
  exact ⟨_, _, rfl, rfl, w.1, k (.int _) (.int _) G H (.refl rl) rfl w.2⟩) op_mod ha hb
theorem de_fdiv (ha : DL X Wx a Wa) (hb : DL X Wx b Wb) : DE X Wx (.BinOp a .FloorDiv b pos) (wOp oFdiv Wa Wb) := de_op (fun fr G ρ σ H x y d e Qa Q rl rx ry w k => by
  cases d <;> cases e <;> simp only [oFdiv] at w
  rw [rx.int, ry.int]
  exact ⟨_, _, rfl, rfl, w.1, k (.int _) (.int _) G H (.refl rl) rfl w.2⟩) op_fdivW ha hb
theorem de_pow (ha : DL X Wx a Wa) (hb : DL X Wx b Wb) : DE X Wx (.BinOp a .Pow b pos) (wOp oPow Wa Wb) := de_op (fun fr G ρ σ H x y d e Qa Q rl rx ry w k => by
  cases d <;> cases e <;> simp only [oPow] at w
  rw [rx.int, ry.int]
  exact ⟨_, _, rfl, rfl, w.1, k (.int _) (.int _) G H (.refl rl) rfl w.2⟩) op_pow ha hb
theorem de_neg (ha : DL X Wx a Wa) : DE X Wx (.UnaryOp .USub a pos) (wUn oNeg Wa) := de_un (fun fr G ρ σ H x d Qa Q rl rx w k => by
  cases d <;> simp only [oNeg] at w
  rw [rx.int]
  exact ⟨_, rfl, k (.int _) (.int _) G H (.refl rl) rfl w⟩) un_neg ha

/-! ### items -/
theorem ixN_at {α : Type} {xs : List α} {i : Int} {v : α} (h : atI xs i = some v) : ∃ j, ixN xs.length i = some j ∧ xs[j]? = some v := by
  unfold atI at h
  cases e : ixN xs.length i with
  | none => rw [e] at h; cases h
  | some j => rw [e] at h; exact ⟨j, rfl, h⟩
theorem atI_reps {K : PySem.W.Frag} {G : GS} {H : Hp} {ds : List D} {xs : List V} {i : Int} {d : D} (r : Reps K G H ds xs) (h : atI ds i = some d) : ∃ v, atI xs i = some v ∧ Rep K G H d v := by
  obtain ⟨j, e1, e2⟩ := ixN_at h
  obtain ⟨v, e3, rv⟩ := r.get e2
  refine ⟨v, ?_, rv⟩
  unfold atI
  rw [r.length, e1]
  exact e3
theorem de_ix (ha : DL X Wx a Wa) (hb : DE X Wx b Wb) (hs : PlainIx b := by exact fun _ _ => rfl) : DE X Wx (.Subscript a b pos) (wOp oIx Wa Wb) := by
  obtain ⟨ta, pa, qa⟩ := ha.ex
  obtain ⟨tb, pb, qb⟩ := hb.ex
  refine ⟨⟨_, pe_ix ix_seq pa pb hs, fun fr G ρ σ H R Qa Q rl hr w k => ?_⟩⟩
  refine qa fr G ρ σ H R _ _ rl hr w fun v d G1 H1 s1 r1 w1 => ?_
  refine qb fr G1 ρ σ H1 R _ _ s1.rel hr w1 fun v2 d2 G2 H2 s2 r2 w2 => ?_
  cases d2 <;> simp only [oIx] at w2
  rename_i i
  obtain ⟨ds, x, e1, e2, q⟩ := w2
  obtain ⟨p, xs, rfl, sq, rs⟩ := (r1.step s2).seq s2.rel e1
  have e3 : v2 = .int i := r2
  subst e3
  obtain ⟨u, e4, ru⟩ := atI_reps rs e2
  rcases sq with sq | sq
  · exact .inl ⟨p, xs, i, u, rfl, rfl, sq, e4, k u x G2 H2 (s1.trans s2) ru q⟩
  · exact .inr (.inl ⟨p, xs, i, u, rfl, rfl, sq, e4, k u x G2 H2 (s1.trans s2) ru q⟩)
/-! ### slices -/
structure DO (X : Cx) (Wx : WX) (e : Option Expr) (W : (EX → Prop) → Rho → (Option Int → Prop) → Prop) : Prop where
  ex : ∃ t, PO X e t ∧ ∀ fr G ρ σ H R Qa Q, Rel X.K fr G ρ σ H → RaiseE X.K Wx fr ρ σ R → W R ρ Qa → (∀ k G' H', Step X.K fr G ρ σ H G' H' → Qa k → Q k H') → t σ H Q
abbrev WO := (EX → Prop) → Rho → (Option Int → Prop) → Prop
def wNo : WO := fun _ _ Q => Q none
def wSo (W : WE) : WO := fun R ρ Q => W R ρ fun d => match d with | .int i => Q (some i) | _ => False
theorem do_no : DO X Wx none wNo := ⟨⟨_, po_none, fun fr G ρ σ H R Qa Q rl hr w k => k none G H (.refl rl) w⟩⟩
theorem do_so (ha : DE X Wx a Wa) : DO X Wx (some a) (wSo Wa) := by
  obtain ⟨ta, pa, qa⟩ := ha.ex
  refine ⟨⟨_, po_some pa, fun fr G ρ σ H R Qa Q rl hr w k => ?_⟩⟩
  refine qa fr G ρ σ H R _ _ rl hr w fun v d G1 H1 s1 r1 w1 => ?_
  cases d with
  | int i => exact ⟨i, r1, k (some i) G1 H1 s1 w1⟩
  | _ => exact w1.elim
def cutD (xs : List D) (lo hi : Option Int) : List D := (xs.drop (HT.sIx xs.length 0 lo)).take (HT.sIx xs.length xs.length hi - HT.sIx xs.length 0 lo)
def oCut (lo hi : Option Int) : D → (D → Prop) → Prop
  | .tup ds, Q => Q (.tup (cutD ds lo hi))
  | .lst ds, Q => Q (.lst (cutD ds lo hi))
  | _, _ => False
def wCut (Wa : WE) (Wl Wh : WO) : WE := fun R ρ Q => Wa R ρ fun x => Wl R ρ fun lo => Wh R ρ fun hi => oCut lo hi x Q
theorem reps_cut {K : PySem.W.Frag} {G : GS} {H : Hp} {ds : List D} {xs : List V} (r : Reps K G H ds xs) (lo hi : Option Int) : Reps K G H (cutD ds lo hi) (cutV xs lo hi) := by
  unfold cutD cutV
  rw [r.length]
  exact (r.drop _).take _
theorem de_cut {lo hi : Option Expr} {Wl Wh : WO} {p2 : Pos} (ha : DL X Wx a Wa) (hl : DO X Wx lo Wl) (hh : DO X Wx hi Wh) : DE X Wx (.Subscript a (.Slice lo hi none p2) pos) (wCut Wa Wl Wh) := by
  obtain ⟨ta, pa, qa⟩ := ha.ex
  obtain ⟨tl, pl, ql⟩ := hl.ex
  obtain ⟨th, ph, qh⟩ := hh.ex
  refine ⟨⟨_, pe_slice (sl_tupA.or sl_list) pa pl ph, fun fr G ρ σ H R Qa Q rl hr w k => ?_⟩⟩
  refine qa fr G ρ σ H R _ _ rl hr w fun v d G1 H1 s1 r1 w1 => ?_
  refine ql fr G1 ρ σ H1 R _ _ s1.rel hr w1 fun l G2 H2 s2 w2 => ?_
  refine qh fr G2 ρ σ H2 R _ _ s2.rel hr w2 fun u G3 H3 s3 w3 => ?_
  have r3 := (r1.step s2).step s3
  have s0 := (s1.trans s2).trans s3
  cases d with
  | tup ds =>
    obtain ⟨p, xs, rfl, q, rs⟩ := r3.tup
    refine .inl ⟨p, xs, rfl, q, fun hw => ?_, fun _ np hn => ?_⟩
    · have e : cutD ds l u = ds := by
        unfold cutD
        rw [← rs.length, hw.1, hw.2, rs.length]; simp
      exact k _ (.tup ds) G3 H3 s0 ⟨p, xs, rfl, q, rs⟩ (by have w3' : Qa (.tup (cutD ds l u)) := w3; rw [e] at w3'; exact w3')
    · have s4 := Step.new (o := .tup (cutV xs l u)) s3.rel hn
      exact k _ (.tup (cutD ds l u)) _ _ (s0.trans s4) ⟨np, _, rfl, .of upd_same, s4.reps (reps_cut rs l u)⟩ w3
  | lst ds =>
    obtain ⟨p, xs, rfl, q, rs⟩ := r3.lst s3.rel
    refine .inr ⟨p, xs, rfl, .of q, fun np hn => ?_⟩
    have s4 := Step.newG (o := .lst (cutV xs l u)) s3.rel hn
    exact k _ (.lst (cutD ds l u)) _ _ (s0.trans s4) ⟨np, _, rfl, .inr rfl, upd_same, s4.reps (reps_cut rs l u)⟩ w3
  | _ => exact w3.elim
end
end AV

set_option maxRecDepth 100000
set_option maxHeartbeats 4000000
namespace AV
open PySem PySem.Spec PyProof.Rows L2
variable [TabC]

/-! ### targets -/
abbrev WG := D → Rho → (Rho → Prop) → Prop
abbrev WGs := List D → Rho → (Rho → Prop) → Prop
def gN (i : Nat) : WG := fun d ρ Q => Q (ρ.set i (.val d))
def gT (g : WGs) : WG := fun d ρ Q => match d with | .tup ds => g ds ρ Q | _ => False
def gs0 : WGs := fun ds ρ Q => match ds with | [] => Q ρ | _ => False
def gs1 (g : WG) (gs : WGs) : WGs := fun ds ρ Q => match ds with | d :: r => g d ρ fun ρ' => gs r ρ' Q | _ => False
structure OnlyAt (vs : List Nat) (ρ ρ' : Rho) (σ σ' : L2.St) : Prop where
  len : σ'.length = σ.length
  at' : ∀ j, j ∉ vs → gt ρ' j = gt ρ j ∧ σ'[j]? = σ[j]?
theorem OnlyAt.refl {vs : List Nat} {ρ : Rho} {σ : L2.St} : OnlyAt vs ρ ρ σ σ := ⟨rfl, fun _ _ => ⟨rfl, rfl⟩⟩
theorem OnlyAt.trans {vs ws us : List Nat} {ρ ρ1 ρ2 : Rho} {σ σ1 σ2 : L2.St} (a : OnlyAt vs ρ ρ1 σ σ1) (b : OnlyAt ws ρ1 ρ2 σ1 σ2) (h1 : ∀ v ∈ vs, v ∈ us) (h2 : ∀ v ∈ ws, v ∈ us) : OnlyAt us ρ ρ2 σ σ2 := ⟨b.len.trans a.len, fun j hj => by
  obtain ⟨p1, p2⟩ := a.at' j fun z => hj (h1 j z)
  obtain ⟨q1, q2⟩ := b.at' j fun z => hj (h2 j z)
  exact ⟨q1.trans p1, q2.trans p2⟩⟩
structure DG (X : Cx) (tg : Expr) (vs : List Nat) (g : WG) : Prop where
  ex : ∃ t, PG X tg t ∧ ∀ fr G ρ σ H v d Qa Q, Rel X.K fr G ρ σ H → Rep X.K G H d v → g d ρ Qa → (∀ ρ' σ', Rel X.K fr G ρ' σ' H → OnlyAt vs ρ ρ' σ σ' → Qa ρ' → Q σ' H) → t v σ H Q
structure DGs (X : Cx) (tgs : List Expr) (vs : List Nat) (g : WGs) : Prop where
  ex : ∃ t, PGs X tgs t ∧ ∀ fr G ρ σ H us ds Qa Q, Rel X.K fr G ρ σ H → Reps X.K G H ds us → g ds ρ Qa → (∀ ρ' σ', Rel X.K fr G ρ' σ' H → OnlyAt vs ρ ρ' σ σ' → Qa ρ' → Q σ' H) → t us σ H Q
section
variable {K : PySem.W.Frag} {fr : Fr} {G : GS} {ρ : Rho} {σ : L2.St} {H : Hp}
/-- a slot written -/
theorem Rel.set (r : Rel K fr G ρ σ H) (i : Nat) {s : Slot} {o : Option V} (hs : SlotOk K fr G H s o) (hm : isMut s → ∀ a, o = some (.ref a) → (∀ j, j ≠ i → isMut (gt ρ j) → sv σ j ≠ some (.ref a)) ∧ ¬ fr.Pv a) : Rel K fr G (ρ.set i s) (σ.set i o) H where
  g0 := r.g0
  gn := r.gn
  gi := r.gi
  same := r.same
  sta := r.sta
  slot := fun j => by
    rw [gt_set, sv_set, r.len]
    by_cases h : j = i ∧ i < ρ.length
    · rw [if_pos h, if_pos h]; exact hs
    · rw [if_neg h, if_neg h]; exact r.slot j
  apart := fun j k a hjk m1 m2 e1 e2 => by
    rw [gt_set] at m1 m2
    rw [sv_set, r.len] at e1 e2
    by_cases hj : j = i ∧ i < ρ.length
    · rw [if_pos hj] at m1 e1
      have hk : ¬ (k = i ∧ i < ρ.length) := fun z => hjk (hj.1.trans z.1.symm)
      rw [if_neg hk] at m2 e2
      exact (hm m1 a e1).1 k (fun z => hjk (hj.1.trans z.symm)) m2 e2
    · rw [if_neg hj] at m1 e1
      by_cases hk : k = i ∧ i < ρ.length
      · rw [if_pos hk] at m2 e2
        exact (hm m2 a e2).1 j (fun z => hjk (z.trans hk.1.symm)) m1 e1
      · rw [if_neg hk] at m2 e2
        exact r.apart j k a hjk m1 m2 e1 e2
  len := by rw [List.length_set, List.length_set]; exact r.len
  bst := r.bst
  bg := r.bg
  prv := fun b h => by
    obtain ⟨a1, a2, a3, a4⟩ := r.prv b h
    refine ⟨a1, a2, a3, fun j m e => ?_⟩
    rw [gt_set] at m
    rw [sv_set, r.len] at e
    by_cases hj : j = i ∧ i < ρ.length
    · rw [if_pos hj] at m e
      exact (hm m b e).2 h
    · rw [if_neg hj] at m e
      exact a4 j m e
  tb := r.tb
  tbs := r.tbs
theorem Rel.setVal (r : Rel K fr G ρ σ H) (i : Nat) {d : D} {v : V} (h : Rep K G H d v) : Rel K fr G (ρ.set i (.val d)) (σ.set i (some v)) H := r.set i ⟨v, rfl, h⟩ fun m => m.elim
theorem onlyAt_set (i : Nat) {s : Slot} {o : Option V} {vs : List Nat} (h : i ∈ vs) : OnlyAt vs ρ (ρ.set i s) σ (σ.set i o) := ⟨List.length_set .., fun j hj => by
  have ne : ¬ j = i := fun z => hj (z ▸ h)
  refine ⟨?_, by rw [List.getElem?_set_ne (fun z => ne z.symm)]⟩
  rw [gt_set, if_neg fun z => ne z.1]⟩
end
section
variable {X : Cx} {pos : Pos}
theorem dg_name (i : Nat) {x : Str} (hN : X.N.Nodup) (hi : X.N[i]? = some x := by rfl) (hx : Loc X.env.scope x := by first | exact .inl rfl | exact .inr rfl) (hf : X.fn x = true ∨ X.env.scope.names.lookup x = some .local := by first | exact .inl rfl | exact .inr rfl) : DG X (.Name x pos) [i] (gN i) :=
  ⟨⟨_, pg_name hN hi hx hf, fun fr G ρ σ H v d Qa Q r rp w k => k _ _ (r.setVal i rp) (onlyAt_set i (List.mem_singleton.mpr rfl)) w⟩⟩
theorem dgs_nil : DGs X [] [] gs0 := ⟨⟨_, pgs_nil, fun fr G ρ σ H us ds Qa Q r rp w k => by
  cases ds with
  | nil => exact ⟨rp, k ρ σ r .refl w⟩
  | cons _ _ => exact w.elim⟩⟩
theorem dgs_cons {e : Expr} {es : List Expr} {vs ws : List Nat} {g : WG} {gs : WGs} (h1 : DG X e vs g) (h2 : DGs X es ws gs) (hs : (assignEach (e :: es) X.env).map (·.2) = assign e X.env :: (assignEach es X.env).map (·.2) := by rfl) : DGs X (e :: es) (vs ++ ws) (gs1 g gs) := by
  obtain ⟨t, p, q⟩ := h1.ex
  obtain ⟨t2, p2, q2⟩ := h2.ex
  refine ⟨⟨_, pgs_cons p p2 hs, fun fr G ρ σ H us ds Qa Q r rp w k => ?_⟩⟩
  cases ds with
  | nil => exact w.elim
  | cons d ds =>
    obtain ⟨v, vr, rfl, r1, r2⟩ := rp
    refine ⟨v, vr, rfl, q fr G ρ σ H v d _ _ r r1 w fun ρ1 σ1 rl1 o1 w1 => ?_⟩
    exact q2 fr G ρ1 σ1 H vr ds _ _ rl1 r2 w1 fun ρ2 σ2 rl2 o2 w2 => k ρ2 σ2 rl2 (o1.trans o2 (fun v h => List.mem_append_left _ h) fun v h => List.mem_append_right _ h) w2
theorem dg_tup {es : List Expr} {k : Nat} {vs : List Nat} {gs : WGs} {n : Nat} (hc : X.calm = true) (h : DGs X es vs gs) (hn : (assignEach es X.env).length = n := by rfl) (hl : ∀ ds ρ Q, gs ds ρ Q → ds.length = n)
    (hst : (assignEach es X.env).findIdx? (·.1) = none := by rfl) : DG X (.Tuple es k pos) vs (gT gs) := by
  obtain ⟨t, p, q⟩ := h.ex
  refine ⟨⟨_, pg_tup hc p hn hst, fun fr G ρ σ H v d Qa Q r rp w k => ?_⟩⟩
  cases d with
  | tup ds =>
    obtain ⟨a, xs, rfl, sq, rs⟩ := rp
    exact ⟨a, xs, rfl, sq, by rw [rs.length]; exact hl ds ρ _ w, q fr G ρ σ H xs ds _ _ r rs w k⟩
  | _ => exact w.elim
theorem gs_len0 : ∀ ds ρ Q, gs0 ds ρ Q → ds.length = 0 := fun ds ρ Q h => by
  cases ds with
  | nil => rfl
  | cons _ _ => exact h.elim
end
/-- targets that go on whatever holds -/
def WG.len (g : WGs) (n : Nat) : Prop := ∀ ds ρ Q, g ds ρ Q → ds.length = n
theorem gs_len1 {i : Nat} {gs : WGs} {n : Nat} (h : ∀ ds ρ Q, gs ds ρ Q → ds.length = n) : ∀ ds ρ Q, gs1 (gN i) gs ds ρ Q → ds.length = n + 1 := fun ds ρ Q w => by
  cases ds with
  | nil => exact w.elim
  | cons d r => simp [h r _ _ w]
theorem gs_lenT {g gs : WGs} {n : Nat} (hg : ∀ ds ρ Q, g ds ρ Q → ∃ ρ', Q ρ') (h : ∀ ds ρ Q, gs ds ρ Q → ds.length = n) : ∀ ds ρ Q, gs1 (gT g) gs ds ρ Q → ds.length = n + 1 := fun ds ρ Q w => by
  cases ds with
  | nil => exact w.elim
  | cons d r =>
    have w' : gT g d ρ fun ρ' => gs r ρ' Q := w
    cases d with
    | tup es =>
      obtain ⟨ρ', q⟩ := hg es ρ _ w'
      simp [h r _ _ q]
    | _ => exact w'.elim
theorem gs_goes0 : ∀ ds ρ Q, gs0 ds ρ Q → ∃ ρ', Q ρ' := fun ds ρ Q h => by
  cases ds with
  | nil => exact ⟨ρ, h⟩
  | cons _ _ => exact h.elim
theorem gs_goes1 {i : Nat} {gs : WGs} (h : ∀ ds ρ Q, gs ds ρ Q → ∃ ρ', Q ρ') : ∀ ds ρ Q, gs1 (gN i) gs ds ρ Q → ∃ ρ', Q ρ' := fun ds ρ Q w => by
  cases ds with
  | nil => exact w.elim
  | cons d r => exact h r _ _ w

/-! ### what is walked -/
structure ItOk (K : PySem.W.Frag) (J : It) (cs : List D) (vs : List V) (ds : List D) : Prop where
  go : ∀ fr G ρ σ H i, Rel K fr G ρ σ H → RepLs K G ρ σ H cs vs → i < ds.length → J.go i H
  yld : ∀ fr G ρ σ H i x H', Rel K fr G ρ σ H → RepLs K G ρ σ H cs vs → i < ds.length → J.yld i H x H' → ∃ G', Step K fr G ρ σ H G' H' ∧ ∀ d, ds[i]? = some d → Rep K G' H' d x
  stop : ∀ fr G ρ σ H i, Rel K fr G ρ σ H → RepLs K G ρ σ H cs vs → i = ds.length → J.stop i H
abbrev WI := (EX → Prop) → Rho → (List D → Prop) → Prop
/-- for a loop -/
structure DI (X : Cx) (Wx : WX) (tg iter : Expr) (W : WI) : Prop where
  ex : ∃ wi, PI X tg iter wi ∧ ∀ fr G ρ σ H R Qa Rr, Rel X.K fr G ρ σ H → RaiseE X.K Wx fr ρ σ R → W R ρ Qa → (∀ J cs vs ds G' H', Step X.K fr G ρ σ H G' H' → Reps X.K G' H' cs vs → ItOk X.K J cs vs ds → Qa ds → Rr J H') → wi σ H Rr
/-- for a comprehension -/
structure DIL (X : Cx) (Wx : WX) (tg iter : Expr) (W : WI) : Prop where
  ex : ∃ wi, PI X tg iter wi ∧ ∀ fr G ρ σ H R Qa Rr, Rel X.K fr G ρ σ H → RaiseE X.K Wx fr ρ σ R → W R ρ Qa → (∀ J cs vs ds G' H', Step X.K fr G ρ σ H G' H' → RepLs X.K G' ρ σ H' cs vs → ItOk X.K J cs vs ds → Qa ds → Rr J H') → wi σ H Rr
theorem reps_repLs {K : PySem.W.Frag} {G : GS} {ρ : Rho} {σ : L2.St} {H : Hp} : ∀ {ds : List D} {vs : List V}, Reps K G H ds vs → RepLs K G ρ σ H ds vs
  | [], _, h => h
  | _ :: _, _, ⟨v, r, e, h1, h2⟩ => ⟨v, r, e, .inl h1, reps_repLs h2⟩
theorem DI.l {X : Cx} {Wx : WX} {tg iter : Expr} {W : WI} (h : DI X Wx tg iter W) : DIL X Wx tg iter W := by
  obtain ⟨wi, p, q⟩ := h.ex
  exact ⟨⟨wi, p, fun fr G ρ σ H R Qa Rr rl hr w k => q fr G ρ σ H R Qa Rr rl hr w fun J cs vs ds G' H' s rp ok qa => k J cs vs ds G' H' s (reps_repLs rp) ok qa⟩⟩
def wSeq (W : WE) : WI := fun R ρ Q => W R ρ fun d => ∃ ds, seqOf d = some ds ∧ Q ds
section
variable {X : Cx} {Wx : WX} {tg a b : Expr} {Wa Wb : WE} {pos : Pos}
/-- a list or a tuple walked -/
def iSeq (K : PySem.W.Frag) (tl : TE) : TI := fun σ H R => tl σ H fun x H1 => ∃ a, x = .ref a ∧ (((∃ xs, SqL K H1 a xs) ∧ R (Itl K a) H1) ∨ ((∃ xs, SqT K H1 a xs) ∧ R (Itt K a) H1))
theorem pi_seq {l : Expr} {tl : TE} (hl : PE X l tl) : PI X tg l (iSeq X.K tl) := by
  refine ⟨fun pins s σ H R I h => ?_⟩
  refine thn (hl.run pins s σ H _ I h) fun v s1 ⟨x, H1, I1, r1, q1⟩ => ?_
  obtain ⟨a, e, q⟩ := q1
  subst e
  cases r1
  have fin : ∀ b ∈ [s1.heap.objs.size], FpOk X pins H1 b := fun b hb => by
    have e : b = s1.heap.objs.size := by simpa using hb
    subst e
    exact I1.fpOk (Nat.le_refl _) (I1.hok.fresh (Nat.le_refl _))
  rcases q with ⟨⟨xs, hq⟩, q⟩ | ⟨⟨xs, hq⟩, q⟩
  · obtain ⟨its, rv, p, hz⟩ := I1.list hq
    refine wpAny_pyIter_list p.isList ?_
    exact ⟨s1.heap.objs.size, [s1.heap.objs.size], _, _, H1, rfl, I1.kept (t' := s1.toks) fun b o e => Heap.get?_push_of_some _ e, turn_list a _, ⟨_, Heap.get?_push_size _ rfl, rfl, rfl⟩, fin, q⟩
  · obtain ⟨its, rv, p, hz⟩ := I1.tuple hq
    refine wpAny_pyIter_tuple (show s1.heap.IsTuple a its.toArray from p) ?_
    exact ⟨s1.heap.objs.size, [s1.heap.objs.size], _, _, H1, rfl, I1.kept (t' := s1.toks) fun b o e => Heap.get?_push_of_some _ e, turn_tuple a _, ⟨_, Heap.get?_push_size _ rfl, rfl, rfl⟩, fin, q⟩

theorem RepL.seqK {K : PySem.W.Frag} {fr : Fr} {G : GS} {ρ : Rho} {σ : L2.St} {H : Hp} (r : Rel K fr G ρ σ H) {ds : List D} {v : V} : ∀ {d : D}, RepL K G ρ σ H d v → seqOf d = some ds →
    ∃ a xs, v = .ref a ∧ ((isLst d = true ∧ SqL K H a xs) ∨ (isLst d = false ∧ SqT K H a xs)) ∧ Reps K G H ds xs
  | d, .inl h, e => by
    cases d <;> simp only [seqOf] at e <;> cases e
    · obtain ⟨a, xs, e1, q, rs⟩ := h
      exact ⟨a, xs, e1, .inr ⟨rfl, q⟩, rs⟩
    · obtain ⟨a, xs, e1, g, q, rs⟩ := h
      exact ⟨a, xs, e1, .inl ⟨rfl, .of q⟩, rs⟩
    · obtain ⟨a, e1, q⟩ := h
      exact ⟨a, _, e1, .inl ⟨rfl, q.sq⟩, Reps.of_ints⟩
  | _, .inr ⟨i, oa, es, e1, rfl, e3⟩, e => by
    simp only [seqOf] at e; cases e
    have q := r.slot i
    rw [e1] at q
    obtain ⟨a, xs, e4, e5, rs, _⟩ := q
    rw [e3] at e4; cases e4
    exact ⟨a, xs, rfl, .inl ⟨rfl, .of e5⟩, rs⟩
theorem repLs_one {K : PySem.W.Frag} {G : GS} {ρ : Rho} {σ : L2.St} {H : Hp} {d : D} {v : V} (h : RepLs K G ρ σ H [d] [v]) : RepL K G ρ σ H d v := by
  obtain ⟨u, r, e, h1, h2⟩ := h
  cases e
  exact h1
theorem itOk_list {K : PySem.W.Frag} {d : D} {ds : List D} {a : Addr} (hs : seqOf d = some ds) (hl : isLst d = true) : ItOk K (Itl K a) [d] [.ref a] ds where
  go := fun fr G ρ σ H i rl h hi => by
    obtain ⟨a', xs, e, q, rs⟩ := (repLs_one h).seqK rl hs
    cases e
    rcases q with ⟨_, q⟩ | ⟨z, _⟩
    · exact ⟨xs, xs[i]'(by rw [rs.length]; exact hi), q, by simp⟩
    · rw [hl] at z; cases z
  yld := fun fr G ρ σ H i x H' rl h hi y => by
    obtain ⟨a', xs, e, q, rs⟩ := (repLs_one h).seqK rl hs
    cases e
    obtain ⟨rfl, y⟩ := y
    rcases q with ⟨_, q⟩ | ⟨z, _⟩
    · refine ⟨G, .refl rl, fun d' e' => ?_⟩
      obtain ⟨w, e1, rw'⟩ := rs.get e'
      have e2 := y xs q
      rw [e1] at e2; cases e2
      exact rw'
    · rw [hl] at z; cases z
  stop := fun fr G ρ σ H i rl h hi => by
    obtain ⟨a', xs, e, q, rs⟩ := (repLs_one h).seqK rl hs
    cases e
    rcases q with ⟨_, q⟩ | ⟨z, _⟩
    · exact ⟨xs, q, by rw [rs.length, hi]; exact Nat.le_refl _⟩
    · rw [hl] at z; cases z
theorem itOk_tup {K : PySem.W.Frag} {d : D} {ds : List D} {a : Addr} (hs : seqOf d = some ds) (hl : isLst d = false) : ItOk K (Itt K a) [d] [.ref a] ds where
  go := fun fr G ρ σ H i rl h hi => by
    obtain ⟨a', xs, e, q, rs⟩ := (repLs_one h).seqK rl hs
    cases e
    rcases q with ⟨z, _⟩ | ⟨_, q⟩
    · rw [hl] at z; cases z
    · exact ⟨xs, xs[i]'(by rw [rs.length]; exact hi), q, by simp⟩
  yld := fun fr G ρ σ H i x H' rl h hi y => by
    obtain ⟨a', xs, e, q, rs⟩ := (repLs_one h).seqK rl hs
    cases e
    obtain ⟨rfl, y⟩ := y
    rcases q with ⟨z, _⟩ | ⟨_, q⟩
    · rw [hl] at z; cases z
    · refine ⟨G, .refl rl, fun d' e' => ?_⟩
      obtain ⟨w, e1, rw'⟩ := rs.get e'
      have e2 := y xs q
      rw [e1] at e2; cases e2
      exact rw'
  stop := fun fr G ρ σ H i rl h hi => by
    obtain ⟨a', xs, e, q, rs⟩ := (repLs_one h).seqK rl hs
    cases e
    rcases q with ⟨z, _⟩ | ⟨_, q⟩
    · rw [hl] at z; cases z
    · exact ⟨xs, q, by rw [rs.length, hi]; exact Nat.le_refl _⟩
theorem seq_or {K : PySem.W.Frag} {fr : Fr} {G : GS} {ρ : Rho} {σ : L2.St} {H : Hp} (rl : Rel K fr G ρ σ H) {d : D} {ds : List D} {v : V} (h : RepL K G ρ σ H d v) (hs : seqOf d = some ds) {Rr : It → Hp → Prop}
    (k : ∀ J a, v = .ref a → ItOk K J [d] [.ref a] ds → Rr J H) : ∃ a, v = .ref a ∧ (((∃ xs, SqL K H a xs) ∧ Rr (Itl K a) H) ∨ ((∃ xs, SqT K H a xs) ∧ Rr (Itt K a) H)) := by
  obtain ⟨a, xs, e, q, rs⟩ := h.seqK rl hs
  refine ⟨a, e, ?_⟩
  rcases q with ⟨z, q⟩ | ⟨z, q⟩
  · exact .inl ⟨⟨xs, q⟩, k _ a e (itOk_list hs z)⟩
  · exact .inr ⟨⟨xs, q⟩, k _ a e (itOk_tup hs z)⟩
theorem di_seq (ha : DE X Wx a Wa) : DI X Wx tg a (wSeq Wa) := by
  obtain ⟨ta, pa, qa⟩ := ha.ex
  refine ⟨⟨_, pi_seq pa, fun fr G ρ σ H R Qa Rr rl hr w k => ?_⟩⟩
  refine qa fr G ρ σ H R _ _ rl hr w fun v d G1 H1 s1 r1 ⟨ds, e, q⟩ => ?_
  exact seq_or (K := X.K) s1.rel (.inl r1) e fun J p ep ok => k J [d] [.ref p] ds G1 H1 s1 ⟨_, _, rfl, by rw [← ep]; exact r1, rfl⟩ ok q
theorem dil_seq (ha : DL X Wx a Wa) : DIL X Wx tg a (wSeq Wa) := by
  obtain ⟨ta, pa, qa⟩ := ha.ex
  refine ⟨⟨_, pi_seq pa, fun fr G ρ σ H R Qa Rr rl hr w k => ?_⟩⟩
  refine qa fr G ρ σ H R _ _ rl hr w fun v d G1 H1 s1 r1 ⟨ds, e, q⟩ => ?_
  exact seq_or (K := X.K) s1.rel r1 e fun J p ep ok => k J [d] [.ref p] ds G1 H1 s1 ⟨_, _, rfl, by rw [← ep]; exact r1, rfl⟩ ok q
/-! range -/
def rngL (lo : Int) (n : Nat) : List D := (List.range n).map fun (i : Nat) => D.int (lo + (i : Int))
theorem rngL_length (lo : Int) (n : Nat) : (rngL lo n).length = n := by simp [rngL]
theorem rngL_get (lo : Int) (n i : Nat) (h : i < n) : (rngL lo n)[i]? = some (.int (lo + (i : Int))) := by simp [rngL, h]
theorem itOk_range {K : PySem.W.Frag} {lo : Int} {n : Nat} : ItOk K (Itr lo n) [] [] (rngL lo n) where
  go := fun fr G ρ σ H i rl h hi => by rw [rngL_length] at hi; exact hi
  yld := fun fr G ρ σ H i x H' rl h hi y => by
    rw [rngL_length] at hi
    obtain ⟨rfl, rfl⟩ := y
    refine ⟨G, .refl rl, fun d e => ?_⟩
    rw [rngL_get lo n i hi] at e; cases e
    exact rfl
  stop := fun fr G ρ σ H i rl h hi => by rw [rngL_length] at hi; exact Nat.le_of_eq hi.symm
def wRng1 (W : WA) : WI := fun R ρ Q => W R ρ fun ds => match ds with | [.int j] => (-(2 ^ 62) ≤ j ∧ j < 2 ^ 62) ∧ Q (rngL 0 j.toNat) | _ => False
def wRng2 (W : WA) : WI := fun R ρ Q => W R ρ fun ds => match ds with | [.int i, .int j] => (-(2 ^ 62) ≤ i ∧ i < 2 ^ 62 ∧ -(2 ^ 62) ≤ j ∧ j < 2 ^ 62) ∧ Q (rngL i (j - i).toNat) | _ => False
variable {Wr : WA} {p : Pos}
theorem di_range1 (hg : Gl X "range") (hm : X.mg "range" = none) (ha : DA X Wx [a] Wr) (hs : starEach [a] X.env = [(false, eval a X.env)] := by rfl) : DI X Wx tg (.Call (.Name "range" p) [a] [] pos) (wRng1 Wr) := by
  obtain ⟨ta, pa, qa⟩ := ha.ex
  refine ⟨⟨_, pi_range1 hg hm pa hs, fun fr G ρ σ H R Qa Rr rl hr w k => ?_⟩⟩
  refine qa fr G ρ σ H R _ _ rl hr w fun vs ds G1 H1 s1 r1 w1 => ?_
  split at w1
  · rename_i j
    obtain ⟨v, r, rfl, e1, e2⟩ := r1
    cases e1; cases e2
    exact ⟨j, rfl, w1.1.1, w1.1.2, k _ [] [] _ G1 H1 s1 rfl itOk_range w1.2⟩
  · exact w1.elim
theorem di_range2 (hg : Gl X "range") (hm : X.mg "range" = none) (ha : DA X Wx [a, b] Wr) (hs : starEach [a, b] X.env = [(false, eval a X.env), (false, eval b X.env)] := by rfl) (hs2 : starEach [b] X.env = [(false, eval b X.env)] := by rfl) : DI X Wx tg (.Call (.Name "range" p) [a, b] [] pos) (wRng2 Wr) := by
  obtain ⟨ta, pa, qa⟩ := ha.ex
  refine ⟨⟨_, pi_range2 hg hm pa hs hs2, fun fr G ρ σ H R Qa Rr rl hr w k => ?_⟩⟩
  refine qa fr G ρ σ H R _ _ rl hr w fun vs ds G1 H1 s1 r1 w1 => ?_
  split at w1
  · rename_i i j
    obtain ⟨v, r, rfl, e1, u, r', rfl, e2, e3⟩ := r1
    cases e1; cases e2; cases e3
    exact ⟨i, j, rfl, w1.1, k _ [] [] _ G1 H1 s1 rfl itOk_range w1.2⟩
  · exact w1.elim
end
end AV

set_option maxRecDepth 100000
set_option maxHeartbeats 4000000
namespace AV
open PySem PySem.Spec PyProof.Rows L2
variable [TabC]

/-! ### a list (true) or a tuple (false) as the source of enumerate, zip -/
def SqX (b : Bool) (K : PySem.W.Frag) (H : Hp) (a : Addr) (xs : List V) : Prop := match b with | true => SqL K H a xs | false => SqT K H a xs
def HasX (b : Bool) (h : Heap) (a : Addr) (items : Array Value) : Prop := match b with | true => h.IsList a items | false => h.IsTuple a items
def ItrX (b : Bool) (h : Heap) (it a : Addr) (i : Nat) : Prop := match b with | true => h.IsListIter it a i | false => h.IsTupleIter it a i
def objX (b : Bool) (a : Addr) : Obj := match b with | true => { cls := .type "list_iterator", data := .fields #[.ref a, .int 0 0] } | false => { cls := .type "tuple_iterator", data := .fields #[.ref a, .int 0 0] }
section
variable {prog : Program} {w : World} {A : Around}
theorem drawsX (b : Bool) (hh : A.handled = none) (it a : Addr) (hne : a ≠ it) (items : Array Value) : Draws prog w A it [it, a] items.size (fun i v => items[i]? = some v) (fun i h => ItrX b h it a i ∧ HasX b h a items) := by
  cases b
  · exact Draws.tuple hh it a hne items
  · exact Draws.list hh it a hne items
theorem beginsX (b : Bool) (a : Addr) (items : Array Value) : Begins (.ref a) (objX b a) (fun h => HasX b h a items) := by
  cases b
  · exact begins_tuple a items
  · exact begins_list a items
theorem ItrX.at {b : Bool} {h h' : Heap} {it a : Addr} {i : Nat} (x : ItrX b h it a i) (k : ∀ o, h.get? it = some o → h'.get? it = some o) : ItrX b h' it a i := by
  cases b
  · exact Heap.IsTupleIter.at x k
  · exact Heap.IsListIter.at x k
theorem ItrX.obj {b : Bool} {h : Heap} {it a : Addr} {i : Nat} (x : ItrX b h it a i) : ∃ o, h.get? it = some o ∧ ∀ v, o.data ≠ .cell v := by
  cases b
  · obtain ⟨o, e, c, d⟩ := x
    exact ⟨o, e, fun v z => by rw [d] at z; cases z⟩
  · obtain ⟨o, e, c, d⟩ := x
    exact ⟨o, e, fun v z => by rw [d] at z; cases z⟩
theorem itrX_new {b : Bool} {h : Heap} {it a : Addr} (e : h.get? it = some (objX b a)) : ItrX b h it a 0 := by
  cases b
  · exact ⟨_, e, rfl, rfl⟩
  · exact ⟨_, e, rfl, rfl⟩
end
section
variable {X : Cx} {pins : List (Addr × Obj)} {σ : L2.St} {H : Hp} {s : Shared} {a : Addr} {xs ys : List V}
theorem srcX (b : Bool) (I : Inv X pins σ H s) (h : SqX b X.K H a xs) : ∃ its : List Value, Vals xs its ∧ HasX b s.heap a its.toArray ∧ a < s.heap.objs.size ∧ xs.length ≤ sizeLine := by
  cases b
  · obtain ⟨its, r, p, z⟩ := I.tuple h
    obtain ⟨o, ho, _⟩ := id p
    exact ⟨its, r, p, Heap.lt_size ho, z⟩
  · obtain ⟨its, r, p, z⟩ := I.list h
    exact ⟨its, r, p.isList, p.lt, z⟩
theorem srcX_inj (b : Bool) (I : Inv X pins σ H s) (h : SqX b X.K H a xs) (h' : SqX b X.K H a ys) : xs = ys := by
  cases b
  · exact I.tuple_inj h h'
  · exact I.list_inj h h'
end
def ItzX (b1 b2 : Bool) (K : PySem.W.Frag) (a b : Addr) : It :=
  ⟨fun i H => ∃ (xs ys : List V) (x y : V), SqX b1 K H a xs ∧ SqX b2 K H b ys ∧ xs[i]? = some x ∧ ys[i]? = some y,
    fun i H v H' => ∃ T x y, v = .ref T ∧ H T = none ∧ H' = upd H T (.tup [x, y]) ∧ (∀ xs, SqX b1 K H a xs → xs[i]? = some x) ∧ ∀ ys, SqX b2 K H b ys → ys[i]? = some y,
    fun i H => ∃ xs ys : List V, SqX b1 K H a xs ∧ SqX b2 K H b ys ∧ i = min xs.length ys.length⟩
theorem zip_apart {z TI TO i1 i2 a b : Addr} (S : ZipSep2 z TI TO i1 i2 [i1, a] [i2, b]) : True := trivial
theorem turn_zipX (b1 b2 : Bool) {P : Program} {w : World} {K : PySem.W.Frag} {elts : List Expr} {kk : Nat} {tpos : Pos} {a b z TI TO i1 i2 : Addr} (S : ZipSep2 z TI TO i1 i2 [i1, a] [i2, b]) (h1 : a ≠ i1) (h2 : b ≠ i2) :
    Turn P w K (.Tuple elts kk tpos) (ItzX b1 b2 K a b) [z, TI, TO, i1, i2] z (fun i h => IsZip h z TI TO .none ∧ IsTupOf2 h TI (.ref i1) (.ref i2) ∧ (∃ x y, IsTupOf2 h TO x y) ∧ ItrX b1 h i1 a i ∧ ItrX b2 h i2 b i) where
  mem := by simp
  obj := fun i h st c hc => by
    obtain ⟨hz, hTI, ⟨x, y, hTO⟩, hi1, hi2⟩ := st
    have e' : c = z ∨ c = TI ∨ c = TO ∨ c = i1 ∨ c = i2 := by simpa using hc
    rcases e' with q | q | q | q | q
    · rw [q]; exact ⟨_, hz, fun v q => nomatch q⟩
    · rw [q]; exact ⟨_, hTI, fun v q => nomatch q⟩
    · rw [q]; exact ⟨_, hTO, fun v q => nomatch q⟩
    · rw [q]; exact hi1.obj
    · rw [q]; exact hi2.obj
  keep := fun i h h' st k => by
    obtain ⟨hz, hTI, ⟨x, y, hTO⟩, hi1, hi2⟩ := st
    exact ⟨k z (by simp) _ hz, k TI (by simp) _ hTI, ⟨x, y, k TO (by simp) _ hTO⟩, hi1.at fun o q => k i1 (by simp) o q, hi2.at fun o q => k i2 (by simp) o q⟩
  item := by
    intro X hP hw hK hc i pins s σ H E I hf st hg
    subst hP hw hK
    obtain ⟨hz, hTI, ⟨x0, y0, hTO⟩, hi1, hi2⟩ := st
    obtain ⟨xs, ys, x, y, hqx, hqy, hx, hy⟩ := hg
    obtain ⟨its, rv, p, la, _⟩ := srcX b1 I hqx
    obtain ⟨its2, rv2, p2, lb, _⟩ := srcX b2 I hqy
    have W := WalksT.zipD2 (prog := X.prog) (w := X.w) (A := X.A) S (drawsX (A := X.A.in1) b1 (I.ok.hd hc) i1 a h1 its.toArray) (drawsX (A := X.A.in1) b2 (I.ok.hd hc) i2 b h2 its2.toArray)
    have hlt : i < min its.toArray.size its2.toArray.size := by
      have l1 := rv.length
      have l2 := rv2.length
      obtain ⟨g1, _⟩ := List.getElem?_eq_some_iff.mp hx
      obtain ⟨g2, _⟩ := List.getElem?_eq_some_iff.mp hy
      simp only [List.size_toArray]
      omega
    refine W.item i s _ _ hlt ⟨hz, hTI, ⟨x0, y0, hTO⟩, ⟨hi1, p⟩, ⟨hi2, p2⟩⟩ fun T vals h' tk hP hsz hT hM hk => ?_
    obtain ⟨u, u2, e1, e2, ev⟩ := hP
    subst ev
    refine ⟨_, rfl, W.go elts kk tpos i T _ _ _ hM fun h'' hst hk2 => ?_⟩
    have hT2 : h''.IsTuple T #[u, u2] := hT.at fun o e => hk2 T o (W.apart i T h' hM) e
    obtain ⟨x', hx', rx⟩ := Vals.get (xs := xs) rv hx
    obtain ⟨y', hy', ry⟩ := Vals.get (xs := ys) rv2 hy
    have ex : x' = u := by
      have e1' : its[i]? = some u := by simpa using e1
      rw [hx'] at e1'; exact Option.some.inj e1'
    have ey : y' = u2 := by
      have e2' : its2[i]? = some u2 := by simpa using e2
      rw [hy'] at e2'; exact Option.some.inj e2'
    subst ex ey
    have new : ObjOk X.prog X.w (upd H T (.tup [x, y])) h'' T (.tup [x, y]) := ⟨by show 2 ≤ sizeLine; decide, [x', y'], .cons rx (.cons ry .nil), hT2⟩
    have wr : ∀ c, c ∉ [z, TI, TO, i1, i2] → c ∉ [z, TO, i1, i2] := fun c hc q => hc (by
      have q' : c = z ∨ c = TO ∨ c = i1 ∨ c = i2 := by simpa using q
      rcases q' with r | r | r | r <;> simp [r])
    have I1 : Inv X pins σ (upd H T (.tup [x, y])) { s with heap := h'', toks := tk } :=
      I.turnedNew (t' := tk) (ch := [z, TI, TO, i1, i2]) (fun c o hb q => hk2 c o (wr c hb) (hk c o (wr c hb) q)) hf hsz new
    obtain ⟨q1, q2, q3, q4, q5⟩ := hst
    refine ⟨.ref T, _, I1, rfl, ⟨T, x, y, rfl, I.hok.fresh hsz, rfl, fun l hl => by rw [srcX_inj b1 I hl hqx]; exact hx, fun l hl => by rw [srcX_inj b2 I hl hqy]; exact hy⟩, ⟨q1, q2, q3, q4.1, q5.1⟩, fun c hcm => ?_⟩
    have hlt : c < s.heap.objs.size := by
      have e' : c = z ∨ c = TI ∨ c = TO ∨ c = i1 ∨ c = i2 := by simpa using hcm
      rcases e' with q | q | q | q | q
      · rw [q]; exact Heap.lt_size hz
      · rw [q]; exact Heap.lt_size hTI
      · rw [q]; exact Heap.lt_size hTO
      · rw [q]; obtain ⟨_, e1, _⟩ := hi1.obj; exact Heap.lt_size e1
      · rw [q]; obtain ⟨_, e2, _⟩ := hi2.obj; exact Heap.lt_size e2
    rw [upd_ne (Nat.ne_of_lt (Nat.lt_of_lt_of_le hlt hsz))]
    exact (hf c hcm).1
  done := by
    intro X hP hw hK hc i pins s σ H E I hf st hg
    subst hP hw hK
    obtain ⟨hz, hTI, ⟨x0, y0, hTO⟩, hi1, hi2⟩ := st
    obtain ⟨xs, ys, hqx, hqy, hend⟩ := hg
    obtain ⟨its, rv, p, la, _⟩ := srcX b1 I hqx
    obtain ⟨its2, rv2, p2, lb, _⟩ := srcX b2 I hqy
    have W := WalksT.zipD2 (prog := X.prog) (w := X.w) (A := X.A) S (drawsX (A := X.A.in1) b1 (I.ok.hd hc) i1 a h1 its.toArray) (drawsX (A := X.A.in1) b2 (I.ok.hd hc) i2 b h2 its2.toArray)
    have hi : i = min its.toArray.size its2.toArray.size := by
      rw [List.size_toArray, List.size_toArray, ← rv.length, ← rv2.length]; exact hend
    refine W.done s _ _ (by rw [← hi]; exact ⟨hz, hTI, ⟨x0, y0, hTO⟩, ⟨hi1, p⟩, ⟨hi2, p2⟩⟩) fun h' tk hk => ⟨rfl, I.turnedL (t' := tk) (ch := [z, TI, TO, i1, i2]) (fun c o hb q => hk c o (fun q' => hb (by
      have q'' : c = z ∨ c = TO ∨ c = i1 ∨ c = i2 := by simpa using q'
      rcases q'' with r | r | r | r <;> simp [r])) q) hf⟩
  self := fun A i s Q E st h => wpAny_pyIter_zip st.1 h

def EnX (b : Bool) (K : PySem.W.Frag) (a : Addr) : It :=
  ⟨fun i H => ∃ (xs : List V) (x : V), SqX b K H a xs ∧ xs[i]? = some x, fun i H v H' => ∃ T x, v = .ref T ∧ H T = none ∧ H' = upd H T (.tup [.int (i : Nat), x]) ∧ ∀ xs, SqX b K H a xs → xs[i]? = some x, fun i H => ∃ xs : List V, SqX b K H a xs ∧ i = xs.length⟩
theorem turn_enumX (b : Bool) {P : Program} {w : World} {K : PySem.W.Frag} {elts : List Expr} {kk : Nat} {tpos : Pos} {a e it : Addr} (hei : e ≠ it) (hea : e ≠ a) (hai : a ≠ it) :
    Turn P w K (.Tuple elts kk tpos) (EnX b K a) [e, it] e (fun i h => (∃ old, IsEnum h e it (0 + (i : Int)) old) ∧ ItrX b h it a i) where
  mem := by simp
  obj := fun i h st c hc => by
    obtain ⟨⟨old, he⟩, hi⟩ := st
    have e' : c = e ∨ c = it := by simpa using hc
    rcases e' with q | q
    · rw [q]; exact ⟨_, he, fun v q => nomatch q⟩
    · rw [q]; exact hi.obj
  keep := fun i h h' st k => let ⟨⟨old, he⟩, hi⟩ := st; ⟨⟨old, k e (by simp) _ he⟩, hi.at fun o q => k it (by simp) o q⟩
  item := by
    intro X hP hw hK hc i pins s σ H E I hf st hg
    subst hP hw hK
    obtain ⟨⟨old, he⟩, hi⟩ := st
    obtain ⟨xs, x, hqx, hx⟩ := hg
    obtain ⟨its, rv, p, la, _⟩ := srcX b I hqx
    have W := WalksT.enumFrom (prog := X.prog) (w := X.w) (A := X.A) (0 : Int) (drawsX (A := X.A.in1) b (I.ok.hd hc) it a hai its.toArray) e hei (by simp; exact ⟨hei, hea⟩) (by simp)
    have hlt : i < its.toArray.size := by
      have l1 := rv.length
      obtain ⟨g1, _⟩ := List.getElem?_eq_some_iff.mp hx
      simp only [List.size_toArray]
      omega
    refine W.item i s _ _ hlt ⟨⟨old, he⟩, ⟨hi, p⟩⟩ fun T vals h' tk hP hsz hT hM hk => ?_
    obtain ⟨t, u, e1, ev⟩ := hP
    subst ev
    refine ⟨_, rfl, W.go elts kk tpos i T _ _ _ hM fun h'' hst hk2 => ?_⟩
    have hT2 : h''.IsTuple T #[.int (0 + (i : Int)) t, u] := hT.at fun o e => hk2 T o (W.apart i T h' hM) e
    obtain ⟨x', hx', rx⟩ := Vals.get (xs := xs) rv hx
    have ex : x' = u := by
      have e1' : its[i]? = some u := by simpa using e1
      rw [hx'] at e1'; exact Option.some.inj e1'
    subst ex
    have new : ObjOk X.prog X.w (upd H T (.tup [.int (i : Nat), x])) h'' T (.tup [.int (i : Nat), x]) :=
      ⟨by show 2 ≤ sizeLine; decide, [.int (0 + (i : Int)) t, x'], .cons ⟨t, by rw [Int.zero_add]⟩ (.cons rx .nil), hT2⟩
    have I1 : Inv X pins σ (upd H T (.tup [.int (i : Nat), x])) { s with heap := h'', toks := tk } :=
      I.turnedNew (t' := tk) (ch := [e, it]) (fun c o hb q => hk2 c o hb (hk c o hb q)) hf hsz new
    obtain ⟨q1, q2⟩ := hst
    refine ⟨.ref T, _, I1, rfl, ⟨T, x, rfl, I.hok.fresh hsz, rfl, fun l hl => by rw [srcX_inj b I hl hqx]; exact hx⟩, ⟨q1, q2.1⟩, fun c hcm => ?_⟩
    have hlt : c < s.heap.objs.size := by
      have e' : c = e ∨ c = it := by simpa using hcm
      rcases e' with q | q
      · rw [q]; exact Heap.lt_size he
      · rw [q]; obtain ⟨_, e1, _⟩ := hi.obj; exact Heap.lt_size e1
    rw [upd_ne (Nat.ne_of_lt (Nat.lt_of_lt_of_le hlt hsz))]
    exact (hf c hcm).1
  done := by
    intro X hP hw hK hc i pins s σ H E I hf st hg
    subst hP hw hK
    obtain ⟨⟨old, he⟩, hi⟩ := st
    obtain ⟨xs, hqx, hend⟩ := hg
    obtain ⟨its, rv, p, la, _⟩ := srcX b I hqx
    have W := WalksT.enumFrom (prog := X.prog) (w := X.w) (A := X.A) (0 : Int) (drawsX (A := X.A.in1) b (I.ok.hd hc) it a hai its.toArray) e hei (by simp; exact ⟨hei, hea⟩) (by simp)
    have hi' : i = its.toArray.size := by rw [List.size_toArray, ← rv.length]; exact hend
    exact W.done s _ _ (by rw [← hi']; exact ⟨⟨old, he⟩, ⟨hi, p⟩⟩) fun h' tk hk => ⟨rfl, I.turnedL (t' := tk) (ch := [e, it]) (fun c o hb q => hk c o hb q) hf⟩
  self := fun A i s Q E st h => let ⟨⟨_, he⟩, _⟩ := st; wpAny_pyIter_enum he h

set_option maxHeartbeats 8000000 in
theorem meets_enumerate_newB1 {v : Value} {o : Obj} {H : Heap → Prop} (B : Begins v o H) :
    Meets (Builtin.«enumerate.__new__» ⟨[.type "enumerate", v], []⟩) (fun _ R s => H s.heap ∧
      R (.ok (.ret (.ref (s.heap.push o).objs.size))) { s with heap := (s.heap.push o).push { cls := .type "enumerate", data := .fields #[.none, .bool false, .ref s.heap.objs.size, rawInt 0, .none, .none] } }) :=
  .of_wp fun prog w A R s h => by
    obtain ⟨hp, g, d, tk, os⟩ := s; obtain ⟨h1, h⟩ := h
    have hsub := sub_enumerate
    have q1 : ∀ {A' : Around} {E : Value → Shared → Prop} {Q : Value → Shared → Prop}, Q (.ref hp.objs.size) ⟨hp.push o, g, d, tk, os⟩ → wpAny (model prog w) A' (pyIter v) Q E ⟨hp, g, d, tk, os⟩ :=
      fun q => B.iter prog w _ _ ⟨hp, g, d, tk, os⟩ _ h1 q
    wp_walk using q1
    refine wpAny_stack_any fun st => wpAny_pure ?_
    split
    · rename_i c _ _ _ _ _
      cases (c == Value.type "enumerate")
      · wp_walk using q1
        exact ⟨_, rfl, h⟩
      · wp_walk using q1
        exact ⟨_, rfl, h⟩
    · wp_walk using q1
      exact ⟨_, rfl, h⟩
section
variable {prog : Program} {w : World} {A : Around} {E : Value → Shared → Prop} {s : Shared}
theorem enum_begins1 {v : Value} {o : Obj} {H : Heap → Prop} {Q : Value → Shared → Prop} (B : Begins v o H) (h1 : H s.heap)
    (h : ∀ h', IsEnum h' (s.heap.objs.size + 1) s.heap.objs.size 0 .none → h'.get? s.heap.objs.size = some o → h'.objs.size = s.heap.objs.size + 2 →
      (∀ b o, s.heap.get? b = some o → h'.get? b = some o) → Q (.ref (s.heap.objs.size + 1)) { s with heap := h' }) :
    wpAny (model prog w) A (call (.type "enumerate") [v]) Q E s := by
  refine callType_new PySem.F.called_enumerate (by decide) (PySem.F.typeCall_enumerate_1 _) (PySem.F.newCall_enumerate_1 _) (fun obj => PySem.F.args_object_init_2 obj _) PySem.F.entry_enumerate_new
    (meets_enumerate_newB1 B) ⟨h1, ?_⟩
  have hz : (s.heap.push o).objs.size = s.heap.objs.size + 1 := Heap.size_push ..
  show _ ∧ _
  rw [hz]
  have he : IsEnum ((s.heap.push o).push { cls := .type "enumerate", data := .fields #[.none, .bool false, .ref s.heap.objs.size, rawInt 0, .none, .none] }) (s.heap.objs.size + 1) s.heap.objs.size 0 .none := by
    have := Heap.get?_push_size (s.heap.push o) (o := { cls := .type "enumerate", data := .fields #[.none, .bool false, .ref s.heap.objs.size, rawInt 0, .none, .none] }) rfl
    rw [hz] at this; exact this
  refine ⟨⟨_, he, rfl⟩, h _ he (Heap.get?_push_of_some _ (Heap.get?_push_size _ B.free)) (by rw [Heap.size_push, hz]) fun b o x => Heap.get?_push_of_some _ (Heap.get?_push_of_some _ x)⟩
end
section
variable {X : Cx}
def iEnX (K : PySem.W.Frag) (ta : TA) : TI := fun σ H R => ta σ H fun vs H1 => ∃ b a xs, vs = [.ref a] ∧ SqX b K H1 a xs ∧ R (EnX b K a) H1
theorem pi_enX {e : Expr} {ta : TA} {p pos tpos : Pos} {elts : List Expr} {kk : Nat} (hg : Gl X "enumerate") (hm : X.mg "enumerate" = none) (ha : PA X [e] ta) (hs : starEach [e] X.env = [(false, eval e X.env)] := by rfl) :
    PI X (.Tuple elts kk tpos) (.Call (.Name "enumerate" p) [e] [] pos) (iEnX X.K ta) := by
  refine ⟨fun pins s σ H R I h => ?_⟩
  refine Call_ (ld_blt I hg hm boot_enumerate (PyProof.Rows.callWith_type1 (thn (ha.run pos pins s σ H _ I h) fun us s1 ⟨vs, H1, I1, r1, q1⟩ => ?_) hs rfl))
  obtain ⟨b, a, xs, ex, hq, q⟩ := q1
  subst ex
  cases r1 with
  | cons r rr =>
    cases rr
    cases r
    obtain ⟨its, rv, p', la, hz⟩ := srcX b I1 hq
    refine enum_begins1 (beginsX b a its.toArray) p' fun h' he hit hsz hk => wpAny_pyIter_enum he ?_
    have I2 : Inv X pins σ H1 { s1 with heap := h' } := I1.kept (t' := s1.toks) hk
    refine ⟨s1.heap.objs.size + 1, [s1.heap.objs.size + 1, s1.heap.objs.size], _, _, H1, rfl, I2, turn_enumX b (Nat.succ_ne_self _) (Nat.ne_of_gt (Nat.lt_succ_of_lt la)) (Nat.ne_of_lt la), ⟨⟨.none, he⟩, itrX_new hit⟩, fun c hc => ?_, q⟩
    have e' : c = s1.heap.objs.size + 1 ∨ c = s1.heap.objs.size := by simpa using hc
    have hle : s1.heap.objs.size ≤ c := by
      rcases e' with z | z
      · rw [z]; exact Nat.le_add_right _ _
      · rw [z]; exact Nat.le_refl _
    exact I1.fpOk hle (I1.hok.fresh hle)
def iZpX (K : PySem.W.Frag) (ta : TA) : TI := fun σ H R => ta σ H fun vs H1 => ∃ b1 b2 a b xs ys, vs = [.ref a, .ref b] ∧ SqX b1 K H1 a xs ∧ SqX b2 K H1 b ys ∧ R (ItzX b1 b2 K a b) H1
theorem zip_sepX (N a b : Nat) (ha : a < N) (hb : b < N) : ZipSep2 (N + 4) (N + 2) (N + 3) N (N + 1) [N, a] [N + 1, b] :=
  zip_sep2 (N := N) (fp1 := [a]) (fp2 := [b]) (fun c hc => by rw [List.mem_singleton.mp hc]; exact ha) (fun c hc => by rw [List.mem_singleton.mp hc]; exact hb)
theorem pi_zpX {e e2 : Expr} {ta : TA} {p pos tpos : Pos} {elts : List Expr} {kk : Nat} (hg : Gl X "zip") (hm : X.mg "zip" = none) (ha : PA X [e, e2] ta)
    (hs : starEach [e, e2] X.env = (false, eval e X.env) :: starEach [e2] X.env := by rfl) (hpl : (backTo pos (starEach [e2] X.env)).any (·.1) = false := by rfl) :
    PI X (.Tuple elts kk tpos) (.Call (.Name "zip" p) [e, e2] [] pos) (iZpX X.K ta) := by
  refine ⟨fun pins s σ H R I h => ?_⟩
  refine Call_ (ld_blt I hg hm PyProof.Rows.boot_zip (PyProof.Rows.callWith_type1 (thn (ha.run pos pins s σ H _ I h) fun us s1 ⟨vs, H1, I1, r1, q1⟩ => ?_) hs hpl))
  obtain ⟨b1, b2, a, b, xs, ys, ex, hqx, hqy, q⟩ := q1
  subst ex
  cases r1 with
  | cons r rr =>
    cases rr with
    | cons r' rr =>
      cases rr
      cases r
      cases r'
      obtain ⟨its, rv, p1, la, _⟩ := srcX b1 I1 hqx
      obtain ⟨its2, rv2, p2, lb, _⟩ := srcX b2 I1 hqy
      refine zip_begins2 (beginsX b1 a its.toArray) (beginsX b2 b its2.toArray) p1 p2 fun h' hz hTI hTO h1 h2 hsz hk => wpAny_pyIter_zip hz ?_
      have I2 : Inv X pins σ H1 { s1 with heap := h' } := I1.kept (t' := s1.toks) hk
      refine ⟨s1.heap.objs.size + 4, [s1.heap.objs.size + 4, s1.heap.objs.size + 2, s1.heap.objs.size + 3, s1.heap.objs.size, s1.heap.objs.size + 1], _, _, H1, rfl, I2,
        turn_zipX b1 b2 (zip_sepX s1.heap.objs.size a b la lb) (Nat.ne_of_lt la) (Nat.ne_of_lt (Nat.lt_succ_of_lt lb)), ⟨hz, hTI, ⟨_, _, hTO⟩, itrX_new h1, itrX_new h2⟩, fun c hcm => ?_, q⟩
      have e' : c = s1.heap.objs.size + 4 ∨ c = s1.heap.objs.size + 2 ∨ c = s1.heap.objs.size + 3 ∨ c = s1.heap.objs.size ∨ c = s1.heap.objs.size + 1 := by simpa using hcm
      have hle : s1.heap.objs.size ≤ c := by
        rcases e' with z | z | z | z | z
        · rw [z]; exact Nat.le_add_right _ _
        · rw [z]; exact Nat.le_add_right _ _
        · rw [z]; exact Nat.le_add_right _ _
        · rw [z]; exact Nat.le_refl _
        · rw [z]; exact Nat.le_add_right _ _
      exact I1.fpOk hle (I1.hok.fresh hle)
end
end AV

set_option maxRecDepth 100000
set_option maxHeartbeats 4000000
namespace AV
open PySem PySem.Spec PyProof.Rows L2
variable [TabC]

def enumD : Nat → List D → List D
  | _, [] => []
  | i, d :: ds => .tup [.int (i : Int), d] :: enumD (i + 1) ds
theorem enumD_length : ∀ (i : Nat) (ds : List D), (enumD i ds).length = ds.length
  | _, [] => rfl
  | i, d :: ds => by simp [enumD, enumD_length (i + 1) ds]
theorem enumD_get : ∀ (i : Nat) (ds : List D) (j : Nat), (enumD i ds)[j]? = ds[j]?.map fun d => .tup [.int ((i + j : Nat) : Int), d]
  | _, [], _ => by simp [enumD]
  | i, d :: ds, 0 => by simp [enumD]
  | i, d :: ds, j + 1 => by
    have := enumD_get (i + 1) ds j
    simp only [enumD, List.getElem?_cons_succ, this]
    rw [show i + 1 + j = i + (j + 1) by omega]
def zipD (ds es : List D) : List D := List.zipWith (fun d e => .tup [d, e]) ds es
theorem zipD_length (ds es : List D) : (zipD ds es).length = min ds.length es.length := by simp [zipD]
theorem zipD_get (ds es : List D) (j : Nat) (d e : D) (h1 : ds[j]? = some d) (h2 : es[j]? = some e) : (zipD ds es)[j]? = some (.tup [d, e]) := by
  unfold zipD
  rw [List.getElem?_zipWith, h1, h2]
section
variable {K : PySem.W.Frag}
theorem seqX {fr : Fr} {G : GS} {ρ : Rho} {σ : L2.St} {H : Hp} (r : Rel K fr G ρ σ H) {ds : List D} {v : V} {d : D} (h : RepL K G ρ σ H d v) (e : seqOf d = some ds) :
    ∃ a xs, v = .ref a ∧ SqX (isLst d) K H a xs ∧ Reps K G H ds xs := by
  obtain ⟨a, xs, e1, q, rs⟩ := h.seqK r e
  refine ⟨a, xs, e1, ?_, rs⟩
  rcases q with ⟨z, q⟩ | ⟨z, q⟩ <;> rw [z] <;> exact q
theorem itOk_enum {d : D} {ds : List D} {a : Addr} (hs : seqOf d = some ds) : ItOk K (EnX (isLst d) K a) [d] [.ref a] (enumD 0 ds) where
  go := fun fr G ρ σ H i rl h hi => by
    obtain ⟨a', xs, e, q, rs⟩ := seqX rl (repLs_one h) hs
    cases e
    rw [enumD_length] at hi
    exact ⟨xs, xs[i]'(by rw [rs.length]; exact hi), q, by simp⟩
  yld := fun fr G ρ σ H i x H' rl h hi y => by
    obtain ⟨a', xs, e, q, rs⟩ := seqX rl (repLs_one h) hs
    cases e
    rw [enumD_length] at hi
    obtain ⟨T, z, rfl, nT, rfl, hz⟩ := y
    have s2 := Step.new (o := .tup [.int (i : Nat), z]) rl nT
    refine ⟨G, s2, fun d' e' => ?_⟩
    obtain ⟨dd, e1, r1⟩ := rs.get' (hz xs q)
    rw [enumD_get, e1] at e'
    have e2 : D.tup [.int ((0 + i : Nat) : Int), dd] = d' := Option.some.inj e'
    subst e2
    rw [Nat.zero_add]
    exact ⟨T, [.int (i : Nat), z], rfl, .of upd_same, _, _, rfl, rfl, _, _, rfl, s2.rep r1, rfl⟩
  stop := fun fr G ρ σ H i rl h hi => by
    obtain ⟨a', xs, e, q, rs⟩ := seqX rl (repLs_one h) hs
    cases e
    rw [enumD_length] at hi
    exact ⟨xs, q, by rw [rs.length, hi]⟩
theorem itOk_zip {d e : D} {ds es : List D} {a b : Addr} (hs : seqOf d = some ds) (hs' : seqOf e = some es) : ItOk K (ItzX (isLst d) (isLst e) K a b) [d, e] [.ref a, .ref b] (zipD ds es) where
  go := fun fr G ρ σ H i rl h hi => by
    obtain ⟨_, _, e1, h1, _, _, e2, h2, e3⟩ := h
    cases e1; cases e2; cases e3
    obtain ⟨a', xs, e, q, rs⟩ := seqX rl h1 hs
    cases e
    obtain ⟨b', ys, e, q', rs'⟩ := seqX rl h2 hs'
    cases e
    rw [zipD_length] at hi
    exact ⟨xs, ys, xs[i]'(by rw [rs.length]; omega), ys[i]'(by rw [rs'.length]; omega), q, q', by simp, by simp⟩
  yld := fun fr G ρ σ H i x H' rl h hi y => by
    obtain ⟨_, _, e1, h1, _, _, e2, h2, e3⟩ := h
    cases e1; cases e2; cases e3
    obtain ⟨a', xs, e, q, rs⟩ := seqX rl h1 hs
    cases e
    obtain ⟨b', ys, e, q', rs'⟩ := seqX rl h2 hs'
    cases e
    obtain ⟨T, z, z', rfl, nT, rfl, hz, hz'⟩ := y
    have s2 := Step.new (o := .tup [z, z']) rl nT
    refine ⟨G, s2, fun d' e' => ?_⟩
    obtain ⟨dd, e1, r1⟩ := rs.get' (hz xs q)
    obtain ⟨ee, e2, r2⟩ := rs'.get' (hz' ys q')
    rw [zipD_get ds es i dd ee e1 e2] at e'
    have e3 := Option.some.inj e'
    subst e3
    exact ⟨T, [z, z'], rfl, .of upd_same, _, _, rfl, s2.rep r1, _, _, rfl, s2.rep r2, rfl⟩
  stop := fun fr G ρ σ H i rl h hi => by
    obtain ⟨_, _, e1, h1, _, _, e2, h2, e3⟩ := h
    cases e1; cases e2; cases e3
    obtain ⟨a', xs, e, q, rs⟩ := seqX rl h1 hs
    cases e
    obtain ⟨b', ys, e, q', rs'⟩ := seqX rl h2 hs'
    cases e
    rw [zipD_length] at hi
    exact ⟨xs, ys, q, q', by rw [rs.length, rs'.length, hi]⟩
end
def wEnum (W : WA) : WI := fun R ρ Q => W R ρ fun ds => match ds with | [d] => ∃ es, seqOf d = some es ∧ Q (enumD 0 es) | _ => False
def wZip (W : WA) : WI := fun R ρ Q => W R ρ fun ds => match ds with | [d, e] => ∃ xs ys, seqOf d = some xs ∧ seqOf e = some ys ∧ Q (zipD xs ys) | _ => False
section
variable {X : Cx} {Wx : WX} {tg a b : Expr} {Wr : WA} {p pos tpos : Pos} {elts : List Expr} {kk : Nat}
theorem di_enum (hg : Gl X "enumerate") (hm : X.mg "enumerate" = none) (ha : DA X Wx [a] Wr) (hs : starEach [a] X.env = [(false, eval a X.env)] := by rfl) : DI X Wx (.Tuple elts kk tpos) (.Call (.Name "enumerate" p) [a] [] pos) (wEnum Wr) := by
  obtain ⟨ta, pa, qa⟩ := ha.ex
  refine ⟨⟨_, pi_enX hg hm pa hs, fun fr G ρ σ H R Qa Rr rl hr w k => ?_⟩⟩
  refine qa fr G ρ σ H R _ _ rl hr w fun vs ds G1 H1 s1 r1 w1 => ?_
  split at w1
  · rename_i d
    obtain ⟨es, e1, q⟩ := w1
    obtain ⟨v, r, rfl, rv, e2⟩ := r1
    cases e2
    obtain ⟨c, xs, rfl, sq, rs⟩ := seqX s1.rel (.inl rv) e1
    exact ⟨_, c, xs, rfl, sq, k _ [d] [.ref c] _ G1 H1 s1 ⟨_, _, rfl, rv, rfl⟩ (itOk_enum e1) q⟩
  · exact w1.elim
theorem dil_enum (hg : Gl X "enumerate") (hm : X.mg "enumerate" = none) (ha : DAL X Wx [a] Wr) (hs : starEach [a] X.env = [(false, eval a X.env)] := by rfl) : DIL X Wx (.Tuple elts kk tpos) (.Call (.Name "enumerate" p) [a] [] pos) (wEnum Wr) := by
  obtain ⟨ta, pa, qa⟩ := ha.ex
  refine ⟨⟨_, pi_enX hg hm pa hs, fun fr G ρ σ H R Qa Rr rl hr w k => ?_⟩⟩
  refine qa fr G ρ σ H R _ _ rl hr w fun vs ds G1 H1 s1 r1 w1 => ?_
  split at w1
  · rename_i d
    obtain ⟨es, e1, q⟩ := w1
    obtain ⟨v, r, rfl, rv, e2⟩ := r1
    cases e2
    obtain ⟨c, xs, rfl, sq, rs⟩ := seqX s1.rel rv e1
    exact ⟨_, c, xs, rfl, sq, k _ [d] [.ref c] _ G1 H1 s1 ⟨_, _, rfl, rv, rfl⟩ (itOk_enum e1) q⟩
  · exact w1.elim
theorem di_zip (hg : Gl X "zip") (hm : X.mg "zip" = none) (ha : DA X Wx [a, b] Wr)
    (hs : starEach [a, b] X.env = (false, eval a X.env) :: starEach [b] X.env := by rfl) (hpl : (backTo pos (starEach [b] X.env)).any (·.1) = false := by rfl) : DI X Wx (.Tuple elts kk tpos) (.Call (.Name "zip" p) [a, b] [] pos) (wZip Wr) := by
  obtain ⟨ta, pa, qa⟩ := ha.ex
  refine ⟨⟨_, pi_zpX hg hm pa hs hpl, fun fr G ρ σ H R Qa Rr rl hr w k => ?_⟩⟩
  refine qa fr G ρ σ H R _ _ rl hr w fun vs ds G1 H1 s1 r1 w1 => ?_
  split at w1
  · rename_i d e
    obtain ⟨xs, ys, e1, e2, q⟩ := w1
    obtain ⟨v, r, rfl, rv, u, r', rfl, ru, e3⟩ := r1
    cases e3
    obtain ⟨c, vs, rfl, sq, rs⟩ := seqX s1.rel (.inl rv) e1
    obtain ⟨c', us, rfl, sq', rs'⟩ := seqX s1.rel (.inl ru) e2
    exact ⟨_, _, c, c', vs, us, rfl, sq, sq', k _ [d, e] [.ref c, .ref c'] _ G1 H1 s1 ⟨_, _, rfl, rv, _, _, rfl, ru, rfl⟩ (itOk_zip e1 e2) q⟩
  · exact w1.elim
theorem dil_zip (hg : Gl X "zip") (hm : X.mg "zip" = none) (ha : DAL X Wx [a, b] Wr)
    (hs : starEach [a, b] X.env = (false, eval a X.env) :: starEach [b] X.env := by rfl) (hpl : (backTo pos (starEach [b] X.env)).any (·.1) = false := by rfl) : DIL X Wx (.Tuple elts kk tpos) (.Call (.Name "zip" p) [a, b] [] pos) (wZip Wr) := by
  obtain ⟨ta, pa, qa⟩ := ha.ex
  refine ⟨⟨_, pi_zpX hg hm pa hs hpl, fun fr G ρ σ H R Qa Rr rl hr w k => ?_⟩⟩
  refine qa fr G ρ σ H R _ _ rl hr w fun vs ds G1 H1 s1 r1 w1 => ?_
  split at w1
  · rename_i d e
    obtain ⟨xs, ys, e1, e2, q⟩ := w1
    obtain ⟨v, r, rfl, rv, u, r', rfl, ru, e3⟩ := r1
    cases e3
    obtain ⟨c, vs, rfl, sq, rs⟩ := seqX s1.rel rv e1
    obtain ⟨c', us, rfl, sq', rs'⟩ := seqX s1.rel ru e2
    exact ⟨_, _, c, c', vs, us, rfl, sq, sq', k _ [d, e] [.ref c, .ref c'] _ G1 H1 s1 ⟨_, _, rfl, rv, _, _, rfl, ru, rfl⟩ (itOk_zip e1 e2) q⟩
  · exact w1.elim
end

/-! ### comprehensions -/
def wipeR (ρ : Rho) : List Nat → Rho
  | [] => ρ
  | v :: vs => (wipeR ρ vs).set v .un
theorem wipeR_length (ρ : Rho) : ∀ vs : List Nat, (wipeR ρ vs).length = ρ.length
  | [] => rfl
  | v :: vs => by unfold wipeR; rw [List.length_set, wipeR_length ρ vs]
theorem gt_wipe {ρ : Rho} : ∀ {vs : List Nat} {j : Nat}, gt (wipeR ρ vs) j = if j ∈ vs then .un else gt ρ j
  | [], j => by simp [wipeR]
  | v :: vs, j => by
    unfold wipeR
    rw [gt_set, wipeR_length, gt_wipe (vs := vs)]
    by_cases h : j = v
    · subst h
      by_cases hl : j < ρ.length
      · simp [hl]
      · have e := gt_out (ρ := ρ) (i := j) (by omega)
        simp [hl, e]
    · simp [h]
theorem sv_wipe {σ : L2.St} : ∀ {vs : List Nat} {j : Nat}, j ∉ vs → sv (wipe σ vs) j = sv σ j := fun {vs j} h => by
  unfold sv; rw [wipe_out h]
def noMut (ρ : Rho) (vs : List Nat) : Prop := ∀ v ∈ vs, ¬ isMut (gt ρ v)
structure DTs (X : Cx) (ifs : List Expr) (W : WT) : Prop where
  ex : ∃ t, PTs X ifs t ∧ ∀ fr G ρ σ H Qa Q, Rel X.K fr G ρ σ H → W (fun _ => False) ρ Qa → (∀ k G' H', Step X.K fr G ρ σ H G' H' → Qa k → Q k H') → t σ H Q
def wYes : WT := fun _ _ Q => Q true
abbrev W0 : WX := fun _ _ _ _ => False
theorem raise0 {K : PySem.W.Frag} {Wx : WX} {fr : Fr} {ρ : Rho} {σ : L2.St} : RaiseE K Wx fr ρ σ (fun _ => False) := fun _ _ _ _ _ h => h.elim
theorem dts_nil {X : Cx} : DTs X [] wYes := ⟨⟨_, pts_nil, fun fr G ρ σ H Qa Q r w k => k true G H (.refl r) w⟩⟩
theorem dts_one {X : Cx} {c : Expr} {W : WT} (h : DT X W0 c W) : DTs X [c] W := by
  obtain ⟨t, p, q⟩ := h.ex
  exact ⟨⟨_, pts_one p, fun fr G ρ σ H Qa Q r w k => q fr G ρ σ H _ _ _ r raise0 w k⟩⟩
def compW (g : WG) (Wt : WT) (We : WE) (ρ : Rho) : List D → List D → (List D → Prop) → Prop
  | [], acc, Q => Q acc
  | d :: ds, acc, Q => g d ρ fun ρ' => Wt (fun _ => False) ρ' fun k => if k = true then We (fun _ => False) ρ' fun y => compW g Wt We ρ ds (acc ++ [y]) Q else compW g Wt We ρ ds acc Q
def wLc (Wi : WI) (g : WG) (Wt : WT) (We : WE) (vs : List Nat) : WE := fun R ρ Q => noMut ρ vs ∧ Wi R ρ fun ds => ds.length ≤ 16777216 ∧ compW g Wt We (wipeR ρ vs) ds [] fun ys => Q (.lst ys)
section
variable {K : PySem.W.Frag} {fr : Fr} {G : GS} {ρ : Rho} {σ : L2.St} {H : Hp}
theorem Rel.wipe (r : Rel K fr G ρ σ H) (vs : List Nat) : Rel K fr G (wipeR ρ vs) (wipe σ vs) H where
  g0 := r.g0
  gn := r.gn
  gi := r.gi
  same := r.same
  sta := r.sta
  slot := fun j => by
    rw [gt_wipe]
    by_cases h : j ∈ vs
    · rw [if_pos h]; trivial
    · rw [if_neg h, sv_wipe h]; exact r.slot j
  apart := fun j k a hjk m1 m2 e1 e2 => by
    rw [gt_wipe] at m1 m2
    by_cases hj : j ∈ vs
    · rw [if_pos hj] at m1; exact m1
    · by_cases hk : k ∈ vs
      · rw [if_pos hk] at m2; exact m2
      · rw [if_neg hj] at m1
        rw [if_neg hk] at m2
        rw [sv_wipe hj] at e1
        rw [sv_wipe hk] at e2
        exact r.apart j k a hjk m1 m2 e1 e2
  len := by rw [wipeR_length, wipe_length]; exact r.len
  bst := r.bst
  bg := r.bg
  prv := fun b h => by
    obtain ⟨a1, a2, a3, a4⟩ := r.prv b h
    refine ⟨a1, a2, a3, fun j m e => ?_⟩
    rw [gt_wipe] at m
    by_cases hj : j ∈ vs
    · rw [if_pos hj] at m; exact m
    · rw [if_neg hj] at m
      rw [sv_wipe hj] at e
      exact a4 j m e
  tb := r.tb
  tbs := r.tbs
/-- more lists in the making -/
theorem Rel.priv (r : Rel K fr G ρ σ H) {D : Addr} {o : HO} (h : H D = some o) (ng : ¬ G D) (h0 : fr.H0 D = none) (hm : ∀ i, isMut (gt ρ i) → sv σ i ≠ some (.ref D)) :
    Rel K { fr with Pv := fun b => fr.Pv b ∨ b = D } G ρ σ H :=
  ⟨r.g0, r.gn, r.gi, r.same, r.sta, r.slot, r.apart, r.len, r.bst, r.bg, fun b hb => hb.elim (r.prv b) fun e => by subst e; exact ⟨ng, ⟨o, h⟩, h0, hm⟩, r.tb, r.tbs⟩
theorem Rel.unpriv {D : Addr} (r : Rel K { fr with Pv := fun b => fr.Pv b ∨ b = D } G ρ σ H) : Rel K fr G ρ σ H :=
  ⟨r.g0, r.gn, r.gi, r.same, r.sta, r.slot, r.apart, r.len, r.bst, r.bg, fun b hb => r.prv b (.inl hb), r.tb, r.tbs⟩
/-- a list that is not the frame's is changed -/
theorem Rel.chgO (r : Rel K fr G ρ σ H) {D : Addr} {u u' : HO} (h : H D = some u) (n1 : ∀ xs, u ≠ .tup xs) (n2 : ∀ o v, u ≠ .frz o v) (n3 : ∀ q, u ≠ LamX.CodeO D q) (ng : ¬ G D) (h0 : fr.H0 D = none) (hs : fr.st0 ≠ some D) (hm : ∀ i, isMut (gt ρ i) → sv σ i ≠ some (.ref D)) : Rel K fr G ρ σ (upd H D u') := by
  have ne : ∀ b, G b → b ≠ D := fun b g e => ng (e ▸ g)
  have st : Stab G H (upd H D u') := ⟨fun b zs q => by
      rw [upd_ne (fun e => by rw [e, h] at q; exact n1 _ (Option.some.inj q))]; exact q, fun b o u q => by
      rw [upd_ne (fun e => by rw [e, h] at q; exact n2 _ _ (Option.some.inj q))]; exact q, fun b g => by rw [upd_ne (ne b g)]⟩
  have nT : ¬ isT D := fun z => fr.ht D z h0
  refine ⟨r.g0, r.gn, fun b g => ?_, fun b o hb ht e => ?_, fun a e => ?_, fun i => ?_, r.apart, r.len, r.bst.trans st r.bg, r.bg, fun b hb => ?_, r.tb, fun p hp => ?_⟩
  · obtain ⟨o, e⟩ := r.gi b g
    exact ⟨o, by rw [upd_ne (ne b g)]; exact e⟩
  · have q := r.same b o hb ht e
    rw [upd_ne (fun z => by rw [z, h0] at e; cases e)]; exact q
  · obtain ⟨n, zs, q, ok⟩ := r.sta a e
    exact ⟨n, zs, by rw [upd_ne (fun z => hs (by rw [← z]; exact e))]; exact q, ok⟩
  · have s := r.slot i
    cases q : gt ρ i with
    | un => trivial
    | exc _ _ _ =>
      rw [q] at s
      exact ⟨s.1, s.2.stab st (fun _ h => h)⟩
    | val d =>
      rw [q] at s
      obtain ⟨v, e, rp⟩ := s
      exact ⟨v, e, Rep.stab st (fun _ h => h) d v rp⟩
    | clo f c' q' Gl Hl =>
      rw [q] at s
      exact ⟨s.1, s.2.1, s.2.2.1, s.2.2.2.1.trans st s.2.2.2.2, s.2.2.2.2⟩
    | dow ks ds =>
      rw [q] at s
      obtain ⟨a, xs, vs, e1, r1, r2, e2, e4, e5⟩ := s
      exact ⟨a, xs, vs, e1, Reps.stab st (fun _ h => h) ks xs r1, Reps.stab st (fun _ h => h) ds vs r2, e2.keep (fun o e _ => by rw [upd_ne (fun z => hm i (by rw [q]; trivial) (by rw [← z]; exact e1))]; exact e), e4, e5⟩
    | own oa ds =>
      rw [q] at s
      obtain ⟨a, zs, e1, e2, e3, e4, e5⟩ := s
      exact ⟨a, zs, e1, by rw [upd_ne (fun z => hm i (by rw [q]; trivial) (by rw [← z]; exact e1))]; exact e2, Reps.stab st (fun _ h => h) ds zs e3, e4, e5⟩
    | slf b C ns ds =>
      rw [q] at s
      obtain ⟨a, dx, zs, e1, e2, e3, e4, e5⟩ := s
      exact ⟨a, dx, zs, e1, by rw [upd_ne (fun z => hm i (by rw [q]; trivial) (by rw [← z]; exact e1))]; exact e2, Reps.stab st (fun _ h => h) ds zs e3, e4, e5⟩
    | stt =>
      rw [q] at s
      obtain ⟨a, zs, e1, e2, e3, e4, e5⟩ := s
      exact ⟨a, zs, e1, by rw [upd_ne (fun z => hm i (by rw [q]; trivial) (by rw [← z]; exact e1))]; exact e2, e3, e4, e5⟩
  · obtain ⟨a1, ⟨o, a2⟩, a3, a4⟩ := r.prv b hb
    by_cases e : b = D
    · subst e
      exact ⟨a1, ⟨_, upd_same⟩, a3, a4⟩
    · exact ⟨a1, ⟨o, by rw [upd_ne e]; exact a2⟩, a3, a4⟩
  · obtain ⟨ps, q1, q2, q3⟩ := r.tbs p hp
    refine ⟨ps, by rw [upd_ne (fun z => nT ⟨p.2, by rw [← z]; exact hp⟩)]; exact q1, q2, fun pos cv hc => ?_⟩
    obtain ⟨c', e1, e2⟩ := q3 pos cv hc
    exact ⟨c', e1, by rw [upd_ne (fun z => by subst z; exact n3 p.2 (Option.some.inj (h.symm.trans e2)))]; exact e2⟩
theorem Rel.chg (r : Rel K fr G ρ σ H) {D : Addr} {xs ys : List V} (h : H D = some (.lst xs)) (ng : ¬ G D) (h0 : fr.H0 D = none) (hs : fr.st0 ≠ some D) (hm : ∀ i, isMut (gt ρ i) → sv σ i ≠ some (.ref D)) : Rel K fr G ρ σ (upd H D (.lst ys)) :=
  r.chgO h (fun _ => by simp) (fun _ _ => by simp) (fun _ z => by cases z) ng h0 hs hm
theorem stab_chg {D : Addr} {xs ys : List V} (h : H D = some (.lst xs)) (ng : ¬ G D) : Stab G H (upd H D (.lst ys)) :=
  ⟨fun b zs q => by rw [upd_ne (fun e => by rw [e, h] at q; cases q)]; exact q, fun b o u q => by rw [upd_ne (fun e => by rw [e, h] at q; cases q)]; exact q, fun b g => by
    have ne : b ≠ D := fun e => ng (by rw [← e]; exact g)
    rw [upd_ne ne]⟩
/-- from a block's step to the frame's -/
theorem Rel.back {ρb : Rho} {σb : L2.St} {G' : GS} {H' : Hp} {vs : List Nat} (r : Rel K fr G ρ σ H) (s : Step K fr G ρb σb H G' H') (hn : noMut ρ vs) (ho : ∀ j, j ∉ vs → gt ρb j = gt ρ j ∧ sv σb j = sv σ j) : Rel K fr G' ρ σ H' := by
  have q := s.rel
  refine ⟨q.g0, q.gn, q.gi, q.same, q.sta, fun i => ?_, r.apart, r.len, q.bst, q.bg, fun b hb => ?_, q.tb, q.tbs⟩
  · by_cases h : i ∈ vs
    · have sl := r.slot i
      have nm := hn i h
      cases e : gt ρ i with
      | un => trivial
      | exc _ _ _ =>
        rw [e] at sl
        exact ⟨sl.1, sl.2.stab s.stab s.gg⟩
      | val d =>
        rw [e] at sl
        obtain ⟨v, e1, rp⟩ := sl
        exact ⟨v, e1, s.rep rp⟩
      | clo _ _ _ _ _ => rw [e] at sl; exact ⟨sl.1, sl.2.1, sl.2.2.1, sl.2.2.2.1.trans s.stab sl.2.2.2.2, fun b g => s.gg b (sl.2.2.2.2 b g)⟩
      | dow _ _ => rw [e] at nm; exact (nm trivial).elim
      | own oa ds => rw [e] at nm; exact (nm trivial).elim
      | slf _ _ _ _ => rw [e] at nm; exact (nm trivial).elim
      | stt => rw [e] at nm; exact (nm trivial).elim
    · have sl := q.slot i
      rw [(ho i h).1, (ho i h).2] at sl
      exact sl
  · obtain ⟨a1, a2, a3, a4⟩ := q.prv b hb
    refine ⟨a1, a2, a3, fun i m e => ?_⟩
    by_cases h : i ∈ vs
    · exact hn i h m
    · exact a4 i (by rw [(ho i h).1]; exact m) (by rw [(ho i h).2]; exact e)
end
theorem wipe_eq {σ σ' : L2.St} {vs : List Nat} (hl : σ'.length = σ.length) (h : ∀ j, j ∉ vs → σ'[j]? = σ[j]?) : wipe σ' vs = wipe σ vs := by
  apply List.ext_getElem?
  intro j
  by_cases hj : j ∈ vs
  · have key : ∀ (σ : L2.St) (ws : List Nat), j ∈ ws → (wipe σ ws)[j]? = if j < σ.length then some none else none := fun σ ws => by
      induction ws with
      | nil => intro h; cases h
      | cons w ws ih =>
        intro hw
        unfold wipe
        by_cases e : w = j
        · subst e
          by_cases hl : w < σ.length
          · rw [List.getElem?_set_self (by rw [wipe_length]; exact hl), if_pos hl]
          · rw [List.getElem?_eq_none (by rw [List.length_set, wipe_length]; omega), if_neg hl]
        · rw [List.getElem?_set_ne e]
          rcases List.mem_cons.mp hw with z | z
          · exact absurd z.symm e
          · exact ih z
    rw [key σ' vs hj, key σ vs hj, hl]
  · rw [wipe_out hj, wipe_out hj, h j hj]
section
variable {X : Cx} {Wx : WX} {elt tg iter : Expr} {ifs : List Expr} {scope : Scope} {own : List (Str × Nat)} {pos : Pos} {Wi : WI} {g : WG} {Wt : WT} {We : WE} {vs ws : List Nat}
/-- what a comprehension's reading asks, from what is to hold -/
theorem lc_go {wi : TI} {t : TG} {tt : TT} {te : TE} (hsub : ∀ v ∈ ws, v ∈ vs)
    (qi : ∀ fr G ρ σ H R Qa Rr, Rel X.K fr G ρ σ H → RaiseE X.K Wx fr ρ σ R → Wi R ρ Qa → (∀ J cs us ds G' H', Step X.K fr G ρ σ H G' H' → RepLs X.K G' ρ σ H' cs us → ItOk X.K J cs us ds → Qa ds → Rr J H') → wi σ H Rr)
    (qg : ∀ fr G ρ σ H v d Qa Q, Rel X.K fr G ρ σ H → Rep X.K G H d v → g d ρ Qa → (∀ ρ' σ', Rel X.K fr G ρ' σ' H → OnlyAt ws ρ ρ' σ σ' → Qa ρ' → Q σ' H) → t v σ H Q)
    (qt : ∀ fr G ρ σ H Qa Q, Rel X.K fr G ρ σ H → Wt (fun _ => False) ρ Qa → (∀ k G' H', Step X.K fr G ρ σ H G' H' → Qa k → Q k H') → tt σ H Q)
    (qe : ∀ fr G ρ σ H R Qa Q, Rel X.K fr G ρ σ H → RaiseE X.K W0 fr ρ σ R → We R ρ Qa → (∀ v d G' H', Step X.K fr G ρ σ H G' H' → Rep X.K G' H' d v → Qa d → Q v H') → te σ H Q) :
    ∀ fr G ρ σ H R Qa Q, Rel X.K fr G ρ σ H → RaiseE X.K Wx fr ρ σ R → wLc Wi g Wt We vs R ρ Qa →
      (∀ p xs ds G' H', Step X.K fr G ρ σ H G' H' → H p = none → H' p = some (.lst xs) → ¬ G' p → Reps X.K G' H' ds xs → Qa (.lst ds) → Q (.ref p) H') → tLc wi t tt te vs σ H Q := by
  intro fr G ρ σ H R Qa Q rl hr w k
  obtain ⟨hn, w⟩ := w
  refine qi fr G ρ σ H R _ _ rl hr w fun J cs us ds G1 H1 s1 rc ok w1 => ?_
  obtain ⟨hlen, w1⟩ := w1
  intro D nD
  have nDH : H D = none := s1.up D nD
  have h0 : fr.H0 D = none := rl.h0 nDH
  have ngD : ¬ G1 D := fun gD => by
    obtain ⟨o, q⟩ := s1.rel.gi D gD
    rw [nD] at q; cases q
  have nmD : ∀ i, isMut (gt ρ i) → sv σ i ≠ some (.ref D) := rl.not_mut nDH
  have nst : fr.st0 ≠ some D := fun e => by
    obtain ⟨_, zs, q, _⟩ := rl.sta D e
    rw [nDH] at q; cases q
  generalize hfr : ({ fr with Pv := fun b => fr.Pv b ∨ b = D } : Fr) = fr2
  have e0 : fr2.H0 = fr.H0 := by rw [← hfr]
  have est : fr2.st0 = fr.st0 := by rw [← hfr]
  refine ⟨fun i m H' => m = ds.length - i ∧ i ≤ ds.length ∧ ∃ G2 xs ys, Rel X.K fr2 G2 ρ σ H' ∧ Stab G1 H1 H' ∧ (∀ b, G1 b → G2 b) ∧ (∀ b, G2 b → G1 b ∨ H1 b = none) ∧ (∀ b, H' b = none → H1 b = none) ∧ (∀ b, fr.Pv b → H' b = H1 b) ∧
      H' D = some (.lst xs) ∧ ¬ G2 D ∧ Reps X.K G2 H' ys xs ∧ ys.length ≤ i ∧ compW g Wt We (wipeR ρ vs) (ds.drop i) ys fun zs => Qa (.lst zs), ⟨ds.length, by simp, Nat.zero_le _, G1, [], [], ?_⟩, ?_⟩
  · have r2 := (s1.rel.new (o := .lst []) nD).priv (D := D) upd_same ngD h0 nmD
    rw [hfr] at r2
    exact ⟨r2, stab_new nD s1.rel.gi, fun _ h => h, fun _ h => .inl h, up_new, fun b h => (keep_new s1.rel nD b h), upd_same, ngD, rfl, Nat.zero_le _, w1⟩
  · rintro i m H' ⟨rfl, hi, G2, xs, ys, r2, st, gg, gn, up, kp, hD, ngD2, rs, hly, wc⟩
    have rcs : RepLs X.K G2 ρ σ H' cs us := by
      have : ∀ {cs us}, RepLs X.K G1 ρ σ H1 cs us → RepLs X.K G2 ρ σ H' cs us := fun {cs} => by
        induction cs with
        | nil => intro us h; exact h
        | cons c cs ih =>
          rintro us ⟨v, r, e, h1, h2⟩
          exact ⟨v, r, e, h1.imp (fun h => Rep.stab st gg _ _ h) id, ih h2⟩
      exact this rc
    by_cases hlt : i < ds.length
    · refine .inr ⟨ok.go fr2 G2 ρ σ H' i r2 rcs hlt, fun H'' => i + 1 ≤ ds.length ∧ ∃ G2 xs ys, Rel X.K fr2 G2 ρ σ H'' ∧ Stab G1 H1 H'' ∧ (∀ b, G1 b → G2 b) ∧ (∀ b, G2 b → G1 b ∨ H1 b = none) ∧ (∀ b, H'' b = none → H1 b = none) ∧ (∀ b, fr.Pv b → H'' b = H1 b) ∧
        H'' D = some (.lst xs) ∧ ¬ G2 D ∧ Reps X.K G2 H'' ys xs ∧ ys.length ≤ i + 1 ∧ compW g Wt We (wipeR ρ vs) (ds.drop (i + 1)) ys fun zs => Qa (.lst zs), fun H'' q => ⟨ds.length - (i + 1), by omega, rfl, q⟩, fun x H3 y => ?_⟩
      obtain ⟨G3, s3, hx⟩ := ok.yld fr2 G2 ρ σ H' i x H3 r2 rcs hlt y
      have ed : ds[i]? = some ds[i] := List.getElem?_eq_getElem hlt
      have rx := hx _ ed
      rw [List.drop_eq_getElem_cons hlt] at wc
      have rw3 := s3.rel.wipe vs
      refine qg fr2 G3 (wipeR ρ vs) (wipe σ vs) H3 x ds[i] _ _ rw3 rx wc fun ρ' σ' rl4 oa w4 => ?_
      have lσ : σ'.length = (wipe σ vs).length := oa.len
      refine ⟨?_, ?_⟩
      · rw [wipe_eq (vs := vs) lσ fun j hj => (oa.at' j fun z => hj (hsub j z)).2]
        exact wipe_eq (wipe_length σ vs) fun j hj => wipe_out hj
      · have back : ∀ {G5 : GS} {H5 : Hp}, Step X.K fr2 G3 ρ' σ' H3 G5 H5 → Rel X.K fr2 G5 ρ σ H5 := fun {G5 H5} s5 => s3.rel.back (vs := vs) s5 hn fun j hj => by
          have q := oa.at' j fun z => hj (hsub j z)
          refine ⟨q.1.trans ?_, ?_⟩
          · rw [gt_wipe, if_neg hj]
          · unfold sv; rw [q.2, wipe_out hj]
        have hD3 : ∀ {G5 : GS} {H5 : Hp}, Step X.K fr2 G3 ρ' σ' H3 G5 H5 → H5 D = some (.lst xs) := fun {G5 H5} s5 => by
          have q1 := s3.keep D (by rw [← hfr]; exact .inr rfl)
          have q2 := s5.keep D (by rw [← hfr]; exact .inr rfl)
          rw [q2, q1]; exact hD
        have nxt : ∀ {G5 : GS} {H5 : Hp}, Step X.K fr2 G3 ρ' σ' H3 G5 H5 → Stab G1 H1 H5 ∧ (∀ b, G1 b → G5 b) ∧ (∀ b, G5 b → G1 b ∨ H1 b = none) ∧ (∀ b, H5 b = none → H1 b = none) ∧ (∀ b, fr.Pv b → H5 b = H1 b) ∧ Reps X.K G5 H5 ys xs ∧ ¬ G5 D := fun {G5 H5} s5 => by
          refine ⟨(st.trans s3.stab gg).trans s5.stab fun b h => s3.gg b (gg b h), fun b h => s5.gg b (s3.gg b (gg b h)), fun b h => ?_, fun b h => up b (s3.up b (s5.up b h)), fun b h => ?_, s5.reps (s3.reps rs), fun h => ?_⟩
          · rcases s5.gnew b h with z | z
            · rcases s3.gnew b z with z | z
              · exact gn b z
              · exact .inr (up b z)
            · exact .inr (up b (s3.up b z))
          · rw [s5.keep b (by rw [← hfr]; exact .inl h), s3.keep b (by rw [← hfr]; exact .inl h)]; exact kp b h
          · have := (back s5).prv D (by rw [← hfr]; exact .inr rfl)
            exact this.1 h
        refine qt fr2 G3 ρ' σ' H3 _ _ rl4 w4 fun b G5 H5 s5 w5 => ?_
        cases b with
        | false =>
          obtain ⟨n1, n2, n3, n4, n5, n6, n7⟩ := nxt s5
          exact ⟨hlt, G5, xs, ys, back s5, n1, n2, n3, n4, n5, hD3 s5, n7, n6, Nat.le_succ_of_le hly, w5⟩
        | true =>
          refine qe fr2 G5 ρ' σ' H5 _ _ _ s5.rel raise0 w5 fun v d G6 H6 s6 rv w6 => ?_
          have s56 := s5.trans s6
          obtain ⟨n1, n2, n3, n4, n5, n6, n7⟩ := nxt s56
          have hD6 := hD3 s56
          have rb := back s56
          refine ⟨xs, hD6, by rw [rs.length, ← line_eq]; omega, hlt, G6, xs ++ [v], ys ++ [d], rb.chg hD6 n7 (by rw [e0]; exact h0) (by rw [est]; exact nst) nmD, n1.trans (stab_chg hD6 n7) n2, n2, n3, fun b h => ?_, fun b h => ?_, upd_same, n7, ?_, by rw [List.length_append]; simp; omega, w6⟩
          · unfold upd at h
            split at h
            · cases h
            · exact n4 b h
          · have ne : b ≠ D := fun e => by
              obtain ⟨_, ⟨o, q⟩, _⟩ := s1.rel.prv b h
              rw [e, nD] at q; cases q
            rw [upd_ne ne]; exact n5 b h
          · exact Reps.stab (stab_chg hD6 n7) (fun _ h => h) _ _ (n6.append (.one rv))
    · have e : i = ds.length := by omega
      subst e
      refine .inl ⟨ok.stop fr2 G2 ρ σ H' _ r2 rcs rfl, ?_⟩
      rw [List.drop_length] at wc
      have wc : Qa (.lst ys) := wc
      rw [← hfr] at r2
      exact k D xs ys G2 H' ⟨r2.unpriv, s1.stab.trans st s1.gg, fun b h => gg b (s1.gg b h), fun b h => by
        rcases gn b h with z | z
        · exact s1.gnew b z
        · exact .inr (s1.up b z), fun b h => s1.up b (up b h), fun b h => (kp b h).trans (s1.keep b h)⟩ nDH hD ngD2 rs wc
end
end AV

set_option maxRecDepth 100000
set_option maxHeartbeats 4000000
namespace AV
open PySem PySem.Spec PyProof.Rows L2
variable [TabC]

/-! ### readings that are alike in all contexts of one fragment -/
def canE (K : PySem.W.Frag) (Wx : WX) (W : WE) : TE := fun σ H Q => ∃ fr G ρ R Qa, Rel K fr G ρ σ H ∧ RaiseE K Wx fr ρ σ R ∧ W R ρ Qa ∧ ∀ v d G' H', Step K fr G ρ σ H G' H' → Rep K G' H' d v → Qa d → Q v H'
theorem DE.can {X : Cx} {Wx : WX} {e : Expr} {W : WE} (h : DE X Wx e W) : PE X e (canE X.K Wx W) := by
  obtain ⟨t, p, q⟩ := h.ex
  exact ⟨fun pins s σ H Q I ⟨fr, G, ρ, R, Qa, rl, hr, w, k⟩ => p.run pins s σ H Q I (q fr G ρ σ H R Qa Q rl hr w k)⟩
def canG (K : PySem.W.Frag) (vs : List Nat) (g : WG) : TG := fun v σ H Q => ∃ fr G ρ d Qa, Rel K fr G ρ σ H ∧ Rep K G H d v ∧ g d ρ Qa ∧ ∀ ρ' σ', Rel K fr G ρ' σ' H → OnlyAt vs ρ ρ' σ σ' → Qa ρ' → Q σ' H
theorem DG.can {X : Cx} {tg : Expr} {vs : List Nat} {g : WG} (h : DG X tg vs g) : PG X tg (canG X.K vs g) := by
  obtain ⟨t, p, q⟩ := h.ex
  exact ⟨fun pins s σ H v u Q I r ⟨fr, G, ρ, d, Qa, rl, rp, w, k⟩ => p.run pins s σ H v u Q I r (q fr G ρ σ H v d Qa Q rl rp w k)⟩
def canT (K : PySem.W.Frag) (W : WT) : TT := fun σ H Q => ∃ fr G ρ Qa, Rel K fr G ρ σ H ∧ W (fun _ => False) ρ Qa ∧ ∀ k G' H', Step K fr G ρ σ H G' H' → Qa k → Q k H'
theorem DTs.can {X : Cx} {ifs : List Expr} {W : WT} (h : DTs X ifs W) : PTs X ifs (canT X.K W) := by
  obtain ⟨t, p, q⟩ := h.ex
  exact ⟨fun pins s σ H Q I ⟨fr, G, ρ, Qa, rl, w, k⟩ => p.run pins s σ H Q I (q fr G ρ σ H Qa Q rl w k)⟩
section
variable {X : Cx} {Wx : WX} {elt tg iter : Expr} {ifs : List Expr} {scope : Scope} {own : List (Str × Nat)} {pos : Pos} {Wi : WI} {g : WG} {Wt : WT} {We : WE} {vs ws : List Nat}
/-- a new list by a comprehension of one clause -/
theorem dn_lc (hc : X.calm = true) (hN : X.N.Nodup) (hi : DIL X Wx tg iter Wi) (ok : BlkOk X.N X.env.scope scope own) (hsub : ∀ v ∈ ws, v ∈ own.map (·.2))
    (hg : ∀ (s : Shared) (H : Hp) (C : Addr) (cl : List (Str × Addr)) (fp : List Addr), DG (X.blk s H scope (compEnvC scope cl C X.env) fp) tg ws g)
    (ht : ∀ (s : Shared) (H : Hp) (C : Addr) (cl : List (Str × Addr)) (fp : List Addr), DTs (X.blk s H scope (compEnvC scope cl C X.env) fp) ifs Wt)
    (he : ∀ (s : Shared) (H : Hp) (C : Addr) (cl : List (Str × Addr)) (fp : List Addr), DE (X.blk s H scope (compEnvC scope cl C X.env) fp) W0 elt We)
    (hs : ∀ x, foldedSetIterable iter X.env x = pure x := by intro _; rfl) : DN X Wx (.ListComp elt [⟨tg, iter, ifs, 0⟩] scope pos) (wLc Wi g Wt We (own.map (·.2))) := by
  obtain ⟨wi, pi, qi⟩ := hi.ex
  refine ⟨⟨_, pe_lc (g := canG X.K ws g) (tt := canT X.K Wt) (te := canE X.K W0 We) hc hN pi ok (fun s H C cl fp => (hg s H C cl fp).can) (fun s H C cl fp => (ht s H C cl fp).can) (fun s H C cl fp => (he s H C cl fp).can) hs, ?_⟩⟩
  exact lc_go hsub qi (fun fr G ρ σ H v d Qa Q rl rp w k => ⟨fr, G, ρ, d, Qa, rl, rp, w, k⟩) (fun fr G ρ σ H Qa Q rl w k => ⟨fr, G, ρ, Qa, rl, w, k⟩) (fun fr G ρ σ H R Qa Q rl hr w k => ⟨fr, G, ρ, R, Qa, rl, hr, w, k⟩)
end

/-! ### defs -/
abbrev AS := List D → (D → Prop) → (EX → Prop) → Prop
structure Post (K : PySem.W.Frag) (st : Option Addr) (G : GS) (H : Hp) (G' : GS) (H' : Hp) : Prop where
  same : ∀ b o, st ≠ some b → ¬ isT b → H b = some o → H' b = some o
  gg : ∀ b, G b → G' b
  gn : ∀ b, G' b → G b ∨ H b = none
  gi : ∀ b, G' b → ∃ o, H' b = some o
  sta : ∀ a, st = some a → ¬ G' a ∧ ∃ xs, H' a = some (.lst xs) ∧ StOk xs
  tb : ∀ b, isT b → ¬ G' b
  tbs : LamX.Tabs TabC.T H'
/-- what a call finds -/
structure GOk (G : GS) (H : Hp) : Prop where
  gi : ∀ b, G b → ∃ o, H b = some o
  tb : ∀ b, isT b → ¬ G b
  tbs : LamX.Tabs TabC.T H
theorem GOk.ht {G : GS} {H : Hp} (g : GOk G H) (b : Addr) (h : isT b) : H b ≠ none := by
  obtain ⟨ps, q⟩ := isT_some g.tbs h
  rw [q]; simp
theorem Rel.gok {K : PySem.W.Frag} {fr : Fr} {G : GS} {ρ : Rho} {σ : L2.St} {H : Hp} (r : Rel K fr G ρ σ H) : GOk G H := ⟨r.gi, r.tb, r.tbs⟩
/-- what a def promises: data in, data out; nothing that stands is changed -/
def spV (K : PySem.W.Frag) (φ : AS) : Sp := fun vs H Q E => ∃ G ds Qa R, GOk G H ∧ Reps K G H ds vs ∧ φ ds Qa R ∧
  (∀ v d G' H', Post K none G H G' H' → Rep K G' H' d v → Qa d → Q v H') ∧ ∀ ex cls dd G' H', Post K none G H G' H' → ExRep K G' H' ex cls dd → R ex → E cls dd H'
/-- .. but the state of draws, its first argument -/
def spS (K : PySem.W.Frag) (φ : AS) : Sp := fun vs H Q E => ∃ a us G ds Qa R, vs = .ref a :: us ∧ GOk G H ∧ ¬ G a ∧ (∃ xs, H a = some (.lst xs) ∧ StOk xs) ∧ Reps K G H ds us ∧ φ ds Qa R ∧
  (∀ v d G' H', Post K (some a) G H G' H' → Rep K G' H' d v → Qa d → Q v H') ∧ ∀ ex cls dd G' H', Post K (some a) G H G' H' → ExRep K G' H' ex cls dd → R ex → E cls dd H'
section
variable {K : PySem.W.Frag} {fr : Fr} {G G' : GS} {ρ : Rho} {σ : L2.St} {H H' : Hp}
/-- a call that changes nothing, seen by the caller -/
theorem Post.step (p : Post K none G H G' H') (r : Rel K fr G ρ σ H) : Step K fr G ρ σ H G' H' := by
  have sm : ∀ b o, ¬ isT b → H b = some o → H' b = some o := fun b o ht e => p.same b o (by simp) ht e
  have nt : ∀ {b o}, H b = some o → (∀ ps, o ≠ .tbl ps) → ¬ isT b := fun e n => notT r.tbs e n
  have st : Stab G H H' := ⟨fun b xs e => sm b _ (nt e fun _ z => by cases z) e, fun b o u e => sm b _ (nt e fun _ z => by cases z) e, fun b g => by
    obtain ⟨o, e⟩ := r.gi b g
    rw [e]; exact sm b o (fun z => r.tb b z g) e⟩
  have up : ∀ b, H' b = none → H b = none := fun b e => by
    cases q : H b with
    | none => rfl
    | some o =>
      by_cases ht : isT b
      · obtain ⟨ps, q'⟩ := isT_some p.tbs ht
        rw [q'] at e; cases e
      · rw [sm b o ht q] at e; cases e
  have ng : ∀ b o, H b = some o → ¬ G b → ¬ G' b := fun b o e n g => by
    rcases p.gn b g with z | z
    · exact n z
    · rw [e] at z; cases z
  refine ⟨⟨fun b h => p.gg b (r.g0 b h), fun b h => ?_, p.gi, fun b o hs ht e => sm b o ht (r.same b o hs ht e), fun a e => ?_, fun i => slotOk_stab st p.gg (fun a xs q t n => ⟨sm a _ (nt q t) q, ng a _ q n⟩) (r.slot i), r.apart, r.len, r.bst.trans st r.bg, fun b h => p.gg b (r.bg b h), fun b h => ?_, p.tb, p.tbs⟩, st, p.gg, p.gn, up, fun b h => ?_⟩
  · rcases p.gn b h with z | z
    · exact r.gn b z
    · exact .inr (r.h0 z)
  · obtain ⟨n, xs, q, ok⟩ := r.sta a e
    exact ⟨ng a _ q n, xs, sm a _ (nt q fun _ z => by cases z) q, ok⟩
  · obtain ⟨a1, ⟨o, a2⟩, a3, a4⟩ := r.prv b h
    exact ⟨ng b o a2 a1, ⟨o, sm b o (r.pvT h) a2⟩, a3, a4⟩
  · obtain ⟨_, ⟨o, a2⟩, _⟩ := r.prv b h
    rw [a2]; exact sm b o (r.pvT h) a2
/-- a call that draws -/
theorem Post.stepS {i : Nat} {a : Addr} (p : Post K (some a) G H G' H') (r : Rel K fr G ρ σ H) (hi : gt ρ i = .stt) (ha : sv σ i = some (.ref a)) : Step K fr G ρ σ H G' H' := by
  have mi : isMut (gt ρ i) := by rw [hi]; trivial
  have sl := r.slot i
  rw [hi] at sl
  obtain ⟨a', xs, e1, e2, ok, nga, n0⟩ := sl
  rw [ha] at e1
  cases e1
  have sm : ∀ b o, b ≠ a → ¬ isT b → H b = some o → H' b = some o := fun b o ne ht e => p.same b o (fun z => ne (Option.some.inj z).symm) ht e
  have nt : ∀ {b o}, H b = some o → (∀ ps, o ≠ .tbl ps) → ¬ isT b := fun e n => notT r.tbs e n
  obtain ⟨nga', ys, e3, ok'⟩ := p.sta a rfl
  have st : Stab G H H' := ⟨fun b xs e => sm b _ (fun z => by rw [z, e2] at e; cases e) (nt e fun _ z => by cases z) e, fun b o u e => sm b _ (fun z => by rw [z, e2] at e; cases e) (nt e fun _ z => by cases z) e, fun b g => by
    obtain ⟨o, e⟩ := r.gi b g
    rw [e]; exact sm b o (fun z => nga (z ▸ g)) (fun z => r.tb b z g) e⟩
  have up : ∀ b, H' b = none → H b = none := fun b e => by
    cases q : H b with
    | none => rfl
    | some o =>
      by_cases z : b = a
      · rw [z, e3] at e; cases e
      · by_cases ht : isT b
        · obtain ⟨ps, q'⟩ := isT_some p.tbs ht
          rw [q'] at e; cases e
        · rw [sm b o z ht q] at e; cases e
  have ng : ∀ b o, H b = some o → ¬ G b → ¬ G' b := fun b o e n g => by
    rcases p.gn b g with z | z
    · exact n z
    · rw [e] at z; cases z
  refine ⟨⟨fun b h => p.gg b (r.g0 b h), fun b h => ?_, p.gi, fun b o hs ht e => ?_, fun a0 e => ?_, fun j => ?_, r.apart, r.len, r.bst.trans st r.bg, fun b h => p.gg b (r.bg b h), fun b h => ?_, p.tb, p.tbs⟩, st, p.gg, p.gn, up, fun b h => ?_⟩
  · rcases p.gn b h with z | z
    · exact r.gn b z
    · exact .inr (r.h0 z)
  · refine sm b o (fun z => ?_) ht (r.same b o hs ht e)
    rcases n0 with n0 | n0
    · exact hs (by rw [z]; exact n0)
    · rw [z, n0] at e; cases e
  · obtain ⟨n, xs, q, ok⟩ := r.sta a0 e
    by_cases z : a0 = a
    · rw [z]; exact ⟨nga', ys, e3, ok'⟩
    · exact ⟨ng a0 _ q n, xs, sm a0 _ z (nt q fun _ z => by cases z) q, ok⟩
  · by_cases hj : j = i
    · rw [hj, hi]
      exact ⟨a, ys, ha, e3, ok', nga', n0⟩
    · have s := r.slot j
      cases q : gt ρ j with
      | un => trivial
      | exc _ _ _ =>
        rw [q] at s
        exact ⟨s.1, s.2.stab st p.gg⟩
      | val d =>
        rw [q] at s
        obtain ⟨v, e, rp⟩ := s
        exact ⟨v, e, Rep.stab st p.gg d v rp⟩
      | clo f c' q' Gl Hl =>
        rw [q] at s
        exact ⟨s.1, s.2.1, s.2.2.1, s.2.2.2.1.trans st s.2.2.2.2, fun b g => p.gg b (s.2.2.2.2 b g)⟩
      | dow ks ds =>
        rw [q] at s
        obtain ⟨b, xs, vs, f1, r1, r2, f2, f4, f5⟩ := s
        have ne : b ≠ a := fun z => r.apart j i b hj (by rw [q]; trivial) mi f1 (by rw [z]; exact ha)
        obtain ⟨o, ho, _⟩ := f2.there
        exact ⟨b, xs, vs, f1, Reps.stab st p.gg ks xs r1, Reps.stab st p.gg ds vs r2, f2.keep (fun o e n => sm b o ne (nt e n) e), ng b _ ho f4, f5⟩
      | own oa ds =>
        rw [q] at s
        obtain ⟨b, zs, f1, f2, f3, f4, f5⟩ := s
        have ne : b ≠ a := fun z => r.apart j i b hj (by rw [q]; trivial) mi f1 (by rw [z]; exact ha)
        exact ⟨b, zs, f1, sm b _ ne (nt f2 fun _ z => by cases z) f2, Reps.stab st p.gg ds zs f3, ng b _ f2 f4, f5⟩
      | slf b' C ns ds =>
        rw [q] at s
        obtain ⟨b, dx, zs, f1, f2, f3, f4, f5⟩ := s
        have ne : b ≠ a := fun z => r.apart j i b hj (by rw [q]; trivial) mi f1 (by rw [z]; exact ha)
        exact ⟨b, dx, zs, f1, sm b _ ne (nt f2 fun _ z => by cases z) f2, Reps.stab st p.gg ds zs f3, ng b _ f2 f4, f5⟩
      | stt =>
        rw [q] at s
        obtain ⟨b, zs, f1, f2, f3, f4, f5⟩ := s
        have ne : b ≠ a := fun z => r.apart j i b hj (by rw [q]; trivial) mi f1 (by rw [z]; exact ha)
        exact ⟨b, zs, f1, sm b _ ne (nt f2 fun _ z => by cases z) f2, f3, ng b _ f2 f4, f5⟩
  · obtain ⟨a1, ⟨o, a2⟩, a3, a4⟩ := r.prv b h
    have ne : b ≠ a := fun z => a4 i mi (by rw [z]; exact ha)
    exact ⟨ng b o a2 a1, ⟨o, sm b o ne (r.pvT h) a2⟩, a3, a4⟩
  · obtain ⟨_, ⟨o, a2⟩, _, a4⟩ := r.prv b h
    have ne : b ≠ a := fun z => a4 i mi (by rw [z]; exact ha)
    rw [a2]; exact sm b o ne (r.pvT h) a2
/-- what a def's run has at its end -/
theorem Rel.post {st0 : Option Addr} {G0 : GS} {H0 Hb : Hp} {Gb Pv : GS} {hs : ∀ a, st0 = some a → H0 a ≠ none} {ht : ∀ b, isT b → H0 b ≠ none} (r : Rel K ⟨H0, st0, G0, Hb, Gb, Pv, hs, ht⟩ G ρ σ H) : Post K st0 G0 H0 G H := ⟨r.same, r.g0, r.gn, r.gi, r.sta, r.tb, r.tbs⟩
end
def wCall (φ : AS) (Wa : WA) : WE := fun R ρ Q => Wa R ρ fun ds => φ ds Q R
def wCallS (i : Nat) (φ : AS) (Wa : WA) : WE := fun R ρ Q => gt ρ i = .stt ∧ Wa R ρ fun ds => φ ds Q R
section
variable {X : Cx} {Wx : WX} {k n : Nat} {f : Addr} {fd : FuncData} {ps : List Str} {φ : AS} {x y : Str} {p pos p2 : Pos} {e : Expr} {es : List Expr} {Wa : WA}
theorem de_call (F : FnOk X.prog X.w X.K X.mg X.base (L2.CX X.prog X.w) k f fd ps (spV X.K φ)) (hr : Room k X.A) (hg : Gl X x) (hm : X.mg x = some (.ref f)) (hk : PySem.W.keepIn X.K (.ref f) = true) (hb : Binds X.K fd ps []) (tk : Takes X Wx)
    (ha : DA X Wx (e :: es) Wa) (hdb : (x == ("__debug__" : Str)) = false := by decide) (he : starEach (e :: es) X.env = (false, eval e X.env) :: starEach es X.env := by rfl) (hpl : (backTo pos (starEach es X.env)).any (·.1) = false := by rfl):
    DE X Wx (.Call (.Name x p) (e :: es) [] pos) (wCall φ Wa) := by
  obtain ⟨ta, pa, qa⟩ := ha.ex
  refine ⟨⟨_, pe_callS F hr hg hm hk hb (passAt tk) pa hdb he hpl, fun fr G ρ σ H R Qa Q rl hR w k => ?_⟩⟩
  refine qa fr G ρ σ H R _ _ rl hR w fun vs ds G1 H1 s1 r1 w1 => ?_
  refine ⟨G1, ds, Qa, R, s1.rel.gok, r1, w1, fun v d G2 H2 po rv qd => ?_, fun ex cls dd G2 H2 po rv qd => ?_⟩
  · exact k v d G2 H2 (s1.trans (po.step s1.rel)) rv qd
  · exact hR ex cls dd G2 H2 qd rv (po.step s1.rel).rel
theorem de_callS (i : Nat) (F : FnOk X.prog X.w X.K X.mg X.base (L2.CX X.prog X.w) k f fd ps (spS X.K φ)) (hr : Room k X.A) (hg : Gl X x) (hm : X.mg x = some (.ref f)) (hk : PySem.W.keepIn X.K (.ref f) = true) (hb : Binds X.K fd ps []) (tk : Takes X Wx)
    (ha : DA X Wx es Wa) (hN : X.N[i]? = some y := by rfl) (hv : Vis X.env.scope y := by first | exact Or.inl rfl | exact Or.inr (Or.inl rfl) | exact Or.inr (Or.inr rfl)) (hd : (y == ("__debug__" : Str)) = false := by decide)
    (hcd : (y == ("__classdict__" : Str)) = false := by decide) (hdb : (x == ("__debug__" : Str)) = false := by decide) (he : starEach (.Name y p2 :: es) X.env = (false, eval (.Name y p2) X.env) :: starEach es X.env := by rfl) (hpl : (backTo pos (starEach es X.env)).any (·.1) = false := by rfl):
    DE X Wx (.Call (.Name x p) (.Name y p2 :: es) [] pos) (wCallS i φ Wa) := by
  obtain ⟨ta, pa, qa⟩ := ha.ex
  refine ⟨⟨_, pe_callS F hr hg hm hk hb (passAt tk) (pa_cons (pe_var hN hv hd hcd) pa he) hdb he hpl, fun fr G ρ σ H R Qa Q rl hR w k => ?_⟩⟩
  obtain ⟨hi, w⟩ := w
  have sl := rl.slot i
  rw [hi] at sl
  obtain ⟨a, xs, e1, e2, ok, nga, n0⟩ := sl
  refine ⟨_, sv_some.mp e1, ?_⟩
  refine qa fr G ρ σ H R _ _ rl hR w fun vs ds G1 H1 s1 r1 w1 => ?_
  have sl := s1.rel.slot i
  rw [hi] at sl
  obtain ⟨a', xs', e1', e2', ok', nga', n0'⟩ := sl
  rw [e1] at e1'; cases e1'
  refine ⟨a, vs, G1, ds, Qa, R, rfl, s1.rel.gok, nga', ⟨xs', e2', ok'⟩, r1, w1, fun v d G2 H2 po rv qd => ?_, fun ex cls dd G2 H2 po rv qd => ?_⟩
  · exact k v d G2 H2 (s1.trans (po.stepS s1.rel hi e1)) rv qd
  · exact hR ex cls dd G2 H2 qd rv (po.stepS s1.rel hi e1).rel
end
end AV

set_option maxRecDepth 100000
set_option maxHeartbeats 4000000
namespace AV
open PySem PySem.Spec PyProof.Rows L2
variable [TabC]

/-! ### statements -/
structure EndsA where
  nx : Rho → Prop
  rt : Rho → D → Prop
  bk : Rho → Prop := fun _ => False
  ct : Rho → Prop := fun _ => False
abbrev RS := EX → Rho → Prop
abbrev WS := RS → EndsA → Rho → Prop
def RaiseS (K : PySem.W.Frag) (Wx : WX) (fr : Fr) (R : RS) : Prop := ∀ ex cls d G ρ σ H, R ex ρ → ExRep K G H ex cls d → Rel K fr G ρ σ H → Wx cls d σ H
/-- a mark: no slots of any frame -/
def mkR : Rho := [.val (.dic [.non] [])]
/-- a mark: no slots of any frame, of a pair told -/
def mkP : Rho := [.val (.dic [.non, .non] [])]
def mkDR : D → Rho
  | .lst _ => mkR
  | _ => mkP
theorem mkDR_at (d : D) : ∃ x, gt (mkDR d) 0 = .val (.dic x []) := by cases d <;> exact ⟨_, rfl⟩
/-- a new list, or a new pair of new lists -/
def Fr2 (G : GS) (H0 H : Hp) (v : V) (d : D) : Prop := (∃ a es, d = .lst es ∧ v = .ref a ∧ H0 a = none) ∨
  ∃ t a b xs ys as bs, d = .tup [.lst xs, .lst ys] ∧ v = .ref t ∧ H t = some (.tup [.ref a, .ref b]) ∧ a ≠ b ∧ H0 a = none ∧ H0 b = none ∧ G a ∧ G b ∧ H a = some (.lst as) ∧ H b = some (.lst bs) ∧ bs.length = ys.length
structure EndsOk (K : PySem.W.Frag) (fr : Fr) (E : EndsA) (F : Ends) : Prop where
  nx : ∀ G ρ σ H, Rel K fr G ρ σ H → E.nx ρ → F.nx σ H
  rt : ∀ v d G ρ σ H, Rel K fr G ρ σ H → Rep K G H d v → E.rt ρ d → F.rt v H
  bk : ∀ G ρ σ H, Rel K fr G ρ σ H → E.bk ρ → F.bk σ H
  ct : ∀ G ρ σ H, Rel K fr G ρ σ H → E.ct ρ → F.ct σ H
  /-- a new list, told -/
  rf : ∀ v d G ρ σ H, Rel K fr G ρ σ H → Fr2 G fr.H0 H v d → Rep K G H d v → E.rt (mkDR d) d → F.rt v H
structure DS (X : Cx) (Wx : WX) (st : Stmt) (W : WS) : Prop where
  ex : ∃ t, PS X st t ∧ ∀ fr G ρ σ H R E F, Rel X.K fr G ρ σ H → RaiseS X.K Wx fr R → EndsOk X.K fr E F → W R E ρ → t F σ H
structure DSs (X : Cx) (Wx : WX) (st : List Stmt) (W : WS) : Prop where
  ex : ∃ t, PSs X st t ∧ ∀ fr G ρ σ H R E F, Rel X.K fr G ρ σ H → RaiseS X.K Wx fr R → EndsOk X.K fr E F → W R E ρ → t F σ H
theorem RaiseS.e {K : PySem.W.Frag} {Wx : WX} {fr : Fr} {R : RS} (h : RaiseS K Wx fr R) {ρ : Rho} {σ : L2.St} : RaiseE K Wx fr ρ σ (fun ex => R ex ρ) := fun ex cls d G H r e rl => h ex cls d G ρ σ H r e rl
def ws0 : WS := fun _ E ρ => E.nx ρ
def wsC (a b : WS) : WS := fun R E ρ => a R { E with nx := b R E } ρ
def wRet (We : WE) : WS := fun R E ρ => We (fun ex => R ex ρ) ρ (E.rt ρ)
def wRetN : WS := fun _ E ρ => E.rt ρ .non
def wDrop (We : WE) : WS := fun R E ρ => We (fun ex => R ex ρ) ρ fun _ => E.nx ρ
def wIfS (Wc : WT) (a b : WS) : WS := fun R E ρ => Wc (fun ex => R ex ρ) ρ fun k => if k = true then a R E ρ else b R E ρ
def wSet (i : Nat) (We : WE) : WS := fun R E ρ => We (fun ex => R ex ρ) ρ fun d => E.nx (ρ.set i (.val d))
def wNew (i : Nat) (We : WE) : WS := fun R E ρ => We (fun ex => R ex ρ) ρ fun d => match d with | .lst ds => E.nx (ρ.set i (.own none ds)) | _ => False
def wStt (i : Nat) (We : WE) : WS := fun R E ρ => We (fun ex => R ex ρ) ρ fun d => match d with | .lst [.int _] => E.nx (ρ.set i .stt) | _ => False
def wAsg (We : WE) (g : WG) : WS := fun R E ρ => We (fun ex => R ex ρ) ρ fun d => g d ρ E.nx
def wMove (i : Nat) (W : WS) : WS := fun R E ρ => match gt ρ i with | .own _ ds => W R E (ρ.set i (.val (.lst ds))) | _ => False
def wBrk : WS := fun _ E ρ => E.bk ρ
def wCnt : WS := fun _ E ρ => E.ct ρ
def forW (g : WG) (Wb : WS) (R : RS) (E : EndsA) : List D → Rho → Prop
  | [], ρ => E.nx ρ
  | d :: ds, ρ => g d ρ fun ρ' => Wb R { nx := forW g Wb R E ds, rt := E.rt, bk := E.nx, ct := forW g Wb R E ds } ρ'
def wFor (Wi : WI) (g : WG) (Wb : WS) : WS := fun R E ρ => Wi (fun ex => R ex ρ) ρ fun ds => forW g Wb R E ds ρ
def whileW (Wc : WT) (Wb : WS) (R : RS) (E : EndsA) : Nat → Rho → Prop
  | 0, _ => False
  | n + 1, ρ => Wc (fun ex => R ex ρ) ρ fun k => if k = true then Wb R { nx := whileW Wc Wb R E n, rt := E.rt, bk := E.nx, ct := whileW Wc Wb R E n } ρ else E.nx ρ
def wWhile (Wc : WT) (Wb : WS) : WS := fun R E ρ => ∃ n, whileW Wc Wb R E n ρ
section
variable {K : PySem.W.Frag} {fr : Fr} {G G' : GS} {ρ ρ' : Rho} {σ σ' : L2.St} {H H' : Hp}
theorem Rel.weak (r : Rel K fr G ρ σ H) (ρ' : Rho) (h : ∀ j, gt ρ' j = gt ρ j ∨ gt ρ' j = .un) (hl : ρ'.length = ρ.length) : Rel K fr G ρ' σ H where
  g0 := r.g0
  gn := r.gn
  gi := r.gi
  same := r.same
  sta := r.sta
  slot := fun j => by
    rcases h j with e | e
    · rw [e]; exact r.slot j
    · rw [e]; trivial
  apart := fun i j a hij m1 m2 e1 => by
    rcases h i with e | e
    · rcases h j with e' | e'
      · rw [e] at m1; rw [e'] at m2
        exact r.apart i j a hij m1 m2 e1
      · rw [e'] at m2; exact m2.elim
    · rw [e] at m1; exact m1.elim
  len := by rw [hl]; exact r.len
  bst := r.bst
  bg := r.bg
  prv := fun b hb => by
    obtain ⟨a1, a2, a3, a4⟩ := r.prv b hb
    refine ⟨a1, a2, a3, fun i m => ?_⟩
    rcases h i with e | e
    · rw [e] at m; exact a4 i m
    · rw [e] at m; exact m.elim
  tb := r.tb
  tbs := r.tbs
theorem gt_lt {i : Nat} (h : gt ρ i ≠ .un) : i < ρ.length := by
  by_cases hl : i < ρ.length
  · exact hl
  · exact absurd (gt_out (Nat.le_of_not_lt hl)) h
theorem Rel.setU (r : Rel K fr G ρ σ H) (i : Nat) : Rel K fr G (ρ.set i .un) σ H := r.weak _ (fun j => by
  rw [gt_set]
  by_cases h : j = i ∧ i < ρ.length
  · rw [if_pos h]; exact .inr rfl
  · rw [if_neg h]; exact .inl rfl) (by rw [List.length_set])
/-- an own list is no more changed -/
theorem Rel.move (r : Rel K fr G ρ σ H) {i : Nat} {oa : Option Addr} {ds : List D} (e : gt ρ i = .own oa ds) : ∃ G', Rel K fr G' (ρ.set i (.val (.lst ds))) σ H := by
  have s := r.slot i
  rw [e] at s
  obtain ⟨a, xs, e1, e2, rs, ng, h0, _⟩ := s
  have hlt : i < ρ.length := gt_lt (by rw [e]; intro z; cases z)
  have mi : isMut (gt ρ i) := by rw [e]; trivial
  have r1 := r.setU i
  have g1 : ∀ j, gt (ρ.set i .un) j = if j = i ∧ i < ρ.length then .un else gt ρ j := fun j => gt_set
  have r2 := r1.addG (p := a) e2 h0 (fun j m e3 => by
    rw [g1] at m
    by_cases hj : j = i ∧ i < ρ.length
    · rw [if_pos hj] at m; exact m
    · rw [if_neg hj] at m
      exact r.apart i j a (fun z => hj ⟨z.symm, hlt⟩) mi m e1 e3) (fun hp => (r.prv a hp).2.2.2 i mi e1) (fun hs => fr.hs a hs h0)
  have r3 := r2.setVal i (d := .lst ds) (v := .ref a) ⟨a, xs, rfl, .inr rfl, e2, Reps.stab .refl (fun _ h => .inl h) ds xs rs⟩
  have es : σ.set i (some (.ref a)) = σ := by
    apply List.ext_getElem?
    intro j
    by_cases hj : i = j
    · subst hj
      have := sv_some.mp e1
      rw [this, List.getElem?_set_self (by rw [r.len]; exact hlt)]
    · rw [List.getElem?_set_ne hj]
  rw [es] at r3
  rw [List.set_set] at r3
  exact ⟨_, r3⟩
/-- a point is marked -/
theorem Rel.mark (r : Rel K fr G ρ σ H) : Rel K { fr with Hb := H, Gb := G } G ρ σ H :=
  ⟨r.g0, r.gn, r.gi, r.same, r.sta, r.slot, r.apart, r.len, .refl, fun _ h => h, r.prv, r.tb, r.tbs⟩
theorem Rel.unmark (r : Rel K fr G ρ σ H) (q : Rel K { fr with Hb := H, Gb := G } G' ρ' σ' H') : Rel K fr G' ρ' σ' H' :=
  ⟨q.g0, q.gn, q.gi, q.same, q.sta, q.slot, q.apart, q.len, r.bst.trans q.bst r.bg, fun b h => q.bg b (r.bg b h), q.prv, q.tb, q.tbs⟩
end
section
variable {X : Cx} {Wx : WX} {e c tg iter : Expr} {st : Stmt} {sts a b : List Stmt} {We : WE} {Wc : WT} {W W1 W2 : WS} {Wi : WI} {g : WG} {vs : List Nat} {pos pos' : Pos} {x : Str}
theorem dss_nil : DSs X Wx [] ws0 := ⟨⟨_, pss_nil, fun fr G ρ σ H R E F r hr ok w => ok.nx G ρ σ H r w⟩⟩
theorem dss_one (h : DS X Wx st W) : DSs X Wx [st] W := let ⟨t, p, q⟩ := h.ex; ⟨⟨t, pss_one p, q⟩⟩
theorem dss_cons (h : DS X Wx st W1) (h2 : DSs X Wx sts W2) : DSs X Wx (st :: sts) (wsC W1 W2) := by
  obtain ⟨t, p, q⟩ := h.ex
  obtain ⟨t2, p2, q2⟩ := h2.ex
  refine ⟨⟨_, pss_cons p p2, fun fr G ρ σ H R E F r hr ok w => ?_⟩⟩
  exact q fr G ρ σ H R { E with nx := W2 R E } { F with nx := t2 F } r hr ⟨fun G ρ σ H r w => q2 fr G ρ σ H R E F r hr ok w, ok.rt, ok.bk, ok.ct, ok.rf⟩ w
theorem ds_pass : DS X Wx (.Pass pos) ws0 := ⟨⟨_, ps_pass, fun fr G ρ σ H R E F r hr ok w => ok.nx G ρ σ H r w⟩⟩
theorem ds_doc {j} : DS X Wx (.Expr (.Constant (.str x) j pos) pos') ws0 := ⟨⟨_, ps_doc, fun fr G ρ σ H R E F r hr ok w => ok.nx G ρ σ H r w⟩⟩
theorem ds_brk : DS X Wx (.Break pos) wBrk := ⟨⟨_, ps_break, fun fr G ρ σ H R E F r hr ok w => ok.bk G ρ σ H r w⟩⟩
theorem ds_cnt : DS X Wx (.Continue pos) wCnt := ⟨⟨_, ps_continue, fun fr G ρ σ H R E F r hr ok w => ok.ct G ρ σ H r w⟩⟩
theorem ds_ret (h : DE X Wx e We) : DS X Wx (.Return (some e) pos) (wRet We) := by
  obtain ⟨t, p, q⟩ := h.ex
  exact ⟨⟨_, ps_ret p, fun fr G ρ σ H R E F r hr ok w => q fr G ρ σ H _ _ _ r hr.e w fun v d G' H' s rp qa => ok.rt v d G' ρ σ H' s.rel rp qa⟩⟩
theorem ds_retN : DS X Wx (.Return none pos) wRetN := ⟨⟨_, ps_retN, fun fr G ρ σ H R E F r hr ok w => ok.rt .non .non G ρ σ H r rfl w⟩⟩
theorem ds_expr (h : DE X Wx e We) (hs : swapsWith e none pos.line X.env = pure false := by rfl) : DS X Wx (.Expr e pos) (wDrop We) := by
  obtain ⟨t, p, q⟩ := h.ex
  exact ⟨⟨_, ps_expr p hs, fun fr G ρ σ H R E F r hr ok w => q fr G ρ σ H _ _ _ r hr.e w fun v d G' H' s rp qa => ok.nx G' ρ σ H' s.rel qa⟩⟩
theorem ds_if (h : DT X Wx c Wc) (h1 : DSs X Wx a W1) (h2 : DSs X Wx b W2) : DS X Wx (.If c a b pos) (wIfS Wc W1 W2) := by
  obtain ⟨t, p, q⟩ := h.ex
  obtain ⟨t1, p1, q1⟩ := h1.ex
  obtain ⟨t2, p2, q2⟩ := h2.ex
  refine ⟨⟨_, ps_if p p1 p2, fun fr G ρ σ H R E F r hr ok w => ?_⟩⟩
  refine q fr G ρ σ H _ _ _ r hr.e w fun k G' H' s w1 => ?_
  cases k with
  | true => exact q1 fr G' ρ σ H' R E F s.rel hr ok w1
  | false => exact q2 fr G' ρ σ H' R E F s.rel hr ok w1
theorem ds_move (i : Nat) (h : DS X Wx st W) : DS X Wx st (wMove i W) := by
  obtain ⟨t, p, q⟩ := h.ex
  refine ⟨⟨_, p, fun fr G ρ σ H R E F r hr ok w => ?_⟩⟩
  unfold wMove at w
  cases e : gt ρ i with
  | own oa ds =>
    rw [e] at w
    obtain ⟨G', r'⟩ := r.move e
    exact q fr G' _ σ H R E F r' hr ok w
  | un => rw [e] at w; exact w.elim
  | exc _ _ _ => rw [e] at w; exact w.elim
  | dow _ _ => rw [e] at w; exact w.elim
  | clo _ _ _ _ _ => rw [e] at w; exact w.elim
  | val _ => rw [e] at w; exact w.elim
  | slf _ _ _ _ => rw [e] at w; exact w.elim
  | stt => rw [e] at w; exact w.elim
theorem ds_set (i : Nat) (hN : X.N.Nodup) (h : DE X Wx e We) (hi : X.N[i]? = some x := by rfl) (hx : Loc X.env.scope x := by first | exact .inl rfl | exact .inr rfl) (hs : swapsWith e (some (.Name x pos')) pos.line X.env = pure false := by rfl)
    (hf : X.fn x = true ∨ X.env.scope.names.lookup x = some .local := by first | exact .inl rfl | exact .inr rfl) : DS X Wx (.Assign [.Name x pos'] e pos) (wSet i We) := by
  obtain ⟨t, p, q⟩ := h.ex
  exact ⟨⟨_, ps_set hN hi hx p hs hf, fun fr G ρ σ H R E F r hr ok w => q fr G ρ σ H _ _ _ r hr.e w fun v d G' H' s rp qa => ok.nx G' _ _ H' (s.rel.setVal i rp) qa⟩⟩
/-- a new list to a slot -/
theorem Step.own {K : PySem.W.Frag} {fr : Fr} {G G' : GS} {ρ : Rho} {σ : L2.St} {H H' : Hp} {p : Addr} {xs : List V} {ds : List D} {s : Slot} (i : Nat) (r : Rel K fr G ρ σ H) (st : Step K fr G ρ σ H G' H') (n : H p = none) (e : H' p = some (.lst xs)) (ng : ¬ G' p)
    (hs : SlotOk K fr G' H' s (some (.ref p))) : Rel K fr G' (ρ.set i s) (σ.set i (some (.ref p))) H' := by
  refine st.rel.set i hs fun _ a ea => ?_
  cases ea
  refine ⟨fun j _ m ej => r.not_mut n j m ej, fun hp => ?_⟩
  obtain ⟨_, ⟨o, q⟩, _⟩ := r.prv p hp
  rw [n] at q; cases q
theorem own_go {i : Nat} {t : TE}
    (q : ∀ fr G ρ σ H R Qa Q, Rel X.K fr G ρ σ H → RaiseE X.K Wx fr ρ σ R → We R ρ Qa → (∀ p xs ds G' H', Step X.K fr G ρ σ H G' H' → H p = none → H' p = some (.lst xs) → ¬ G' p → Reps X.K G' H' ds xs → Qa (.lst ds) → Q (.ref p) H') → t σ H Q) :
    ∀ fr G ρ σ H R E F, Rel X.K fr G ρ σ H → RaiseS X.K Wx fr R → EndsOk X.K fr E F → wNew i We R E ρ → tAsg t (gName i) F σ H := fun fr G ρ σ H R E F r hr ok w =>
  q fr G ρ σ H _ _ _ r hr.e w fun p xs ds G' H' s np e ng rs qa => ok.nx G' _ _ H' (s.own (s := .own none ds) (ds := ds) i r np e ng ⟨p, xs, rfl, e, rs, ng, r.h0 np, fun _ z => by cases z⟩) qa
theorem ds_new (i : Nat) (hN : X.N.Nodup) (h : DN X Wx e We) (hi : X.N[i]? = some x := by rfl) (hx : Loc X.env.scope x := by first | exact .inl rfl | exact .inr rfl) (hs : swapsWith e (some (.Name x pos')) pos.line X.env = pure false := by rfl)
    (hf : X.fn x = true ∨ X.env.scope.names.lookup x = some .local := by first | exact .inl rfl | exact .inr rfl) : DS X Wx (.Assign [.Name x pos'] e pos) (wNew i We) := by
  obtain ⟨t, p, q⟩ := h.ex
  exact ⟨⟨_, ps_set hN hi hx p hs hf, own_go q⟩⟩
theorem ds_stt (i : Nat) (hN : X.N.Nodup) (h : DN X Wx e We) (hi : X.N[i]? = some x := by rfl) (hx : Loc X.env.scope x := by first | exact .inl rfl | exact .inr rfl) (hs : swapsWith e (some (.Name x pos')) pos.line X.env = pure false := by rfl)
    (hf : X.fn x = true ∨ X.env.scope.names.lookup x = some .local := by first | exact .inl rfl | exact .inr rfl) : DS X Wx (.Assign [.Name x pos'] e pos) (wStt i We) := by
  obtain ⟨t, p, q⟩ := h.ex
  refine ⟨⟨_, ps_set hN hi hx p hs hf, fun fr G ρ σ H R E F r hr ok w => ?_⟩⟩
  refine q fr G ρ σ H _ _ _ r hr.e w fun p xs ds G' H' s np e ng rs qa => ?_
  split at qa
  · rename_i ds' n z
    cases z
    obtain ⟨v, vs, rfl, e1, e2⟩ := rs
    cases e1; cases e2
    exact ok.nx G' _ _ H' (s.own (s := .stt) (ds := []) i r np e ng ⟨p, _, rfl, e, .inl ⟨n, rfl⟩, ng, .inr (r.h0 np)⟩) qa
  · exact qa.elim
theorem ds_asg (h : DE X Wx e We) (hg : DG X tg vs g) (hs : swapsWithSole [tg] e pos.line X.env = pure false := by rfl) (hw : swappedStores [tg] e X.env = pure none := by rfl)
    (h1 : (assignEach [tg] X.env).map (·.2) = [assign tg X.env] := by rfl) : DS X Wx (.Assign [tg] e pos) (wAsg We g) := by
  obtain ⟨t, p, q⟩ := h.ex
  obtain ⟨t2, p2, q2⟩ := hg.ex
  exact ⟨⟨_, ps_asg p p2 hs hw h1, fun fr G ρ σ H R E F r hr ok w => q fr G ρ σ H _ _ _ r hr.e w fun v d G' H' s rp qa => q2 fr G' ρ σ H' v d E.nx F.nx s.rel rp qa fun ρ' σ' r' _ w' => ok.nx G' ρ' σ' H' r' w'⟩⟩
theorem ds_for (hp : PassesOwn (model X.prog X.w) X.A X.env X.xe) (hc : X.calm = true) (hi : DI X Wx tg iter Wi) (hg : DG X tg vs g) (hb : DSs X Wx a W) (hs : ∀ x, foldedSetIterable iter X.env x = pure x := by intro _; rfl) : DS X Wx (.For tg iter a [] pos) (wFor Wi g W) := by
  obtain ⟨wi, pi, qi⟩ := hi.ex
  obtain ⟨t, p, q⟩ := hg.ex
  obtain ⟨tb, pb, qb⟩ := hb.ex
  refine ⟨⟨_, ps_for hp hc pi p pb hs, fun fr G ρ σ H R E F r hr ok w => ?_⟩⟩
  refine qi fr G ρ σ H _ _ _ r hr.e w fun J cs us ds G1 H1 s1 rc iok w1 => ?_
  generalize hfr : ({ fr with Hb := H1, Gb := G1 } : Fr) = fr2
  have un : ∀ {G' ρ' σ' H'}, Rel X.K fr2 G' ρ' σ' H' → Rel X.K fr G' ρ' σ' H' := fun {G' ρ' σ' H'} h => s1.rel.unmark (by rw [hfr]; exact h)
  have hr2 : RaiseS X.K Wx fr2 R := fun ex cls d G ρ σ H h1 h2 h3 => hr ex cls d G ρ σ H h1 h2 (un h3)
  have rep : ∀ {G' ρ' σ' H'}, Rel X.K fr2 G' ρ' σ' H' → RepLs X.K G' ρ' σ' H' cs us := fun {G' ρ' σ' H'} h => by
    have hb := h.bst
    have hg := h.bg
    rw [← hfr] at hb hg
    exact reps_repLs (Reps.stab hb hg _ _ rc)
  refine ⟨fun i m σ' H' => m = ds.length - i ∧ i ≤ ds.length ∧ ∃ G' ρ', Rel X.K fr2 G' ρ' σ' H' ∧ forW g W R E (ds.drop i) ρ', ⟨ds.length, by simp, Nat.zero_le _, G1, ρ, by rw [← hfr]; exact s1.rel.mark, w1⟩, ?_⟩
  rintro i m σ' H' ⟨rfl, hi, G', ρ', r', wf⟩
  by_cases hlt : i < ds.length
  · refine .inr ⟨iok.go fr2 G' ρ' σ' H' i r' (rep r') hlt, fun σ'' H'' => i + 1 ≤ ds.length ∧ ∃ G' ρ', Rel X.K fr2 G' ρ' σ'' H'' ∧ forW g W R E (ds.drop (i + 1)) ρ', fun σ'' H'' z => ⟨ds.length - (i + 1), by omega, rfl, z⟩, fun v H3 y => ?_⟩
    obtain ⟨G3, s3, hx⟩ := iok.yld fr2 G' ρ' σ' H' i v H3 r' (rep r') hlt y
    have rx := hx _ (List.getElem?_eq_getElem hlt)
    rw [List.drop_eq_getElem_cons hlt] at wf
    refine q fr2 G3 ρ' σ' H3 v ds[i] _ _ s3.rel rx wf fun ρ4 σ4 r4 _ w4 => ?_
    refine qb fr2 G3 ρ4 σ4 H3 R { nx := forW g W R E (ds.drop (i + 1)), rt := E.rt, bk := E.nx, ct := forW g W R E (ds.drop (i + 1)) } _ r4 hr2 ⟨fun G ρ σ H r w => ⟨hlt, G, ρ, r, w⟩, fun v d G ρ σ H r => ok.rt v d G ρ σ H (un r), fun G ρ σ H r => ok.nx G ρ σ H (un r), fun G ρ σ H r w => ⟨hlt, G, ρ, r, w⟩, fun v es G ρ σ H r h0 => ok.rf v es G ρ σ H (un r) (by rw [← hfr] at h0; exact h0)⟩ w4
  · have e : i = ds.length := by omega
    subst e
    rw [List.drop_length] at wf
    exact .inl ⟨iok.stop fr2 G' ρ' σ' H' _ r' (rep r') rfl, ok.nx G' ρ' σ' H' (un r') wf⟩
theorem ds_while (hp : PassesOwn (model X.prog X.w) X.A X.env X.xe) (h : DT X Wx c Wc) (hb : DSs X Wx a W) : DS X Wx (.While c a [] pos) (wWhile Wc W) := by
  obtain ⟨t, p, q⟩ := h.ex
  obtain ⟨tb, pb, qb⟩ := hb.ex
  refine ⟨⟨_, ps_while hp p pb, fun fr G ρ σ H R E F r hr ok w => ?_⟩⟩
  obtain ⟨n, w⟩ := w
  refine ⟨fun m σ H => ∃ G ρ, Rel X.K fr G ρ σ H ∧ whileW Wc W R E m ρ, ⟨n, G, ρ, r, w⟩, ?_⟩
  rintro m σ' H' ⟨G', ρ', r', w'⟩
  cases m with
  | zero => exact w'.elim
  | succ m =>
    refine q fr G' ρ' σ' H' _ _ _ r' hr.e w' fun k G2 H2 s2 w2 => ?_
    cases k with
    | false => exact ok.nx G2 ρ' σ' H2 s2.rel w2
    | true =>
      refine ⟨fun σ H => ∃ G ρ, Rel X.K fr G ρ σ H ∧ whileW Wc W R E m ρ, fun σ'' H'' z => ⟨m, Nat.lt_succ_self m, z⟩, ?_⟩
      exact qb fr G2 ρ' σ' H2 R { nx := whileW Wc W R E m, rt := E.rt, bk := E.nx, ct := whileW Wc W R E m } _ s2.rel hr ⟨fun G ρ σ H r w => ⟨G, ρ, r, w⟩, ok.rt, ok.nx, fun G ρ σ H r w => ⟨G, ρ, r, w⟩, ok.rf⟩ w2
end
end AV

set_option maxRecDepth 100000
set_option maxHeartbeats 400000
namespace AV
open PySem PySem.Spec PyProof.Rows L2
variable [TabC]

/-! ### built-in functions -/
abbrev BS := List D → (D → Prop) → Prop
def CalA (X : Cx) (r : List V → Hp → VK → Prop) (φ : BS) : Prop :=
  ∀ fr G ρ σ H vs ds Qa Q, Rel X.K fr G ρ σ H → RepLs X.K G ρ σ H ds vs → φ ds Qa → (∀ v d G' H', Step X.K fr G ρ σ H G' H' → Rep X.K G' H' d v → Qa d → Q v H') → r vs H Q
/-- .. a new list -/
def CalN (X : Cx) (r : List V → Hp → VK → Prop) (φ : BS) : Prop :=
  ∀ fr G ρ σ H vs ds Qa Q, Rel X.K fr G ρ σ H → RepLs X.K G ρ σ H ds vs → φ ds Qa → (∀ p xs ds' G' H', Step X.K fr G ρ σ H G' H' → H p = none → H' p = some (.lst xs) → ¬ G' p → Reps X.K G' H' ds' xs → Qa (.lst ds') → Q (.ref p) H') → r vs H Q
def wB (φ : BS) (Wa : WA) : WE := fun R ρ Q => Wa R ρ fun ds => φ ds Q
section
variable {X : Cx} {Wx : WX} {x : Str} {p pos : Pos} {e : Expr} {es : List Expr} {id T : String} {r : List V → Hp → VK → Prop} {φ : BS} {Wa : WA}
theorem de_callB (hop : CalA X r φ) (hc : CallR X (.builtin id) r) (hg : Gl X x) (hm : X.mg x = none) (ha : DAL X Wx (e :: es) Wa) (hv : bootBuiltins x = some (.builtin id) := by rfl) (hn : x ≠ "__name__" := by decide) (hdb : (x == ("__debug__" : Str)) = false := by decide)
    (he : starEach (e :: es) X.env = (false, eval e X.env) :: starEach es X.env := by rfl) (hpl : (backTo pos (starEach es X.env)).any (·.1) = false := by rfl) : DE X Wx (.Call (.Name x p) (e :: es) [] pos) (wB φ Wa) := by
  obtain ⟨t, pa, q⟩ := ha.ex
  refine ⟨⟨_, pe_callB hc hg hm hv pa hn hdb he hpl, fun fr G ρ σ H R Qa Q rl hr w k => ?_⟩⟩
  exact q fr G ρ σ H R _ _ rl hr w fun vs ds G1 H1 s1 r1 w1 => hop fr G1 ρ σ H1 vs ds Qa Q s1.rel r1 w1 fun v d G2 H2 s2 rv qd => k v d G2 H2 (s1.trans s2) rv qd
theorem de_callT (hop : CalA X r φ) (hc : CallR X (.type T) r) (hg : Gl X x) (hm : X.mg x = none) (ha : DAL X Wx (e :: es) Wa) (hv : bootBuiltins x = some (.type T) := by rfl) (hn : x ≠ "__name__" := by decide) (hdb : (x == ("__debug__" : Str)) = false := by decide)
    (he : starEach (e :: es) X.env = (false, eval e X.env) :: starEach es X.env := by rfl) (hpl : (backTo pos (starEach es X.env)).any (·.1) = false := by rfl) : DE X Wx (.Call (.Name x p) (e :: es) [] pos) (wB φ Wa) := by
  obtain ⟨t, pa, q⟩ := ha.ex
  refine ⟨⟨_, pe_callTy hc hg hm hv pa hn hdb he hpl, fun fr G ρ σ H R Qa Q rl hr w k => ?_⟩⟩
  exact q fr G ρ σ H R _ _ rl hr w fun vs ds G1 H1 s1 r1 w1 => hop fr G1 ρ σ H1 vs ds Qa Q s1.rel r1 w1 fun v d G2 H2 s2 rv qd => k v d G2 H2 (s1.trans s2) rv qd
theorem dn_callB (hop : CalN X r φ) (hc : CallR X (.builtin id) r) (hg : Gl X x) (hm : X.mg x = none) (ha : DAL X Wx (e :: es) Wa) (hv : bootBuiltins x = some (.builtin id) := by rfl) (hn : x ≠ "__name__" := by decide) (hdb : (x == ("__debug__" : Str)) = false := by decide)
    (he : starEach (e :: es) X.env = (false, eval e X.env) :: starEach es X.env := by rfl) (hpl : (backTo pos (starEach es X.env)).any (·.1) = false := by rfl) : DN X Wx (.Call (.Name x p) (e :: es) [] pos) (wB φ Wa) := by
  obtain ⟨t, pa, q⟩ := ha.ex
  refine ⟨⟨_, pe_callB hc hg hm hv pa hn hdb he hpl, fun fr G ρ σ H R Qa Q rl hr w k => ?_⟩⟩
  exact q fr G ρ σ H R _ _ rl hr w fun vs ds G1 H1 s1 r1 w1 => hop fr G1 ρ σ H1 vs ds Qa Q s1.rel r1 w1 fun p xs ds' G2 H2 s2 np e ng rv qd => k p xs ds' G2 H2 (s1.trans s2) (s1.up p np) e ng rv qd
theorem dn_callT (hop : CalN X r φ) (hc : CallR X (.type T) r) (hg : Gl X x) (hm : X.mg x = none) (ha : DAL X Wx (e :: es) Wa) (hv : bootBuiltins x = some (.type T) := by rfl) (hn : x ≠ "__name__" := by decide) (hdb : (x == ("__debug__" : Str)) = false := by decide)
    (he : starEach (e :: es) X.env = (false, eval e X.env) :: starEach es X.env := by rfl) (hpl : (backTo pos (starEach es X.env)).any (·.1) = false := by rfl) : DN X Wx (.Call (.Name x p) (e :: es) [] pos) (wB φ Wa) := by
  obtain ⟨t, pa, q⟩ := ha.ex
  refine ⟨⟨_, pe_callTy hc hg hm hv pa hn hdb he hpl, fun fr G ρ σ H R Qa Q rl hr w k => ?_⟩⟩
  exact q fr G ρ σ H R _ _ rl hr w fun vs ds G1 H1 s1 r1 w1 => hop fr G1 ρ σ H1 vs ds Qa Q s1.rel r1 w1 fun p xs ds' G2 H2 s2 np e ng rv qd => k p xs ds' G2 H2 (s1.trans s2) (s1.up p np) e ng rv qd
end
def bLen : BS := fun ds Q => match ds with | [d] => ∃ es, seqOf d = some es ∧ Q (.int es.length) | _ => False
def bMax : BS := fun ds Q => match ds with | [.int i, .int j] => Q (.int (max i j)) | _ => False
def bMin : BS := fun ds Q => match ds with | [.int i, .int j] => Q (.int (min i j)) | _ => False
def bMaxL : BS := fun ds Q => match ds with | [d] => ∃ ns : List Int, isLst d = true ∧ seqOf d = some (ns.map D.int) ∧ 0 < ns.length ∧ ∀ m, m ∈ ns → (∀ y ∈ ns, y ≤ m) → Q (.int m) | _ => False
def bMinL : BS := fun ds Q => match ds with | [d] => ∃ ns : List Int, isLst d = true ∧ seqOf d = some (ns.map D.int) ∧ 0 < ns.length ∧ ∀ m, m ∈ ns → (∀ y ∈ ns, m ≤ y) → Q (.int m) | _ => False
def bSum : BS := fun ds Q => match ds with | [d] => ∃ ns : List Int, isLst d = true ∧ seqOf d = some (ns.map D.int) ∧ Q (.int ns.sum) | _ => False
def bAny : BS := fun ds Q => match ds with | [d] => ∃ bs : List Bool, isLst d = true ∧ seqOf d = some (bs.map D.bl) ∧ Q (.bl (bs.any id)) | _ => False
def bAll : BS := fun ds Q => match ds with | [d] => ∃ bs : List Bool, isLst d = true ∧ seqOf d = some (bs.map D.bl) ∧ Q (.bl (bs.all id)) | _ => False
def bInt : BS := fun ds Q => match ds with | [.int i] => Q (.int i) | [.bl k] => Q (.int (if k then 1 else 0)) | _ => False
def bAbs : BS := fun ds Q => match ds with | [.int i] => Q (.int (if i < 0 then -i else i)) | _ => False
def bTup : BS := fun ds Q => match ds with | [d] => ∃ es, seqOf d = some es ∧ Q (.tup es) | _ => False
def bLst : BS := fun ds Q => match ds with | [d] => ∃ es, seqOf d = some es ∧ Q (.lst es) | _ => False
def bSorted : BS := fun ds Q => match ds with | [d] => ∃ ns : List Int, isLst d = true ∧ seqOf d = some (ns.map D.int) ∧ ns.length < 64 ∧ ∀ ns' : List Int, ns'.Perm ns → ns'.Pairwise (· ≤ ·) → Q (.lst (ns'.map D.int)) | _ => False
theorem Reps.bools {K : PySem.W.Frag} {G : GS} {H : Hp} {ns : List Bool} : ∀ {xs : List V}, Reps K G H (ns.map D.bl) xs → xs = ns.map V.bl := by
  induction ns with
  | nil => intro xs h; exact h
  | cons n ns ih =>
    intro xs h
    obtain ⟨v, vs, rfl, r, rs⟩ := h
    have r : v = .bl n := r
    rw [r, ih rs]; rfl
section
variable {X : Cx} {K : PySem.W.Frag} {fr : Fr} {G : GS} {ρ : Rho} {σ : L2.St} {H : Hp}
theorem RepLs.one {d : D} {vs : List V} (h : RepLs K G ρ σ H [d] vs) : ∃ v, vs = [v] ∧ RepL K G ρ σ H d v := by
  obtain ⟨v, r, rfl, h1, h2⟩ := h
  cases h2
  exact ⟨v, rfl, h1⟩
theorem RepLs.two {d e : D} {vs : List V} (h : RepLs K G ρ σ H [d, e] vs) : ∃ v u, vs = [v, u] ∧ RepL K G ρ σ H d v ∧ RepL K G ρ σ H e u := by
  obtain ⟨v, r, rfl, h1, u, r', rfl, h2, h3⟩ := h
  cases h3
  exact ⟨v, u, rfl, h1, h2⟩
theorem RepL.seqL (r : Rel K fr G ρ σ H) {ds : List D} {v : V} {d : D} (h : RepL K G ρ σ H d v) (hl : isLst d = true) (e : seqOf d = some ds) : ∃ a xs, v = .ref a ∧ SqL K H a xs ∧ Reps K G H ds xs := by
  obtain ⟨a, xs, e1, q, rs⟩ := h.seqK r e
  rcases q with ⟨_, q⟩ | ⟨z, _⟩
  · exact ⟨a, xs, e1, q, rs⟩
  · rw [hl] at z; cases z
theorem ca_len : CalA X (fun xs H Q => ∃ p ys, xs = [.ref p] ∧ (SqL X.K H p ys ∨ SqT X.K H p ys) ∧ Q (.int ys.length) H) bLen := fun fr G ρ σ H vs ds Qa Q rl rs w k => by
  unfold bLen at w
  split at w
  · obtain ⟨es, e, q⟩ := w
    obtain ⟨v, rfl, r1⟩ := rs.one
    obtain ⟨a, xs, rfl, sq, rs⟩ := r1.seq rl e
    exact ⟨a, xs, rfl, sq, by rw [rs.length]; exact k _ (.int es.length) G H (.refl rl) rfl q⟩
  · exact w.elim
theorem ca_max2 : CalA X (fun xs H Q => ∃ i j, xs = [.int i, .int j] ∧ Q (.int (if j > i then j else i)) H) bMax := fun fr G ρ σ H vs ds Qa Q rl rs w k => by
  unfold bMax at w
  split at w
  · rename_i i j
    obtain ⟨v, u, rfl, r1, r2⟩ := rs.two
    refine ⟨i, j, by rw [r1.int, r2.int], ?_⟩
    rw [show (if j > i then j else i) = max i j by rw [Int.max_def]; split <;> split <;> omega]
    exact k _ (.int (max i j)) G H (.refl rl) rfl w
  · exact w.elim
theorem ca_min2 : CalA X (fun xs H Q => ∃ i j, xs = [.int i, .int j] ∧ Q (.int (if j < i then j else i)) H) bMin := fun fr G ρ σ H vs ds Qa Q rl rs w k => by
  unfold bMin at w
  split at w
  · rename_i i j
    obtain ⟨v, u, rfl, r1, r2⟩ := rs.two
    refine ⟨i, j, by rw [r1.int, r2.int], ?_⟩
    rw [show (if j < i then j else i) = min i j by rw [Int.min_def]; split <;> split <;> omega]
    exact k _ (.int (min i j)) G H (.refl rl) rfl w
  · exact w.elim
theorem ca_maxL : CalA X (rMax X.K) bMaxL := fun fr G ρ σ H vs ds Qa Q rl rs w k => by
  unfold bMaxL at w
  split at w
  · obtain ⟨ns, hl, e, hn, q⟩ := w
    obtain ⟨v, rfl, r1⟩ := rs.one
    obtain ⟨a, xs, rfl, sq, rs⟩ := r1.seqL rl hl e
    have := rs.ints
    subst this
    exact ⟨a, ns, rfl, sq, hn, fun m h1 h2 => k _ (.int m) G H (.refl rl) rfl (q m h1 h2)⟩
  · exact w.elim
theorem ca_minL : CalA X (rMin X.K) bMinL := fun fr G ρ σ H vs ds Qa Q rl rs w k => by
  unfold bMinL at w
  split at w
  · obtain ⟨ns, hl, e, hn, q⟩ := w
    obtain ⟨v, rfl, r1⟩ := rs.one
    obtain ⟨a, xs, rfl, sq, rs⟩ := r1.seqL rl hl e
    have := rs.ints
    subst this
    exact ⟨a, ns, rfl, sq, hn, fun m h1 h2 => k _ (.int m) G H (.refl rl) rfl (q m h1 h2)⟩
  · exact w.elim
theorem ca_sum : CalA X (rSum X.K) bSum := fun fr G ρ σ H vs ds Qa Q rl rs w k => by
  unfold bSum at w
  split at w
  · obtain ⟨ns, hl, e, q⟩ := w
    obtain ⟨v, rfl, r1⟩ := rs.one
    obtain ⟨a, xs, rfl, sq, rs⟩ := r1.seqL rl hl e
    have := rs.ints
    subst this
    exact ⟨a, ns, rfl, sq, k _ (.int _) G H (.refl rl) rfl q⟩
  · exact w.elim
theorem ca_any : CalA X (rAny X.K) bAny := fun fr G ρ σ H vs ds Qa Q rl rs w k => by
  unfold bAny at w
  split at w
  · obtain ⟨ns, hl, e, q⟩ := w
    obtain ⟨v, rfl, r1⟩ := rs.one
    obtain ⟨a, xs, rfl, sq, rs⟩ := r1.seqL rl hl e
    have := rs.bools
    subst this
    exact ⟨a, ns, rfl, sq, k _ (.bl _) G H (.refl rl) rfl q⟩
  · exact w.elim
theorem ca_all : CalA X (rAll X.K) bAll := fun fr G ρ σ H vs ds Qa Q rl rs w k => by
  unfold bAll at w
  split at w
  · obtain ⟨ns, hl, e, q⟩ := w
    obtain ⟨v, rfl, r1⟩ := rs.one
    obtain ⟨a, xs, rfl, sq, rs⟩ := r1.seqL rl hl e
    have := rs.bools
    subst this
    exact ⟨a, ns, rfl, sq, k _ (.bl _) G H (.refl rl) rfl q⟩
  · exact w.elim
theorem ca_int : CalA X (fun xs H Q => (∃ i, xs = [.int i] ∧ Q (.int i) H) ∨ ∃ k, xs = [.bl k] ∧ Q (.int (if k then 1 else 0)) H) bInt := fun fr G ρ σ H vs ds Qa Q rl rs w k => by
  unfold bInt at w
  split at w
  · obtain ⟨v, rfl, r1⟩ := rs.one
    exact .inl ⟨_, by rw [r1.int], k _ (.int _) G H (.refl rl) rfl w⟩
  · obtain ⟨v, rfl, r1⟩ := rs.one
    exact .inr ⟨_, by rw [r1.bl], k _ (.int _) G H (.refl rl) rfl w⟩
  · exact w.elim
theorem ca_abs : CalA X (fun xs H Q => ∃ i, xs = [.int i] ∧ Q (.int (if i < 0 then -i else i)) H) bAbs := fun fr G ρ σ H vs ds Qa Q rl rs w k => by
  unfold bAbs at w
  split at w
  · obtain ⟨v, rfl, r1⟩ := rs.one
    exact ⟨_, by rw [r1.int], k _ (.int _) G H (.refl rl) rfl w⟩
  · exact w.elim
theorem ca_tup : CalA X (fun xs H Q => ∃ p ys, xs = [.ref p] ∧ ((SqL X.K H p ys ∧ ∀ l, H l = none → Q (.ref l) (upd H l (.tup ys))) ∨ (SqT X.K H p ys ∧ Q (.ref p) H))) bTup := fun fr G ρ σ H vs ds Qa Q rl rs w k => by
  unfold bTup at w
  split at w
  · obtain ⟨es, e, q⟩ := w
    obtain ⟨v, rfl, r1⟩ := rs.one
    obtain ⟨a, xs, rfl, sq, rs⟩ := r1.seqK rl e
    refine ⟨a, xs, rfl, ?_⟩
    rcases sq with ⟨_, sq⟩ | ⟨_, sq⟩
    · refine .inl ⟨sq, fun l nl => ?_⟩
      have s2 := Step.new (o := .tup xs) rl nl
      exact k _ (.tup es) _ _ s2 ⟨l, xs, rfl, .of upd_same, s2.reps rs⟩ q
    · exact .inr ⟨sq, k _ (.tup es) G H (.refl rl) ⟨a, xs, rfl, sq, rs⟩ q⟩
  · exact w.elim
theorem cn_lst : CalN X (fun xs H Q => ∃ p ys, xs = [.ref p] ∧ (SqL X.K H p ys ∨ SqT X.K H p ys) ∧ ∀ l, H l = none → Q (.ref l) (upd H l (.lst ys))) bLst := fun fr G ρ σ H vs ds Qa Q rl rs w k => by
  unfold bLst at w
  split at w
  · obtain ⟨es, e, q⟩ := w
    obtain ⟨v, rfl, r1⟩ := rs.one
    obtain ⟨a, xs, rfl, sq, rs⟩ := r1.seq rl e
    refine ⟨a, xs, rfl, sq, fun l nl => ?_⟩
    have s2 := Step.new (o := .lst xs) rl nl
    exact k l xs es _ _ s2 nl upd_same (fun g => by
      obtain ⟨o, z⟩ := rl.gi l g
      rw [nl] at z; cases z) (s2.reps rs) q
  · exact w.elim
theorem cn_sorted : CalN X (rSorted X.K) bSorted := fun fr G ρ σ H vs ds Qa Q rl rs w k => by
  unfold bSorted at w
  split at w
  · obtain ⟨ns, hl, e, h64, q⟩ := w
    obtain ⟨v, rfl, r1⟩ := rs.one
    obtain ⟨a, xs, rfl, sq, rs⟩ := r1.seqL rl hl e
    have := rs.ints
    subst this
    refine ⟨a, ns, rfl, sq, h64, fun ns' l hp hw nl => ?_⟩
    have s2 := Step.new (o := .lst (ns'.map V.int)) rl nl
    exact k l _ (ns'.map D.int) _ _ s2 nl upd_same (fun g => by
      obtain ⟨o, z⟩ := rl.gi l g
      rw [nl] at z; cases z) Reps.of_ints (q ns' hp hw)
  · exact w.elim
end
/-! ### isinstance with a built-in type -/
def tyD : D → Option String
  | .non => some "NoneType"
  | .bl _ => some "bool"
  | .int _ => some "int"
  | .str _ => some "str"
  | .tup _ => some "tuple"
  | .lst _ => some "list"
  | .edic => some "dict"
  | .dic _ _ => none
  | .scr _ => some "list"
  | .ins _ _ _ => none
/-- the types that the laws ask for -/
inductive PT where
  | int | bool | str | tuple | list | dict
def PT.nm : PT → String
  | .int => "int"
  | .bool => "bool"
  | .str => "str"
  | .tuple => "tuple"
  | .list => "list"
  | .dict => "dict"
def isB : PT → D → Bool
  | .int, .int _ => true
  | .int, .bl _ => true
  | .bool, .bl _ => true
  | .str, .str _ => true
  | .tuple, .tup _ => true
  | .list, .lst _ => true
  | .list, .scr _ => true
  | .dict, .edic => true
  | _, _ => false
def noIns : D → Bool
  | .ins _ _ _ => false
  | .dic _ _ => false
  | _ => true
theorem kit_isT : ∀ T : PT, kitB "NoneType" T.nm = some (isB T .non) ∧ kitB "bool" T.nm = some (isB T (.bl true)) ∧ kitB "int" T.nm = some (isB T (.int 0)) ∧ kitB "str" T.nm = some (isB T (.str "")) ∧ kitB "tuple" T.nm = some (isB T (.tup [])) ∧ kitB "list" T.nm = some (isB T (.lst [])) ∧ kitB "dict" T.nm = some (isB T .edic) := fun T => by
  cases T <;> exact ⟨by decide +kernel, by decide +kernel, by decide +kernel, by decide +kernel, by decide +kernel, by decide +kernel, by decide +kernel⟩
theorem isB_of {d : D} {a : String} {T : PT} (h : tyD d = some a) : kitB a T.nm = some (isB T d) := by
  obtain ⟨h1, h2, h3, h4, h5, h6, h7⟩ := kit_isT T
  cases d <;> simp only [tyD] at h <;> cases h <;> cases T <;> assumption
theorem tyD_of {d : D} (h : noIns d = true) : ∃ a, tyD d = some a := by
  cases d <;> first | exact ⟨_, rfl⟩ | cases h
def isTD (T : PT) (d : D) (Q : D → Prop) : Prop := noIns d = true ∧ Q (.bl (isB T d))
def wIsi (T : PT) (We : WE) : WE := fun R ρ Q => We R ρ fun d => isTD T d Q
section
variable {X : Cx} {Wx : WX} {p p2 pos : Pos} {e : Expr} {We : WE} {y : Str} {T : PT}
theorem tyX_of {K : PySem.W.Frag} {fr : Fr} {G : GS} {ρ : Rho} {σ : L2.St} {H : Hp} (r : Rel K fr G ρ σ H) {d : D} {v : V} {a : String} (h : RepL K G ρ σ H d v) (e : tyD d = some a) : TyX K H v (.type a) := by
  cases d with
  | non => cases e; rw [h.non]; exact .base .non
  | bl b => cases e; rw [h.bl]; exact .base (.bl b)
  | int i => cases e; rw [h.int]; exact .base (.int i)
  | str i => cases e; rw [h.str]; exact .base (.str i)
  | tup ds =>
    cases e
    obtain ⟨p, xs, rfl, q, _⟩ := h.tup
    rcases q with (q | ⟨o, q⟩) | ⟨o, _, _, q, c, _⟩
    · exact .base (.tup q)
    · exact .fTuple q
    · exact .kTuple q c
  | lst ds =>
    cases e
    obtain ⟨p, xs, rfl, q, _⟩ := h.lst r
    exact .base (.lst q)
  | dic _ _ => cases e
  | edic =>
    cases e
    rcases h with h | ⟨_, _, _, _, z, _⟩
    · obtain ⟨p, rfl, g, q⟩ := h
      exact .base (.dK q)
    · cases z
  | scr ns =>
    cases e
    rcases h with h | ⟨_, _, _, _, z, _⟩
    · obtain ⟨p, rfl, q⟩ := h
      rcases q.sq with (q | ⟨o, q⟩) | ⟨o, _, _, q, c, _⟩
      · exact .base (.lst q)
      · exact .base (.frz q)
      · exact .kList q c
    · cases z
  | ins _ _ _ => cases e
theorem de_isi (hg : Gl X "isinstance") (hm : X.mg "isinstance" = none) (hg2 : Gl X y) (hm2 : X.mg y = none) (he : DL X Wx e We) (hv : bootBuiltins y = some (.type T.nm) := by rfl) (hn : y ≠ "__name__" := by decide) (hdb : (y == ("__debug__" : Str)) = false := by decide)
    (hs : starEach [e, .Name y p2] X.env = (false, eval e X.env) :: starEach [.Name y p2] X.env := by rfl) (hs2 : starEach [.Name y p2] X.env = (false, eval (.Name y p2) X.env) :: starEach [] X.env := by rfl) (hpl : (backTo pos (starEach [.Name y p2] X.env)).any (·.1) = false := by rfl) :
    DE X Wx (.Call (.Name "isinstance" p) [e, .Name y p2] [] pos) (wIsi T We) := by
  obtain ⟨t, pe, q⟩ := he.ex
  refine ⟨⟨_, pe_callB call_isi hg hm (by rfl) (pa_cons pe (pa_cons (pe_bltn (v := .ty T.nm) (u := .type T.nm) hg2 hm2 hv rfl hn hdb) pa_nil hs2) hs) (by decide) (by decide) hs hpl, fun fr G ρ σ H R Qa Q rl hr w k => ?_⟩⟩
  refine q fr G ρ σ H R _ _ rl hr w fun v d G1 H1 s1 r1 w1 => ?_
  obtain ⟨hn, w1⟩ := w1
  obtain ⟨a, ea⟩ := tyD_of hn
  exact ⟨v, .ty T.nm, .type a, .type T.nm, isB T d, rfl, .ty T.nm, tyX_of s1.rel r1 ea, kit_ty (isB_of ea), k _ (.bl _) G1 H1 s1 rfl w1⟩
end
end AV

set_option maxRecDepth 100000
set_option maxHeartbeats 1000000
namespace AV
open PySem PySem.Spec PyProof.Rows L2
variable [TabC]

/-! ### own lists changed -/
section
variable {K : PySem.W.Frag} {fr : Fr} {G : GS} {ρ : Rho} {σ : L2.St} {H : Hp}
/-- the own list of slot i is changed -/
theorem Rel.upd {i : Nat} {oa : Option Addr} {ds es : List D} {a : Addr} {xs ys : List V} (r : Rel K fr G ρ σ H) (hi : gt ρ i = .own oa ds) (ha : sv σ i = some (.ref a)) (e : H a = some (.lst xs)) (hy : Reps K G H es ys) : Rel K fr G (ρ.set i (.own oa es)) σ (L2.upd H a (.lst ys)) := by
  have s := r.slot i
  rw [hi] at s
  obtain ⟨a', xs', e1, e2, rs, ng, h0, hoa⟩ := s
  rw [ha] at e1
  cases e1
  have mi : isMut (gt ρ i) := by rw [hi]; trivial
  have hlt : i < ρ.length := gt_lt (by rw [hi]; intro z; cases z)
  have g1 : ∀ j, gt (ρ.set i .un) j = if j = i ∧ i < ρ.length then .un else gt ρ j := fun j => gt_set
  have nm : ∀ j, isMut (gt (ρ.set i .un) j) → sv σ j ≠ some (.ref a) := fun j m e3 => by
    rw [g1] at m
    by_cases hj : j = i ∧ i < ρ.length
    · rw [if_pos hj] at m; exact m
    · rw [if_neg hj] at m
      exact r.apart i j a (fun z => hj ⟨z.symm, hlt⟩) mi m ha e3
  have r1 := (r.setU i).chg (ys := ys) e ng h0 (fun hs => fr.hs a hs h0) nm
  have np : ¬ fr.Pv a := fun hp => (r.prv a hp).2.2.2 i mi ha
  have r2 := r1.set i (s := .own oa es) (o := some (.ref a)) ⟨a, ys, rfl, upd_same, Reps.stab (stab_chg e ng) (fun _ h => h) _ _ hy, ng, h0, hoa⟩ fun _ b eb => by
    cases eb
    exact ⟨fun j hj m => nm j m, np⟩
  rw [List.set_set] at r2
  have es : σ.set i (some (.ref a)) = σ := by
    apply List.ext_getElem?
    intro j
    by_cases hj : i = j
    · subst hj
      rw [sv_some.mp ha, List.getElem?_set_self (by rw [r.len]; exact hlt)]
    · rw [List.getElem?_set_ne hj]
  rw [es] at r2
  exact r2
end
def wOwnS (i : Nat) (f : List D → List D) : WS := fun R E ρ => match gt ρ i with | .own oa ds => E.nx (ρ.set i (.own oa (f ds))) | _ => False
def wApp (i : Nat) (We : WE) : WS := fun R E ρ => match gt ρ i with | .own oa ds => We (fun ex => R ex ρ) ρ fun d => ds.length < 16777216 ∧ E.nx (ρ.set i (.own oa (ds ++ [d]))) | _ => False
def isEL : D → Bool
  | .lst _ => true
  | _ => false
def wExt (i : Nat) (We : WE) : WS := fun R E ρ => match gt ρ i with | .own oa ds => We (fun ex => R ex ρ) ρ fun d => ∃ es, d = .lst es ∧ ds.length + es.length ≤ 16777216 ∧ E.nx (ρ.set i (.own oa (ds ++ es))) | _ => False
def wSetIx (i : Nat) (Wi We : WE) : WS := fun R E ρ => match gt ρ i with | .own oa ds => We (fun ex => R ex ρ) ρ fun d => Wi (fun ex => R ex ρ) ρ fun ix => (match ix with | .int j => ∃ k, ixN ds.length j = some k ∧ E.nx (ρ.set i (.own oa (ds.set k d))) | _ => False) | _ => False
section
variable {X : Cx} {Wx : WX} {e ix : Expr} {We Wi : WE} {y : Str} {p p2 pos spos apos cpos tpos : Pos}
theorem own_at {K : PySem.W.Frag} {fr : Fr} {G : GS} {ρ : Rho} {σ : L2.St} {H : Hp} {i : Nat} {oa : Option Addr} {ds : List D} (r : Rel K fr G ρ σ H) (hi : gt ρ i = .own oa ds) : ∃ a xs, sv σ i = some (.ref a) ∧ H a = some (.lst xs) ∧ Reps K G H ds xs := by
  have s := r.slot i
  rw [hi] at s
  obtain ⟨a, xs, e1, e2, rs, _⟩ := s
  exact ⟨a, xs, e1, e2, rs⟩
theorem ds_app (i : Nat) (he : DE X Wx e We) (hN : X.N[i]? = some y := by rfl) (hv : Vis X.env.scope y := by first | exact Or.inl rfl | exact Or.inr (Or.inl rfl) | exact Or.inr (Or.inr rfl)) (hd : (y == ("__debug__" : Str)) = false := by decide)
    (hcd : (y == ("__classdict__" : Str)) = false := by decide) (hbase : attributeBase (.Name y p) "append" X.env (eval (.Name y p) X.env) = eval (.Name y p) X.env := by rfl)
    (hfew : ((backTo cpos (starEach [e] X.env)).all (fun x => !x.1) && (backToKw cpos (keywordEach [] X.env)).all (fun x => x.1.isSome)
      && decide ([e].length + ([] : List Keyword).length + (if ([] : List Keyword).isEmpty then 0 else 1) < 30)) = true := by rfl)
    (hline : (apos.endLine == cpos.line) = true := by rfl) (hst : starEach [e] X.env = (false, eval e X.env) :: starEach [] X.env := by rfl) (hplain : (backTo cpos (starEach [] X.env)).any (·.1) = false := by rfl)
    (hs : swapsWith (.Call (.Attribute (.Name y p) "append" apos) [e] [] cpos) none spos.line X.env = pure false := by rfl) : DS X Wx (.Expr (.Call (.Attribute (.Name y p) "append" apos) [e] [] cpos) spos) (wApp i We) := by
  obtain ⟨t, pe, q⟩ := he.ex
  refine ⟨⟨_, ps_expr (pe_bm PySem.F.plainAttrs_list PySem.F.slot_list_append PySem.F.type_list_append mt_append (pe_var hN hv hd hcd) (pa_cons pe pa_nil hst) hbase hfew hline hst hplain) hs, fun fr G ρ σ H R E F r hr ok w => ?_⟩⟩
  unfold wApp at w
  split at w
  · rename_i oa ds hi
    obtain ⟨a, xs, e1, e2, rs⟩ := own_at r hi
    refine ⟨_, sv_some.mp e1, .inl ⟨rfl, xs, .of e2⟩, q fr G ρ σ H _ _ _ r hr.e w fun v d G1 H1 s1 rv w1 => ?_⟩
    obtain ⟨a', xs', e1', e2', rs'⟩ := own_at s1.rel hi
    rw [e1] at e1'; cases e1'
    exact ⟨a, xs', v, rfl, rfl, e2', by rw [rs'.length, ← line_eq]; exact w1.1, ok.nx G1 _ σ _ (s1.rel.upd hi e1 e2' (rs'.append (.one rv))) w1.2⟩
  · exact w.elim
theorem ds_ext (i : Nat) (he : DL X Wx e We) (hN : X.N[i]? = some y := by rfl) (hv : Vis X.env.scope y := by first | exact Or.inl rfl | exact Or.inr (Or.inl rfl) | exact Or.inr (Or.inr rfl)) (hd : (y == ("__debug__" : Str)) = false := by decide)
    (hcd : (y == ("__classdict__" : Str)) = false := by decide) (hbase : attributeBase (.Name y p) "extend" X.env (eval (.Name y p) X.env) = eval (.Name y p) X.env := by rfl)
    (hfew : ((backTo cpos (starEach [e] X.env)).all (fun x => !x.1) && (backToKw cpos (keywordEach [] X.env)).all (fun x => x.1.isSome)
      && decide ([e].length + ([] : List Keyword).length + (if ([] : List Keyword).isEmpty then 0 else 1) < 30)) = true := by rfl)
    (hline : (apos.endLine == cpos.line) = true := by rfl) (hst : starEach [e] X.env = (false, eval e X.env) :: starEach [] X.env := by rfl) (hplain : (backTo cpos (starEach [] X.env)).any (·.1) = false := by rfl)
    (hs : swapsWith (.Call (.Attribute (.Name y p) "extend" apos) [e] [] cpos) none spos.line X.env = pure false := by rfl) : DS X Wx (.Expr (.Call (.Attribute (.Name y p) "extend" apos) [e] [] cpos) spos) (wExt i We) := by
  obtain ⟨t, pe, q⟩ := he.ex
  refine ⟨⟨_, ps_expr (pe_bm PySem.F.plainAttrs_list PySem.F.slot_list_extend PySem.F.type_list_extend mt_extend (pe_var hN hv hd hcd) (pa_cons pe pa_nil hst) hbase hfew hline hst hplain) hs, fun fr G ρ σ H R E F r hr ok w => ?_⟩⟩
  unfold wExt at w
  split at w
  · rename_i oa ds hi
    obtain ⟨a, xs, e1, e2, rs⟩ := own_at r hi
    refine ⟨_, sv_some.mp e1, .inl ⟨rfl, xs, .of e2⟩, q fr G ρ σ H _ _ _ r hr.e w fun v d G1 H1 s1 rv w1 => ?_⟩
    obtain ⟨a', xs', e1', e2', rs'⟩ := own_at s1.rel hi
    rw [e1] at e1'; cases e1'
    obtain ⟨es, rfl, hl, w1⟩ := w1
    obtain ⟨b, zs, rfl, e3, rz⟩ := rv.lst s1.rel
    exact ⟨a, b, xs', zs, rfl, rfl, e2', e3, by rw [rs'.length, rz.length, ← line_eq]; exact hl, ok.nx G1 _ σ _ (s1.rel.upd hi e1 e2' (rs'.append rz)) w1⟩
  · exact w.elim
theorem ds_rev (i : Nat) (hN : X.N[i]? = some y := by rfl) (hv : Vis X.env.scope y := by first | exact Or.inl rfl | exact Or.inr (Or.inl rfl) | exact Or.inr (Or.inr rfl)) (hd : (y == ("__debug__" : Str)) = false := by decide)
    (hcd : (y == ("__classdict__" : Str)) = false := by decide) (hbase : attributeBase (.Name y p) "reverse" X.env (eval (.Name y p) X.env) = eval (.Name y p) X.env := by rfl) (hline : (apos.endLine == cpos.line) = true := by rfl)
    (hs : swapsWith (.Call (.Attribute (.Name y p) "reverse" apos) [] [] cpos) none spos.line X.env = pure false := by rfl) : DS X Wx (.Expr (.Call (.Attribute (.Name y p) "reverse" apos) [] [] cpos) spos) (wOwnS i List.reverse) := by
  refine ⟨⟨_, ps_expr (pe_bm0 PySem.F.plainAttrs_list PySem.F.slot_list_reverse PySem.F.type_list_reverse mt_reverse (pe_var hN hv hd hcd) hbase hline) hs, fun fr G ρ σ H R E F r hr ok w => ?_⟩⟩
  unfold wOwnS at w
  split at w
  · rename_i oa ds hi
    obtain ⟨a, xs, e1, e2, rs⟩ := own_at r hi
    exact ⟨_, sv_some.mp e1, .inl ⟨rfl, xs, .of e2⟩, a, xs, rfl, rfl, e2, ok.nx G _ σ _ (r.upd hi e1 e2 rs.reverse) w⟩
  · exact w.elim
theorem ds_clear (i : Nat) (hN : X.N[i]? = some y := by rfl) (hv : Vis X.env.scope y := by first | exact Or.inl rfl | exact Or.inr (Or.inl rfl) | exact Or.inr (Or.inr rfl)) (hd : (y == ("__debug__" : Str)) = false := by decide)
    (hcd : (y == ("__classdict__" : Str)) = false := by decide) (hbase : attributeBase (.Name y p) "clear" X.env (eval (.Name y p) X.env) = eval (.Name y p) X.env := by rfl) (hline : (apos.endLine == cpos.line) = true := by rfl)
    (hs : swapsWith (.Call (.Attribute (.Name y p) "clear" apos) [] [] cpos) none spos.line X.env = pure false := by rfl) : DS X Wx (.Expr (.Call (.Attribute (.Name y p) "clear" apos) [] [] cpos) spos) (wOwnS i fun _ => []) := by
  refine ⟨⟨_, ps_expr (pe_bm0 PySem.F.plainAttrs_list PySem.F.slot_list_clear PySem.F.type_list_clear mt_clear (pe_var hN hv hd hcd) hbase hline) hs, fun fr G ρ σ H R E F r hr ok w => ?_⟩⟩
  unfold wOwnS at w
  split at w
  · rename_i oa ds hi
    obtain ⟨a, xs, e1, e2, rs⟩ := own_at r hi
    exact ⟨_, sv_some.mp e1, .inl ⟨rfl, xs, .of e2⟩, a, xs, rfl, rfl, e2, ok.nx G _ σ _ (r.upd (es := []) hi e1 e2 rfl) w⟩
  · exact w.elim
/-- xs[ix] = e -/
theorem ds_setIx (i : Nat) (he : DE X Wx e We) (hi : DE X Wx ix Wi) (hN : X.N[i]? = some y := by rfl) (hv : Vis X.env.scope y := by first | exact Or.inl rfl | exact Or.inr (Or.inl rfl) | exact Or.inr (Or.inr rfl)) (hd : (y == ("__debug__" : Str)) = false := by decide)
    (hcd : (y == ("__classdict__" : Str)) = false := by decide)
    (ha : ∀ v, assign (.Subscript (.Name y p) ix tpos) X.env v = (do
      let ov ← holding [v] (eval (.Name y p) X.env)
      let iv ← holding [v, ov] (eval ix X.env)
      standAt tpos
      holding [v, ov, iv] (setItem ov iv v)
      release [v, ov, iv] []) := by intro _; rfl)
    (hs : swapsWithSole [.Subscript (.Name y p) ix tpos] e spos.line X.env = pure false := by rfl) (hw : swappedStores [.Subscript (.Name y p) ix tpos] e X.env = pure none := by rfl)
    (h1 : (assignEach [.Subscript (.Name y p) ix tpos] X.env).map (·.2) = [assign (.Subscript (.Name y p) ix tpos) X.env] := by rfl) : DS X Wx (.Assign [.Subscript (.Name y p) ix tpos] e spos) (wSetIx i Wi We) := by
  obtain ⟨t, pe, q⟩ := he.ex
  obtain ⟨t2, p2, q2⟩ := hi.ex
  refine ⟨⟨_, ps_asg pe (pg_sub (pe_var hN hv hd hcd) p2 set_list ha) hs hw h1, fun fr G ρ σ H R E F r hr ok w => ?_⟩⟩
  unfold wSetIx at w
  split at w
  · rename_i oa ds hi
    refine q fr G ρ σ H _ _ _ r hr.e w fun v d G1 H1 s1 rv w1 => ?_
    obtain ⟨a, xs, e1, e2, rs⟩ := own_at s1.rel hi
    refine ⟨_, sv_some.mp e1, ?_⟩
    refine q2 fr G1 ρ σ H1 _ _ _ s1.rel hr.e w1 fun u dx G2 H2 s2 ru w2 => ?_
    obtain ⟨a', xs', e1', e2', rs'⟩ := own_at s2.rel hi
    rw [e1] at e1'; cases e1'
    split at w2
    · rename_i j
      obtain ⟨k, hk, w2⟩ := w2
      have ru : u = .int j := ru
      subst ru
      exact ⟨a, xs', j, k, rfl, rfl, e2', by rw [rs'.length]; exact hk, ok.nx G2 _ σ _ (s2.rel.upd hi e1 e2' (rs'.set k (s2.rep rv))) w2⟩
    · exact w2.elim
  · exact w.elim
/-- x += e, of ints -/
def wAug (i : Nat) (f : Int → Int → Int) (We : WE) : WS := fun R E ρ => match gt ρ i with | .val (.int a) => We (fun ex => R ex ρ) ρ fun d => (match d with | .int b => E.nx (ρ.set i (.val (.int (f a b)))) | _ => False) | _ => False
theorem ds_aug (i : Nat) (hN' : X.N.Nodup) (he : DE X Wx e We) {op : Operator} {f : Int → Int → Int} (ho : PIp X op (ipI f)) (hN : X.N[i]? = some y := by rfl) (hx : Loc X.env.scope y := by first | exact .inl rfl | exact .inr rfl) (hf : X.fn y = true ∨ X.env.scope.names.lookup y = some .local := by first | exact .inl rfl | exact .inr rfl) : DS X Wx (.AugAssign (.Name y p) op e spos) (wAug i f We) := by
  obtain ⟨t, pe, q⟩ := he.ex
  refine ⟨⟨_, ps_aug hN' hN hx pe ho hf, fun fr G ρ σ H R E F r hr ok w => ?_⟩⟩
  unfold wAug at w
  split at w
  · rename_i a hi
    have s := r.slot i
    rw [hi] at s
    obtain ⟨v, e1, e2⟩ := s
    have e2 : v = .int a := e2
    subst e2
    refine ⟨_, sv_some.mp e1, q fr G ρ σ H _ _ _ r hr.e w fun u d G1 H1 s1 ru w1 => ?_⟩
    split at w1
    · rename_i b
      have ru : u = .int b := ru
      subst ru
      exact ⟨a, b, rfl, rfl, ok.nx G1 _ _ H1 (s1.rel.setVal i (d := .int (f a b)) rfl) w1⟩
    · exact w1.elim
  · exact w.elim
/-- {} -/
theorem de_edic : DE X Wx (.Dict [] [] pos) (wC .edic) := ⟨⟨_, pe_dnewK, fun fr G ρ σ H R Qa Q rl hr w k => by
  intro a na
  exact k _ .edic _ _ (Step.newG (o := .dK []) rl na) ⟨a, rfl, .inr rfl, upd_same⟩ w⟩⟩
end

/-! ### exceptions -/
omit [TabC] in
/-- what is known of an own exception class that has no __init__ of its own -/
structure XcF (K : PySem.W.Frag) (mg : Str → Option Value) (x : Str) (C : Addr) : Prop where
  g : mg x = some (.ref C)
  k : PySem.W.keepIn K (.ref C) = true
  b : PySem.W.subIn K (.ref C) (.type "BaseException") = some true
  t : PySem.W.typeIn K (.ref C) = some (.type "type")
  h : PySem.W.hasDictIn K C = true
  xf : xfB K C = true
omit [TabC] in
structure XcI (K : PySem.W.Frag) (C : Addr) : Prop where
  x : PySem.W.excIn K C [.type "ValueError", .type "Exception", .type "BaseException", .type "object"] "ValueError.__new__" = true
def wRai (C : Addr) : WS := fun R _ ρ => R ⟨C, [], []⟩ ρ
section
variable {X : Cx} {Wx : WX} {x m : Str} {j : Nat} {C : Addr} {p p2 pos spos : Pos}
theorem ds_raise (hc : X.calm = true) (tk : Takes X Wx) (f : XcF X.K X.mg x C) (fi : XcI X.K C) (hg : Gl X x) (hdb : (x == ("__debug__" : Str)) = false := by decide) : DS X Wx (.Raise (some (.Call (.Name x p) [.Constant (.str m) j p2] [] pos)) none spos) (wRai C) :=
  ⟨⟨_, ps_raise hc tk (pmk_own PySem.F.excBase_ValueError fi.x f.g f.k (raises_own f.b f.t) hg hdb), fun fr G ρ σ H R E F r hr ok w => hr ⟨C, [], []⟩ (.ref C) none G ρ σ H w .bare r⟩⟩
end
end AV

set_option maxRecDepth 100000
set_option maxHeartbeats 1000000
namespace AV
open PySem PySem.Spec PyProof.Rows L2
variable [TabC]

/-! ### try, with clauses of both kinds -/
def wManyN (K : PySem.W.Frag) (Wout : WX) (D : Ends) : List (Value × Option Nat × (Addr → Value → Option Addr → TS)) → WX
  | [] => Wout
  | (c, i, ts) :: r => fun cls d σ H => ∃ b, PySem.W.exmOne K cls c = some b ∧ (b = true → ∀ a, H a = none → (match i with
      | none => ts a cls d D σ H
      | some i => ts a cls d { nx := fun σ' H' => D.nx (σ'.set i none) H', rt := D.rt, bk := fun σ' H' => D.bk (σ'.set i none) H', ct := fun σ' H' => D.ct (σ'.set i none) H' } (σ.set i (some (.ref a))) H)) ∧ (b = false → wManyN K Wout D r cls d σ H)
inductive HdsN (X : Cx) : List ExceptHandler → List (Value × Option Nat × (Addr → Value → Option Addr → TS)) → Prop
  | nil : HdsN X [] []
  | cons {x : Str} {c : Value} {ts : Addr → Value → Option Addr → TS} {b₀ : Stmt} {suite : List Stmt} {np pos' : Pos} {hds : List ExceptHandler} {l : List (Value × Option Nat × (Addr → Value → Option Addr → TS))} (hc : Names X x c)
      (hsu : ∀ (a : Addr) (oe : Obj) (cls : Value) (d : Option Addr) (pn : List (Addr × Obj)), Zc cls d oe → (∃ vs, oe.data = .fields vs) → PSs (X.suite a ((a, oe) :: pn)) (b₀ :: suite) (ts a cls d)) (r : HdsN X hds l) :
      HdsN X (.ExceptHandler (some (.Name x np)) none (b₀ :: suite) pos' :: hds) ((c, none, ts) :: l)
  | named {x n : Str} {i : Nat} {c : Value} {ts : Addr → Value → Option Addr → TS} {b₀ : Stmt} {suite : List Stmt} {np pos' : Pos} {hds : List ExceptHandler} {l : List (Value × Option Nat × (Addr → Value → Option Addr → TS))} (hc : Names X x c)
      (hi : X.N[i]? = some n) (hln : X.env.kindOf n = some .local)
      (hsu : ∀ (a : Addr) (oe : Obj) (cls : Value) (d : Option Addr) (pn : List (Addr × Obj)), Zc cls d oe → (∃ vs, oe.data = .fields vs) → PSs (X.suite a ((a, oe) :: pn)) (b₀ :: suite) (ts a cls d)) (r : HdsN X hds l) :
      HdsN X (.ExceptHandler (some (.Name x np)) (some n) (b₀ :: suite) pos' :: hds) ((c, some i, ts) :: l)
section
variable {X : Cx} {body : List Stmt} {h₀ : ExceptHandler} {hds : List ExceptHandler} {l : List (Value × Option Nat × (Addr → Value → Option Addr → TS))} {pos : Pos} {tb : WX → TS} {Wout : WX}
theorem ps_try_N (hs : X.stack = X.env :: X.outer) (hf : X.env.frame = some X.env.locals) (hN : X.N.Nodup) (tk : Takes X Wout)
    (hb : ∀ (W : WX) (pn : List (Addr × Obj)) (xe : Value → Shared → Prop), Takes (X.tr pn xe) W → PassesOwn (model X.prog X.w) X.A X.env xe → PSs (X.tr pn xe) body (tb W))
    (hh : HdsN X (h₀ :: hds) l) : PS X (.Try body (h₀ :: hds) [] [] pos) (fun D σ H => tb (wManyN X.K Wout D l) D σ H) := by
  refine ⟨fun pins s σ H D I h => ?_⟩
  have ok := I.ok
  have hfr : X.A.frames = some (X.env :: X.outer) := by rw [ok.frames, hs]
  refine wpAny_Try_except ?_
  refine wpAny_mono ((hb (wManyN X.K Wout D l) (X.pn ++ pins) (fun e s₁ => wpAny (model X.prog X.w) X.A (noteFrame e X.env) (fun _ s₂ => wpAny (model X.prog X.w) X.A (setFlight e none) (fun _ s₃ =>
    wpAny (model X.prog X.w) X.A (handleBy e X.env (h₀ :: hds)) (SP X pins D) X.xe s₃) X.xe s₂) X.xe s₁) (fun u s' xx => ?_) PassesOwn.looking).run [] s σ H D (I.toTry _) h) (fun f s1 hsp => ?_) (fun e s1 he => he)
  · -- the catch
    obtain ⟨a, B, sI, pins', σ', H', cls, d, rfl, J', nb, up, sky, na, os, ag, w⟩ := xx
    have J : Inv X pins σ' H' sI := J'.ofTry ok
    have sky' : Sky B (X.env :: X.outer) a (Zc cls d) X.env.locals s'.heap := by rw [← hs]; exact sky
    show wpAny (model X.prog X.w) X.A (noteFrame (.ref a) X.env) _ _ _
    refine Sky.land Zc.steady hfr hf sky' fun h3 fl3 up3 => ?_
    have J3 : Inv X pins σ' H' { s' with heap := h3 } := J.landed nb fl3.1 (up.trans up3) os ag
    obtain ⟨oe3, vs3, he3, hz3, hd3⟩ := fl3.there
    have notFr : ∀ {h : Heap} {o : Obj} {vs : Array Value}, h.FunFrames B (X.env :: X.outer) → h.get? a = some o → o.data = .fields vs → a ∉ frs (X.env :: X.outer) := fun {h o vs} ff e dd hm => by
      obtain ⟨_, o', e', hnf⟩ := ff.mem hm
      rw [e] at e'; cases e'
      exact hnf _ dd
    have nfr := notFr fl3.2.2.1 he3 hd3
    have nL : a ≠ X.env.locals := fun z => nfr (List.mem_filterMap.mpr ⟨X.env, List.mem_cons_self, by rw [hf, z]⟩)
    have nF : a ∉ X.fs := fun hm => by
      obtain ⟨e, he, q⟩ := List.mem_filterMap.mp hm
      exact nfr (List.mem_filterMap.mpr ⟨e, List.mem_cons_of_mem _ he, q⟩)
    have S3 := J3.suite he3 hd3 na nL nF
    have go : ∀ {hds' : List ExceptHandler} {l' : List (Value × Option Nat × (Addr → Value → Option Addr → TS))}, HdsN X hds' l' → wManyN X.K Wout D l' cls d σ' H' →
        wpAny (model X.prog X.w) X.A (handleBy (.ref a) X.env hds') (SP X pins D) X.xe { s' with heap := h3 } := by
      intro hds' l' hk
      induction hk with
      | nil =>
        intro w
        refine wpAny_handleBy_nil ?_
        obtain ⟨k1, k2, k3, oe, vs, T, oT, ts', he, hz, hd, h1, hr⟩ := id fl3
        unfold PySem.passOn
        refine wpAny_bind (wpAny_field he hd h1 ?_)
        rw [if_neg (show ¬ ((Value.ref T == Value.none) = true) from by simp)]
        have fin : wpAny (model X.prog X.w) X.A (setFlight (.ref a) X.env.frame) (fun _ s4 => wpAny (model X.prog X.w) X.A (throw (.ref a) : Sem Flow) (SP X pins D) X.xe s4) X.xe { s' with heap := h3 } := by
          rw [hf]
          refine HandSPX.setFlight_upZ fl3 fun h4 hh4 up4 => wpAny_throw (tk _ _ ?_)
          exact ⟨a, B, sI, pins, σ', H', cls, d, rfl, J, nb, (up.trans up3).trans up4, .inr (.inr (by rw [hs]; exact hh4)), na, os, ag, w⟩
        first
          | exact wpAny_bind (wpAny_pure (wpAny_bind fin))
          | exact wpAny_bind fin
      | @cons x c ts b₀ suite np pos' hds2 l2 hc hsu r ih =>
        intro w
        obtain ⟨b, hb1, hyes, hno⟩ := w
        refine wpAny_handleBy_cons (codeAny_handlers_test ?_) (by intro q; cases q)
        have LT : PySem.W.Looks (model X.prog X.w) h3 (typeOf (.ref a)) cls := fun A Q E s k q => wpAny_typeOf_ref (k _ _ he3) (by rw [hz3.1]; exact q)
        have LM := PySem.W.exm_one (M := model X.prog X.w) (J3.kIn) LT hb1
        have test : ∀ {Q : Value → Shared → Prop} {E : Value → Shared → Prop}, Q c { s' with heap := h3 } → wpAny (model X.prog X.w) (X.A.mark (some (.ref a))) (eval (.Name x np) X.env) Q E { s' with heap := h3 } := fun {Q E} q => by
          obtain ⟨hg, hdbg, hm | ⟨hm, hv, hnn⟩⟩ := hc
          · exact ld_glob (X := X.suite a ((a, oe3) :: (X.pn ++ pins))) S3 hg hm q hdbg
          · exact ld_blt (X := X.suite a ((a, oe3) :: (X.pn ++ pins))) S3 hg hm hv q hnn hdbg
        refine test (LM.here ?_)
        cases b with
        | true =>
          refine codeAny_handlers_suite ?_
          refine HandSPX.lands_againZ fl3 fun h4 fl4 up4 => ?_
          have J4 : Inv X pins σ' H' { s' with heap := h4 } := J.landed nb fl4.1 ((up.trans up3).trans up4) os ag
          obtain ⟨oe4, vs4, he4, hz4, hd4⟩ := fl4.there
          have S4 := J4.suite he4 hd4 na nL nF
          refine wpAny_mono ((hsu a oe4 cls d (X.pn ++ pins) hz4 ⟨_, hd4⟩).run [] _ _ H' _ S4 (hyes rfl a na)) (fun f s6 hsp => ?_) (fun _ _ z => False.elim z)
          cases f with
          | next =>
            obtain ⟨σ6, H6, S6, q6⟩ := hsp
            exact ⟨_, _, S6.unsuite ok, q6⟩
          | brk =>
            obtain ⟨σ6, H6, S6, q6⟩ := hsp
            exact ⟨_, _, S6.unsuite ok, q6⟩
          | cont =>
            obtain ⟨σ6, H6, S6, q6⟩ := hsp
            exact ⟨_, _, S6.unsuite ok, q6⟩
          | ret u =>
            obtain ⟨v6, σ6, H6, S6, r6, q6⟩ := hsp
            exact ⟨_, _, _, S6.unsuite ok, r6, q6⟩
        | false =>
          show wpAny _ X.A (handleBy (.ref a) X.env hds2) _ _ _
          exact ih (hno rfl)
      | @named x n i c ts b₀ suite np pos' hds2 l2 hc hi hln hsu r ih =>
        intro w
        obtain ⟨b, hb1, hyes, hno⟩ := w
        refine wpAny_handleBy_cons (codeAny_handlers_test ?_) (by intro q; cases q)
        have LT : PySem.W.Looks (model X.prog X.w) h3 (typeOf (.ref a)) cls := fun A Q E s k q => wpAny_typeOf_ref (k _ _ he3) (by rw [hz3.1]; exact q)
        have LM := PySem.W.exm_one (M := model X.prog X.w) (J3.kIn) LT hb1
        have test : ∀ {Q : Value → Shared → Prop} {E : Value → Shared → Prop}, Q c { s' with heap := h3 } → wpAny (model X.prog X.w) (X.A.mark (some (.ref a))) (eval (.Name x np) X.env) Q E { s' with heap := h3 } := fun {Q E} q => by
          obtain ⟨hg, hdbg, hm | ⟨hm, hv, hnn⟩⟩ := hc
          · exact ld_glob (X := X.suite a ((a, oe3) :: (X.pn ++ pins))) S3 hg hm q hdbg
          · exact ld_blt (X := X.suite a ((a, oe3) :: (X.pn ++ pins))) S3 hg hm hv q hnn hdbg
        refine test (LM.here ?_)
        cases b with
        | true =>
          have hyes := hyes rfl a na
          refine codeAny_handlers_suite_as ?_
          refine HandSPX.lands_againZ fl3 fun h4 fl4 up4 => ?_
          have J4 : Inv X pins σ' H' { s' with heap := h4 } := J.landed nb fl4.1 ((up.trans up3).trans up4) os ag
          obtain ⟨oe4, vs4, he4, hz4, hd4⟩ := fl4.there
          have S4 := J4.suite he4 hd4 na nL nF
          refine store_ok (X := X.suite a ((a, oe4) :: (X.pn ++ pins))) (v := .ref a) S4 hN hi (.inl hln) rfl (fun s5 S5 => ?_) (.inr hln)
          refine wpAny_mono ((hsu a oe4 cls d (X.pn ++ pins) hz4 ⟨_, hd4⟩).run [] s5 _ H' _ S5 hyes) (fun f s6 hsp => ?_) (fun _ _ z => False.elim z)
          have end_ : ∀ {σ6 : L2.St} {H6 : Hp} {Q : Shared → Prop}, Inv (X.suite a ((a, oe4) :: (X.pn ++ pins))) [] σ6 H6 s6 → (∀ s7, Inv X pins (σ6.set i none) H6 s7 → Q s7) →
              wpAny (model X.prog X.w) X.A (do bindName X.env n .none; unbindBehindTheSuite X.env n pos') (fun _ s7 => Q s7) X.xe s6 := fun {σ6 H6 Q} S6 hq => gone_ok (S6.unsuite ok) hN hi hln hq
          cases f with
          | next =>
            obtain ⟨σ6, H6, S6, q6⟩ := hsp
            exact end_ S6 fun s7 J7 => ⟨_, _, J7, q6⟩
          | brk =>
            obtain ⟨σ6, H6, S6, q6⟩ := hsp
            exact end_ S6 fun s7 J7 => ⟨_, _, J7, q6⟩
          | cont =>
            obtain ⟨σ6, H6, S6, q6⟩ := hsp
            exact end_ S6 fun s7 J7 => ⟨_, _, J7, q6⟩
          | ret u =>
            obtain ⟨v6, σ6, H6, S6, r6, q6⟩ := hsp
            exact end_ S6 fun s7 J7 => ⟨_, _, _, J7, r6, q6⟩
        | false =>
          show wpAny _ X.A (handleBy (.ref a) X.env hds2) _ _ _
          exact ih (hno rfl)
    exact go hh w
  · cases f with
    | next =>
      obtain ⟨σ', H', J', q⟩ := hsp
      exact wpAny_execs_nil ⟨σ', H', J'.ofTry ok, q⟩
    | brk =>
      obtain ⟨σ', H', J', q⟩ := hsp
      exact ⟨σ', H', J'.ofTry ok, q⟩
    | cont =>
      obtain ⟨σ', H', J', q⟩ := hsp
      exact ⟨σ', H', J'.ofTry ok, q⟩
    | ret u =>
      obtain ⟨v, σ', H', J', r, q⟩ := hsp
      exact ⟨v, σ', H', J'.ofTry ok, r, q⟩
end
end AV

set_option maxRecDepth 100000
set_option maxHeartbeats 1000000
namespace AV
open PySem PySem.Spec PyProof.Rows L2
variable [TabC]

abbrev WH := Addr → Value → Option Addr → WS
def wHands (K : PySem.W.Frag) (Rout : RS) (E : EndsA) : List (Addr × Option Nat × WH) → RS
  | [] => Rout
  | (c, i, Ws) :: r => fun ex ρ => ∃ b, PySem.W.exmOne K (.ref ex.C) (.ref c) = some b ∧ (b = true → ∀ a d, (ex.ns = [] → d = none) → match i with
      | none => Ws a (.ref ex.C) d (fun _ _ => False) E ρ
      | some i => Ws a (.ref ex.C) d (fun _ _ => False) { nx := fun ρ' => E.nx (ρ'.set i .un), rt := E.rt, bk := fun ρ' => E.bk (ρ'.set i .un), ct := fun ρ' => E.ct (ρ'.set i .un) } (ρ.set i (.exc ex a d))) ∧ (b = false → wHands K Rout E r ex ρ)
def wTry (K : PySem.W.Frag) (l : List (Addr × Option Nat × WH)) (Wb : WS) : WS := fun R E ρ => Wb (wHands K R E l) E ρ
def canS (K : PySem.W.Frag) (W : WS) : TS := fun F σ H => ∃ fr G ρ R E, Rel K fr G ρ σ H ∧ RaiseS K W0 fr R ∧ EndsOk K fr E F ∧ W R E ρ
theorem DSs.can {X : Cx} {st : List Stmt} {W : WS} (h : DSs X W0 st W) : PSs X st (canS X.K W) := by
  obtain ⟨t, p, q⟩ := h.ex
  exact ⟨fun pins s σ H D I ⟨fr, G, ρ, R, E, rl, hr, ok, w⟩ => p.run pins s σ H D I (q fr G ρ σ H R E D rl hr ok w)⟩
def canH (K : PySem.W.Frag) : Addr × Option Nat × WH → Value × Option Nat × (Addr → Value → Option Addr → TS) := fun z => (.ref z.1, z.2.1, fun a cls d => canS K (z.2.2 a cls d))
structure DH (X : Cx) (hds : List ExceptHandler) (l : List (Addr × Option Nat × WH)) : Prop where
  ok : HdsN X hds (l.map (canH X.K))
theorem Rel.setX {K : PySem.W.Frag} {fr : Fr} {G : GS} {ρ : Rho} {σ : L2.St} {H : Hp} (r : Rel K fr G ρ σ H) (i : Nat) (o : Option V) : Rel K fr G (ρ.set i .un) (σ.set i o) H := r.set i trivial fun m => m.elim
section
variable {X : Cx} {Wx : WX} {x n : Str} {C : Addr} {Ws : WH} {b₀ : Stmt} {body suite : List Stmt} {h₀ : ExceptHandler} {hds : List ExceptHandler} {l : List (Addr × Option Nat × WH)} {np pos pos' : Pos} {Wb : WS}
theorem dh_nil : DH X [] [] := ⟨.nil⟩
theorem dh_cons (hg : Gl X x) (hm : X.mg x = some (.ref C)) (hsu : ∀ (a : Addr) (oe : Obj) (cls : Value) (d : Option Addr) (pn : List (Addr × Obj)), Zc cls d oe → (∃ vs, oe.data = .fields vs) → DSs (X.suite a ((a, oe) :: pn)) W0 (b₀ :: suite) (Ws a cls d)) (r : DH X hds l)
    (hdb : (x == ("__debug__" : Str)) = false := by decide) : DH X (.ExceptHandler (some (.Name x np)) none (b₀ :: suite) pos' :: hds) ((C, none, Ws) :: l) :=
  ⟨.cons ⟨hg, hdb, .inl hm⟩ (fun a oe cls d pn hz hf => (hsu a oe cls d pn hz hf).can) r.ok⟩
theorem dh_named (i : Nat) (hg : Gl X x) (hm : X.mg x = some (.ref C)) (hsu : ∀ (a : Addr) (oe : Obj) (cls : Value) (d : Option Addr) (pn : List (Addr × Obj)), Zc cls d oe → (∃ vs, oe.data = .fields vs) → DSs (X.suite a ((a, oe) :: pn)) W0 (b₀ :: suite) (Ws a cls d)) (r : DH X hds l)
    (hi : X.N[i]? = some n := by rfl) (hln : X.env.kindOf n = some .local := by rfl)
    (hdb : (x == ("__debug__" : Str)) = false := by decide) : DH X (.ExceptHandler (some (.Name x np)) (some n) (b₀ :: suite) pos' :: hds) ((C, some i, Ws) :: l) :=
  ⟨.named ⟨hg, hdb, .inl hm⟩ hi hln (fun a oe cls d pn hz hf => (hsu a oe cls d pn hz hf).can) r.ok⟩
theorem hands_ok {K : PySem.W.Frag} {fr : Fr} {R : RS} {E : EndsA} {F : Ends} (hr : RaiseS K Wx fr R) (ok : EndsOk K fr E F) : ∀ {l : List (Addr × Option Nat × WH)}, RaiseS K (wManyN K Wx F (l.map (canH K))) fr (wHands K R E l)
  | [] => hr
  | (c, i, Ws) :: l => fun ex cls d G ρ σ H w er rl => by
    obtain ⟨b, hb, hy, hn⟩ := w
    have ec : cls = .ref ex.C := by cases er <;> rfl
    subst ec
    refine ⟨b, hb, fun eb a na => ?_, fun eb => hands_ok hr ok ex _ d G ρ σ H (hn eb) er rl⟩
    have w := hy eb a d er.dn
    cases i with
    | none => exact ⟨fr, G, ρ, fun _ _ => False, E, rl, fun _ _ _ _ _ _ _ z => z.elim, ok, w⟩
    | some i =>
      refine ⟨fr, G, _, fun _ _ => False, { nx := fun ρ' => E.nx (ρ'.set i .un), rt := E.rt, bk := fun ρ' => E.bk (ρ'.set i .un), ct := fun ρ' => E.ct (ρ'.set i .un) }, rl.set i (s := .exc ex a d) (o := some (.ref a)) ⟨rfl, er⟩ (fun m => m.elim), fun _ _ _ _ _ _ _ z => z.elim, ⟨fun G ρ σ H r w => ?_, ok.rt, fun G ρ σ H r w => ?_, fun G ρ σ H r w => ?_, ok.rf⟩, w⟩
      · exact ok.nx G _ _ H (r.setX i none) w
      · exact ok.bk G _ _ H (r.setX i none) w
      · exact ok.ct G _ _ H (r.setX i none) w
theorem ds_try (hs : X.stack = X.env :: X.outer) (hf : X.env.frame = some X.env.locals) (hN : X.N.Nodup) (tk : Takes X Wx)
    (hb : ∀ (W : WX) (pn : List (Addr × Obj)) (xe : Value → Shared → Prop), Takes (X.tr pn xe) W → PassesOwn (model X.prog X.w) X.A X.env xe → DSs (X.tr pn xe) W body Wb) (hh : DH X (h₀ :: hds) l) : DS X Wx (.Try body (h₀ :: hds) [] [] pos) (wTry X.K l Wb) := by
  refine ⟨⟨_, ps_try_N (tb := fun W F σ H => ∃ fr G ρ R E, Rel X.K fr G ρ σ H ∧ RaiseS X.K W fr R ∧ EndsOk X.K fr E F ∧ Wb R E ρ) hs hf hN tk (fun W pn xe tk' hp => ?_) hh.ok, fun fr G ρ σ H R E F r hr ok w => ?_⟩⟩
  · obtain ⟨t, p, q⟩ := (hb W pn xe tk' hp).ex
    exact ⟨fun pins s σ H D I ⟨fr, G, ρ, R, E, rl, hr, ok, w⟩ => p.run pins s σ H D I (q fr G ρ σ H R E D rl hr ok w)⟩
  · exact ⟨fr, G, ρ, _, E, r, hands_ok hr ok, ok, w⟩
end
/-! ### the caught exception looked at -/
def wExF (i : Nat) (a : Addr) (cls : Value) (d : Option Addr) (f : Str) : WE := fun R ρ Q => match gt ρ i with | .exc ex a' d' => a' = a ∧ d' = d ∧ cls = .ref ex.C ∧ ∃ v, (ex.ns.zip ex.ds).lookup f = some v ∧ Q v | _ => False
def wIsE (K : PySem.W.Frag) (i : Nat) (a : Addr) (cls : Value) (d : Option Addr) (C C2 : Addr) : WE := fun R ρ Q => match gt ρ i with | .exc ex a' d' => a' = a ∧ d' = d ∧ d = none ∧ cls = .ref C ∧ ∃ b, PySem.W.kitOne K (.ref C) (.ref C2) = some b ∧ Q (.bl b) | _ => False
theorem zip_lookup {K : PySem.W.Frag} {G : GS} {H : Hp} {f : Str} {x : D} : ∀ {ns : List Str} {ds : List D} {xs : List V}, Reps K G H ds xs → (ns.zip ds).lookup f = some x → ∃ v, (ns.zip xs).lookup f = some v ∧ Rep K G H x v
  | [], _, _, _, e => by simp at e
  | n :: ns, [], _, _, e => by simp at e
  | n :: ns, d :: ds, _, ⟨v, r, rfl, h1, h2⟩, e => by
    rw [List.zip_cons_cons, List.lookup_cons] at e ⊢
    cases q : f == n with
    | true =>
      rw [q] at e
      cases e
      exact ⟨v, rfl, h1⟩
    | false =>
      rw [q] at e
      exact zip_lookup h2 e
section
variable {X : Cx} {f y : Str} {p p2 p3 pos : Pos} {a C C2 : Addr} {oe : Obj} {cls : Value} {d : Option Addr} {pn : List (Addr × Obj)}
theorem de_exF (i : Nat) (T : XfC X.K C) (ec : ∀ ex : EX, cls = .ref ex.C → ex.C = C) (hno : PySem.W.findIn X.K (.ref C) f = some none) (hz : Zc cls d oe) (hf : ∃ vs, oe.data = .fields vs)
    (hN : X.N[i]? = some y := by rfl) (hv : Vis X.env.scope y := by first | exact Or.inl rfl | exact Or.inr (Or.inl rfl) | exact Or.inr (Or.inr rfl)) (hd : (y == ("__debug__" : Str)) = false := by decide)
    (hcd : (y == ("__classdict__" : Str)) = false := by decide) (hb : attributeBase (.Name y p) f X.env (eval (.Name y p) X.env) = eval (.Name y p) X.env := by rfl) : DE (X.suite a ((a, oe) :: pn)) W0 (.Attribute (.Name y p) f pos) (wExF i a cls d f) := by
  refine ⟨⟨_, pe_xf T hno hz hf (pe_var (X := X.suite a ((a, oe) :: pn)) hN hv hd hcd) hb, fun fr G ρ σ H R Qa Q rl hr w k => ?_⟩⟩
  unfold wExF at w
  split at w
  · rename_i ex a' d' hi
    obtain ⟨rfl, rfl, ecls, v, hl, q⟩ := w
    have s := rl.slot i
    rw [hi] at s
    obtain ⟨s1, s2⟩ := s
    refine ⟨_, sv_some.mp s1, rfl, by rw [ecls, ec ex ecls], ?_⟩
    obtain ⟨C0, ns, ds⟩ := ex
    cases s2 with
    | bare => simp at hl
    | «with» n g e l r =>
      obtain ⟨u, e2, ru⟩ := zip_lookup r hl
      exact ⟨_, _, u, rfl, e, e2, k u v G H (.refl rl) ru q⟩
  · exact w.elim
theorem de_isE (i : Nat) (T : ExcC X.K C) (hz : Zc cls d oe) (hf : ∃ vs, oe.data = .fields vs) (hg : Gl X "isinstance") (hm : X.mg "isinstance" = none) {x2 : Str} (hg2 : Gl X x2) (hm2 : X.mg x2 = some (.ref C2)) (hd2 : (x2 == ("__debug__" : Str)) = false := by decide)
    (hN : X.N[i]? = some y := by rfl) (hv : Vis X.env.scope y := by first | exact Or.inl rfl | exact Or.inr (Or.inl rfl) | exact Or.inr (Or.inr rfl)) (hd : (y == ("__debug__" : Str)) = false := by decide)
    (hcd : (y == ("__classdict__" : Str)) = false := by decide)
    (hs : starEach [.Name y p2, .Name x2 p3] X.env = (false, eval (.Name y p2) X.env) :: starEach [.Name x2 p3] X.env := by rfl) (hs2 : starEach [.Name x2 p3] X.env = (false, eval (.Name x2 p3) X.env) :: starEach [] X.env := by rfl) (hpl : (backTo pos (starEach [.Name x2 p3] X.env)).any (·.1) = false := by rfl) :
    DE (X.suite a ((a, oe) :: pn)) W0 (.Call (.Name "isinstance" p) [.Name y p2, .Name x2 p3] [] pos) (wIsE X.K i a cls d C C2) := by
  by_cases hcd' : d = none ∧ cls = .ref C
  · obtain ⟨rfl, rfl⟩ := hcd'
    refine ⟨⟨_, pe_callB (X := X.suite a ((a, oe) :: pn)) (call_isE T hz hf) hg hm (by rfl) (pa_cons (pe_var (X := X.suite a ((a, oe) :: pn)) hN hv hd hcd) (pa_cons (pe_glob (X := X.suite a ((a, oe) :: pn)) hg2 hm2 (v := .ref C2) rfl hd2) pa_nil hs2) hs) (by decide) (by decide) hs hpl, fun fr G ρ σ H R Qa Q rl hr w k => ?_⟩⟩
    unfold wIsE at w
    split at w
    · rename_i ex a' d' hi
      obtain ⟨rfl, rfl, _, _, b, hk, q⟩ := w
      have s := rl.slot i
      rw [hi] at s
      exact ⟨_, sv_some.mp s.1, .ref C2, .ref C2, b, rfl, fun u hu => hu, hk, k _ (.bl b) G H (.refl rl) rfl q⟩
    · exact w.elim
  · refine ⟨⟨fun _ _ _ => False, ⟨fun _ _ _ _ _ _ h => h.elim⟩, fun fr G ρ σ H R Qa Q rl hr w k => ?_⟩⟩
    unfold wIsE at w
    split at w
    · obtain ⟨_, _, e1, e2, _⟩ := w
      exact hcd' ⟨e1, e2⟩
    · exact w
end

/-! ### defs by their bodies -/
def slots0 (N ps : List Str) (ds : List D) : Rho := ds.map .val ++ List.replicate (N.length - ps.length) .un
def slotsS (N ps : List Str) (ds : List D) : Rho := .stt :: ds.map .val ++ List.replicate (N.length - ps.length) .un
theorem gt_app : ∀ {a b : Rho} {i : Nat}, gt (a ++ b) i = if i < a.length then gt a i else gt b (i - a.length)
  | [], b, i => by simp
  | x :: a, b, 0 => by simp [gt]
  | x :: a, b, i + 1 => by
    have := gt_app (a := a) (b := b) (i := i)
    simp only [List.cons_append, gt, this, List.length_cons, Nat.add_lt_add_iff_right, Nat.add_sub_add_right]
theorem gt_rep : ∀ {n i : Nat}, gt (List.replicate n .un) i = .un
  | 0, _ => rfl
  | n + 1, 0 => rfl
  | n + 1, i + 1 => by rw [List.replicate_succ]; exact gt_rep (n := n)
theorem gt_val : ∀ {ds : List D} {i : Nat} {s : Slot}, gt (ds.map .val) i = s → s = .un ∨ ∃ d, ds[i]? = some d ∧ s = .val d
  | [], i, s, e => .inl e.symm
  | d :: ds, 0, s, e => .inr ⟨d, rfl, e.symm⟩
  | d :: ds, i + 1, s, e => by
    have := gt_val (ds := ds) (i := i) (s := s) e
    simpa using this
theorem start_val {K : PySem.W.Frag} {G : GS} {H : Hp} {fr : Fr} {ds : List D} {vs : List V} {m n : Nat} (rs : Reps K G H ds vs) (i : Nat) : SlotOk K fr G H (gt (ds.map .val ++ List.replicate m .un) i) (sv (vs.map some ++ List.replicate n none) i) ∧ ¬ isMut (gt (ds.map .val ++ List.replicate m .un) i) := by
  rw [gt_app]
  by_cases hi : i < (ds.map Slot.val).length
  · rw [if_pos hi]
    have hi' : i < ds.length := by simpa using hi
    rcases gt_val (ds := ds) (i := i) rfl with e | ⟨d, e, e2⟩
    · rw [e]; exact ⟨trivial, id⟩
    · rw [e2]
      obtain ⟨v, ev, rv⟩ := rs.get e
      refine ⟨⟨v, ?_, rv⟩, id⟩
      have hl : i < vs.length := by rw [rs.length]; exact hi'
      unfold sv
      rw [List.getElem?_append_left (by simpa using hl), List.getElem?_map, ev]; rfl
  · rw [if_neg hi, gt_rep]
    exact ⟨trivial, id⟩
section
variable {P : Program} {w : World} {K : PySem.W.Frag} {mg : Str → Option Value} {base : Heap} {x qual : Str} {st : Stmt} {f : Addr} {fd : FuncData} {N ps : List Str} {k : Nat} {φ : AS} {Wb : WS}
theorem fnVg {CV : Value → Prop} (ok : ∀ sp : Sp, (∀ vs H Q E, sp vs H Q E → vs.length = ps.length) → (∀ cdv, CV cdv → ∀ (A : Around) (outer : List Env) (s : Shared) (H : Hp) (vs : List V) (Q : VK) (E : XK), Room k (A.deeper (envOfC qual (defScope st) s.heap.objs.size f cdv)) → sp vs H Q E →
      ∃ t, PSs (cxOf (L2.CX P w) P w K mg base N qual (defScope st) f cdv A outer s H E) (defBody st) t ∧ t { nx := fun _ H' => Q .non H', rt := Q } (start N vs) H) → FnOk P w K mg base (L2.CX P w) (k + 1) f fd ps sp) (S : FnScope N ps (defScope st))
    (hb : ∀ (cdv : Value), CV cdv → ∀ (A : Around) (outer : List Env) (s : Shared) (H : Hp) (E : XK), Room k (A.deeper (envOfC qual (defScope st) s.heap.objs.size f cdv)) → DSs (cxOf (L2.CX P w) P w K mg base N qual (defScope st) f cdv A outer s H E) (fun cls d _ H => E cls d H) (defBody st) Wb)
    (hφ : ∀ ds Q R, φ ds Q R → ds.length = ps.length ∧ Wb (fun ex _ => R ex) ⟨fun _ => Q .non, fun _ => Q, fun _ => False, fun _ => False⟩ (slots0 N ps ds)) : FnOk P w K mg base (L2.CX P w) (k + 1) f fd ps (spV K φ) := by
  refine ok _ (fun vs H Q E h => ?_) (fun cdv hcv A outer s H vs Q E hr h => ?_)
  · obtain ⟨G, ds, Qa, R, _, rs, w, _⟩ := h
    rw [rs.length]; exact (hφ ds Qa R w).1
  · obtain ⟨G, ds, Qa, R, gi, rs, w, kv, ke⟩ := h
    obtain ⟨t, p, q⟩ := (hb cdv hcv A outer s H E hr).ex
    refine ⟨t, p, ?_⟩
    obtain ⟨hl, w⟩ := hφ ds Qa R w
    have hvl := rs.length
    have hpl : ps.length ≤ N.length := by have := congrArg List.length S.pre; rw [List.length_take] at this; omega
    refine q ⟨H, none, G, H, fun _ => False, fun _ => False, by simp, gi.ht⟩ G _ (start N vs) H _ _ _ ?_ (fun ex cls d G' ρ' σ' H' hR er rl => ke ex cls d G' H' rl.post er hR) ⟨fun G' ρ' σ' H' rl z => kv .non .non G' H' rl.post rfl z, fun v d G' ρ' σ' H' rl rv z => kv v d G' H' rl.post rv z, fun _ _ _ _ _ z => z, fun _ _ _ _ _ z => z, fun v es G' ρ' σ' H' rl _ rv z => kv v _ G' H' rl.post rv z⟩ w
    refine ⟨fun _ h => h, fun _ h => .inl h, gi.gi, fun _ _ _ _ h => h, fun _ h => (by cases h), fun i => (start_val rs i).1, fun i j a _ m => ((start_val (K := K) (fr := ⟨H, none, G, H, fun _ => False, fun _ => False, by simp, gi.ht⟩) (m := N.length - ps.length) (n := 0) rs i).2 m).elim, ?_, .refl, fun _ h => h.elim, fun _ h => h.elim, gi.tb, gi.tbs⟩
    unfold L2.start slots0
    simp only [List.length_append, List.length_map, List.length_replicate]
    omega
theorem fnV (F : Fun K x qual st f fd) (S : FnScope N ps (defScope st))
    (hb : ∀ (cdv : Value) (A : Around) (outer : List Env) (s : Shared) (H : Hp) (E : XK), Room k (A.deeper (envOfC qual (defScope st) s.heap.objs.size f cdv)) → DSs (cxOf (L2.CX P w) P w K mg base N qual (defScope st) f cdv A outer s H E) (fun cls d _ H => E cls d H) (defBody st) Wb)
    (hφ : ∀ ds Q R, φ ds Q R → ds.length = ps.length ∧ Wb (fun ex _ => R ex) ⟨fun _ => Q .non, fun _ => Q, fun _ => False, fun _ => False⟩ (slots0 N ps ds)) : FnOk P w K mg base (L2.CX P w) (k + 1) f fd ps (spV K φ) :=
  fnVg (CV := fun _ => True) (fun sp len hbody => F.okX S len fun cdv => hbody cdv trivial) S (fun cdv _ => hb cdv) hφ
theorem fnSg {CV : Value → Prop} (ok : ∀ sp : Sp, (∀ vs H Q E, sp vs H Q E → vs.length = ps.length) → (∀ cdv, CV cdv → ∀ (A : Around) (outer : List Env) (s : Shared) (H : Hp) (vs : List V) (Q : VK) (E : XK), Room k (A.deeper (envOfC qual (defScope st) s.heap.objs.size f cdv)) → sp vs H Q E →
      ∃ t, PSs (cxOf (L2.CX P w) P w K mg base N qual (defScope st) f cdv A outer s H E) (defBody st) t ∧ t { nx := fun _ H' => Q .non H', rt := Q } (start N vs) H) → FnOk P w K mg base (L2.CX P w) (k + 1) f fd ps sp) (S : FnScope N ps (defScope st))
    (hb : ∀ (cdv : Value), CV cdv → ∀ (A : Around) (outer : List Env) (s : Shared) (H : Hp) (E : XK), Room k (A.deeper (envOfC qual (defScope st) s.heap.objs.size f cdv)) → DSs (cxOf (L2.CX P w) P w K mg base N qual (defScope st) f cdv A outer s H E) (fun cls d _ H => E cls d H) (defBody st) Wb)
    (hφ : ∀ ds Q R, φ ds Q R → ds.length + 1 = ps.length ∧ Wb (fun ex _ => R ex) ⟨fun _ => Q .non, fun _ => Q, fun _ => False, fun _ => False⟩ (slotsS N ps ds)) : FnOk P w K mg base (L2.CX P w) (k + 1) f fd ps (spS K φ) := by
  refine ok _ (fun vs H Q E h => ?_) (fun cdv hcv A outer s H vs Q E hr h => ?_)
  · obtain ⟨a, us, G, ds, Qa, R, rfl, _, _, _, rs, w, _⟩ := h
    rw [List.length_cons, rs.length]; exact (hφ ds Qa R w).1
  · obtain ⟨a, us, G, ds, Qa, R, rfl, gi, nga, ⟨xs, ea, oka⟩, rs, w, kv, ke⟩ := h
    obtain ⟨t, p, q⟩ := (hb cdv hcv A outer s H E hr).ex
    refine ⟨t, p, ?_⟩
    obtain ⟨hl, w⟩ := hφ ds Qa R w
    have hvl := rs.length
    have hpl : ps.length ≤ N.length := by have := congrArg List.length S.pre; rw [List.length_take] at this; omega
    have hs : ∀ b, some a = some b → H b ≠ none := fun b e => by cases e; rw [ea]; simp
    refine q ⟨H, some a, G, H, fun _ => False, fun _ => False, hs, gi.ht⟩ G _ (start N (.ref a :: us)) H _ _ _ ?_ (fun ex cls d G' ρ' σ' H' hR er rl => ke ex cls d G' H' rl.post er hR) ⟨fun G' ρ' σ' H' rl z => kv .non .non G' H' rl.post rfl z, fun v d G' ρ' σ' H' rl rv z => kv v d G' H' rl.post rv z, fun _ _ _ _ _ z => z, fun _ _ _ _ _ z => z, fun v es G' ρ' σ' H' rl _ rv z => kv v _ G' H' rl.post rv z⟩ w
    have est : start N (.ref a :: us) = some (.ref a) :: (us.map some ++ List.replicate (N.length - (us.length + 1)) none) := by
      unfold L2.start
      simp
    refine ⟨fun _ h => h, fun _ h => .inl h, gi.gi, fun _ _ _ _ h => h, fun b h => (by cases h; exact ⟨nga, xs, ea, oka⟩), fun i => ?_, fun i j b hij m1 m2 => ?_, ?_, .refl, fun _ h => h.elim, fun _ h => h.elim, gi.tb, gi.tbs⟩
    · rw [est]
      cases i with
      | zero => exact ⟨a, xs, rfl, ea, oka, nga, .inl rfl⟩
      | succ i => exact (start_val rs i).1
    · have nm : ∀ i, isMut (gt (slotsS N ps ds) (i + 1)) → False := fun i m => (start_val (K := K) (fr := ⟨H, some a, G, H, fun _ => False, fun _ => False, hs, gi.ht⟩) (m := N.length - ps.length) (n := 0) rs i).2 m
      cases i with
      | zero =>
        cases j with
        | zero => exact (hij rfl).elim
        | succ j => exact (nm j m2).elim
      | succ i => exact (nm i m1).elim
    · rw [est]
      unfold slotsS
      simp only [List.length_append, List.length_map, List.length_replicate, List.length_cons]
      omega
theorem fnS (F : Fun K x qual st f fd) (S : FnScope N ps (defScope st))
    (hb : ∀ (cdv : Value) (A : Around) (outer : List Env) (s : Shared) (H : Hp) (E : XK), Room k (A.deeper (envOfC qual (defScope st) s.heap.objs.size f cdv)) → DSs (cxOf (L2.CX P w) P w K mg base N qual (defScope st) f cdv A outer s H E) (fun cls d _ H => E cls d H) (defBody st) Wb)
    (hφ : ∀ ds Q R, φ ds Q R → ds.length + 1 = ps.length ∧ Wb (fun ex _ => R ex) ⟨fun _ => Q .non, fun _ => Q, fun _ => False, fun _ => False⟩ (slotsS N ps ds)) : FnOk P w K mg base (L2.CX P w) (k + 1) f fd ps (spS K φ) :=
  fnSg (CV := fun _ => True) (fun sp len hbody => F.okX S len fun cdv => hbody cdv trivial) S (fun cdv _ => hb cdv) hφ
end
end AV

set_option maxRecDepth 100000
set_option maxHeartbeats 1000000
namespace AV
open PySem PySem.Spec PyProof.Rows L2
variable [TabC]

def StOkI (ns : List Int) : Prop := (∃ n : Int, ns = [n]) ∨ ∃ a b c : Int, ns = [a, b, c] ∧ 0 ≤ b ∧ b < 2147483647 ∧ 0 ≤ c
theorem stOk_of {xs : List V} (h : StOk xs) : ∃ ns : List Int, xs = ns.map V.int ∧ StOkI ns := by
  rcases h with ⟨n, rfl⟩ | ⟨a, b, c, rfl, h⟩
  · exact ⟨[n], rfl, .inl ⟨n, rfl⟩⟩
  · exact ⟨[a, b, c], rfl, .inr ⟨a, b, c, rfl, h⟩⟩
theorem StOkI.st {ns : List Int} (h : StOkI ns) : StOk (ns.map V.int) := by
  rcases h with ⟨n, rfl⟩ | ⟨a, b, c, rfl, h⟩
  · exact .inl ⟨n, rfl⟩
  · exact .inr ⟨a, b, c, rfl, h⟩
def goodS (a : Addr) (ρ : Rho) : Prop := ∃ ns : List Int, gt ρ 0 = .own (some a) (ns.map D.int) ∧ StOkI ns
section
variable {P : Program} {w : World} {K : PySem.W.Frag} {mg : Str → Option Value} {base : Heap} {x qual : Str} {st : Stmt} {f : Addr} {fd : FuncData} {N ps : List Str} {k : Nat} {φ : AS} {Wb : WS}
/-- a def that changes the state of draws with its own hands -/
theorem fnSO (F : Fun K x qual st f fd) (S : FnScope N ps (defScope st))
    (hb : ∀ (cdv : Value) (A : Around) (outer : List Env) (s : Shared) (H : Hp) (E : XK), Room k (A.deeper (envOfC qual (defScope st) s.heap.objs.size f cdv)) → DSs (cxOf (L2.CX P w) P w K mg base N qual (defScope st) f cdv A outer s H E) (fun cls d _ H => E cls d H) (defBody st) Wb)
    (hφ : ∀ a (ns : List Int) ds Q R, StOkI ns → φ ds Q R → ds.length + 1 = ps.length ∧ Wb (fun ex ρ => goodS a ρ ∧ R ex) ⟨fun ρ => goodS a ρ ∧ Q .non, fun ρ d => goodS a ρ ∧ Q d, fun _ => False, fun _ => False⟩ (.own (some a) (ns.map .int) :: ds.map .val ++ List.replicate (N.length - ps.length) .un)) :
    FnOk P w K mg base (L2.CX P w) (k + 1) f fd ps (spS K φ) := by
  refine F.okX S (fun vs H Q E h => ?_) (fun cdv A outer s H vs Q E hr h => ?_)
  · obtain ⟨a, us, G, ds, Qa, R, rfl, _, _, _, rs, w, _⟩ := h
    rw [List.length_cons, rs.length]; exact (hφ 0 [0] ds Qa R (.inl ⟨0, rfl⟩) w).1
  · obtain ⟨a, us, G, ds, Qa, R, rfl, gi, nga, ⟨xs, ea, oka⟩, rs, w, kv, ke⟩ := h
    obtain ⟨t, p, q⟩ := (hb cdv A outer s H E hr).ex
    refine ⟨t, p, ?_⟩
    obtain ⟨ns, rfl, okn⟩ := stOk_of oka
    obtain ⟨hl, w⟩ := hφ a ns ds Qa R okn w
    have hvl := rs.length
    have hpl : ps.length ≤ N.length := by have := congrArg List.length S.pre; rw [List.length_take] at this; omega
    have nTa : ¬ isT a := notT gi.tbs ea (fun _ z => by cases z)
    have hht : ∀ b, isT b → (fun b => if b = a then none else H b) b ≠ none := fun b hb => by
      show (if b = a then none else H b) ≠ none
      rw [if_neg (fun z => by subst z; exact nTa hb)]
      exact gi.ht b hb
    generalize hfr : (⟨fun b => if b = a then none else H b, none, G, H, fun _ => False, fun _ => False, by simp, hht⟩ : Fr) = fr
    have post : ∀ {G' ρ' σ' H'}, Rel K fr G' ρ' σ' H' → goodS a ρ' → Post K (some a) G H G' H' := fun {G' ρ' σ' H'} rl gd => by
      obtain ⟨ns', e, ok'⟩ := gd
      have sl := rl.slot 0
      rw [e] at sl
      obtain ⟨a', xs', e1, e2, e3, e4, e5, e6⟩ := sl
      have ea' := e6 a rfl
      subst ea'
      have := e3.ints
      subst this
      refine ⟨fun b o hb ht eb => ?_, fun b h => rl.g0 b (by rw [← hfr]; exact h), fun b h => ?_, rl.gi, fun b eb => ?_, rl.tb, rl.tbs⟩
      · refine rl.same b o (by rw [← hfr]; simp) ht ?_
        rw [← hfr]
        show (if b = a' then none else H b) = some o
        rw [if_neg (fun z => hb (by rw [z])), eb]
      · rcases rl.gn b h with z | z
        · rw [← hfr] at z; exact .inl z
        · rw [← hfr] at z
          have z : (if b = a' then none else H b) = none := z
          by_cases hb : b = a'
          · rw [hb] at h; exact (e4 h).elim
          · rw [if_neg hb] at z; exact .inr z
      · cases eb
        exact ⟨e4, _, e2, ok'.st⟩
    refine q fr G _ (L2.start N (.ref a :: us)) H (fun ex ρ => goodS a ρ ∧ R ex) ⟨fun ρ => goodS a ρ ∧ Qa .non, fun ρ d => goodS a ρ ∧ Qa d, fun _ => False, fun _ => False⟩ _ ?_ (fun ex cls d G' ρ' σ' H' hR er rl => ke ex cls d G' H' (post rl hR.1) er hR.2) ⟨fun G' ρ' σ' H' rl z => kv .non .non G' H' (post rl z.1) rfl z.2, fun v d G' ρ' σ' H' rl rv z => kv v d G' H' (post rl z.1) rv z.2, fun _ _ _ _ _ z => z, fun _ _ _ _ _ z => z, fun v es G' ρ' σ' H' rl _ rv z => by obtain ⟨_, z, _⟩ := z.1; obtain ⟨x, e⟩ := mkDR_at es; rw [e] at z; cases z⟩ w
    have est : L2.start N (.ref a :: us) = some (.ref a) :: (us.map some ++ List.replicate (N.length - (us.length + 1)) none) := by
      unfold L2.start
      simp
    have nm : ∀ i, isMut (gt (.own (some a) (ns.map .int) :: ds.map .val ++ List.replicate (N.length - ps.length) .un) (i + 1)) → False := fun i m => (start_val (K := K) (fr := fr) (m := N.length - ps.length) (n := 0) rs i).2 m
    subst hfr
    refine ⟨fun _ h => h, fun _ h => .inl h, gi.gi, fun b o _ _ h => ?_, fun b h => (by cases h), fun i => ?_, fun i j b hij m1 m2 => ?_, ?_, .refl, fun _ h => h.elim, fun _ h => h.elim, gi.tb, gi.tbs⟩
    · have h : (if b = a then none else H b) = some o := h
      by_cases hb : b = a
      · rw [if_pos hb] at h; cases h
      · rw [if_neg hb] at h; exact h
    · rw [est]
      cases i with
      | zero => exact ⟨a, _, rfl, ea, Reps.of_ints, nga, if_pos rfl, fun b hb => by cases hb; rfl⟩
      | succ i => exact (start_val rs i).1
    · cases i with
      | zero =>
        cases j with
        | zero => exact (hij rfl).elim
        | succ j => exact (nm j m2).elim
      | succ i => exact (nm i m1).elim
    · rw [est]
      simp only [List.length_append, List.length_map, List.length_replicate, List.length_cons]
      omega
end
end AV

set_option maxRecDepth 100000
set_option maxHeartbeats 1000000
namespace AV
open PySem PySem.Spec PyProof.Rows L2
variable [TabC]

/-! ### what the top has written -/
omit [TabC] in
structure FnAt (K : PySem.W.Frag) (mg : Str → Option Value) (x : Str) (st : Stmt) (ps : List Str) : Prop where
  ex : ∃ f fd, Fun K x x st f fd ∧ mg x = some (.ref f) ∧ Binds K fd ps []
structure Good (P : Program) (w : World) (K : PySem.W.Frag) (mg : Str → Option Value) (base : Heap) (k : Nat) (x : Str) (ps : List Str) (sp : Sp) : Prop where
  ex : ∃ f fd, mg x = some (.ref f) ∧ PySem.W.keepIn K (.ref f) = true ∧ Binds K fd ps [] ∧ FnOk P w K mg base (L2.CX P w) k f fd ps sp
omit [TabC] in
theorem fnAt_mk {K : PySem.W.Frag} {h : Heap} {mg : Str → Option Value} {x : Str} {st : Stmt} {ps : List Str} {f : Addr} {oc : Value} {od an : Option Addr} {osl : Array (Option Value)} {kV doc pm cdv ct : Value} (X : K.In h) (G : h.Ns mainGlobals mg)
    (hb : ∀ (kV doc pm : Value) (an : Option Addr) (cdv ct : Value) (us : List Value), us.length = ps.length → bindArgs (PySem.W.fnOf x x (defArgs st) (defBody st) (defScope st) .none kV doc pm an cdv ct) ⟨us, []⟩ = pure (ps.zip us))
    (a : PySem.W.nsIn K mainGlobals x = some (some (.ref f))) (l : K.lookup f = some ⟨oc, od, .func (PySem.W.fnOf x x (defArgs st) (defBody st) (defScope st) .none kV doc pm an cdv ct), osl⟩) (c : PySem.W.codeIn K cdv x = true) (k : PySem.W.keepIn K (.ref f) = true) : FnAt K mg x st ps :=
  ⟨f, _, fun_mk l c k, PySem.W.mg_of X G a, (fun_mk l c k).binds hb⟩
omit [TabC] in
def GInt (mg : Str → Option Value) (x : Str) (n : Int) : Prop := ∃ t, mg x = some (.int n t)
omit [TabC] in
def GTup (K : PySem.W.Frag) (mg : Str → Option Value) (x : Str) (xs : List Str) : Prop := ∃ a, mg x = some (.ref a) ∧ SqT K (fun _ => none) a (xs.map V.str)
omit [TabC] in
theorem gint_mk {K : PySem.W.Frag} {h : Heap} {mg : Str → Option Value} {x : Str} {n : Int} {t : Tok} (X : K.In h) (G : h.Ns mainGlobals mg) (a : PySem.W.nsIn K mainGlobals x = some (some (.int n t))) : GInt mg x n := ⟨t, PySem.W.mg_of X G a⟩
omit [TabC] in
theorem gtup_mk {K : PySem.W.Frag} {h : Heap} {mg : Str → Option Value} {x : Str} {xs : List Str} {f : Addr} {od : Option Addr} {its : Array Value} {n : Nat} {sl : Array (Option Value)} (X : K.In h) (G : h.Ns mainGlobals mg) (a : PySem.W.nsIn K mainGlobals x = some (some (.ref f)))
    (l : K.lookup f = some ⟨.type "tuple", od, .seq its n, sl⟩) (v : Vals (xs.map V.str) its.toList) (hz : its.size ≤ 1000) : GTup K mg x xs := ⟨f, PySem.W.mg_of X G a, .inr ⟨_, its, n, l, rfl, rfl, Nat.le_of_lt (small1000 hz), v⟩⟩
section
variable {X : Cx} {Wx : WX} {x : Str} {pos : Pos}
theorem de_gint {n : Int} (h : GInt X.mg x n) (hg : Gl X x := by rfl) (h2 : (x == ("__debug__" : Str)) = false := by decide) : DE X Wx (.Name x pos) (wC (.int n)) := by
  obtain ⟨t, e⟩ := h
  exact de_glob (v := .int n) (d := .int n) hg e ⟨t, rfl⟩ (fun _ _ => rfl) h2
theorem reps_strs {K : PySem.W.Frag} {G : GS} {H : Hp} : ∀ {xs : List Str}, Reps K G H (xs.map D.str) (xs.map V.str)
  | [] => rfl
  | x :: xs => ⟨_, _, rfl, rfl, reps_strs⟩
theorem de_gtup {xs : List Str} (h : GTup X.K X.mg x xs) (hg : Gl X x := by rfl) (h2 : (x == ("__debug__" : Str)) = false := by decide) : DE X Wx (.Name x pos) (wC (.tup (xs.map .str))) := by
  obtain ⟨a, e, q⟩ := h
  refine de_glob (v := .ref a) (d := .tup (xs.map .str)) hg e rfl (fun G H => ⟨a, _, rfl, ?_, reps_strs⟩) h2
  rcases q with (q | ⟨o, q⟩) | q
  · cases q
  · cases q
  · exact .inr q
theorem hu64 {k : Nat} {A : Around} (hr : Room k A) : A.units + 64 < cLine := by have := hr.un; omega
theorem hu65 {k : Nat} {A : Around} (hr : Room k A) : A.units + 65 < cLine := by have := hr.un; omega
variable {k n : Nat} {ps : List Str} {φ : AS} {y : Str} {p p2 : Pos} {e : Expr} {es : List Expr} {Wa : WA}
theorem dc (F : Good X.prog X.w X.K X.mg X.base k x ps (spV X.K φ)) (hr : Room n X.A) (hk : k ≤ n) (tk : Takes X Wx) (ha : DA X Wx (e :: es) Wa) (hg : Gl X x := by rfl) (hdb : (x == ("__debug__" : Str)) = false := by decide)
    (he : starEach (e :: es) X.env = (false, eval e X.env) :: starEach es X.env := by rfl) (hpl : (backTo pos (starEach es X.env)).any (·.1) = false := by rfl) : DE X Wx (.Call (.Name x p) (e :: es) [] pos) (wCall φ Wa) := by
  obtain ⟨f, fd, hm, hkp, hb, F⟩ := F.ex
  exact de_call F (hr.mono hk) hg hm hkp hb tk ha hdb he hpl
theorem dcS (i : Nat) (F : Good X.prog X.w X.K X.mg X.base k x ps (spS X.K φ)) (hr : Room n X.A) (hk : k ≤ n) (tk : Takes X Wx) (ha : DA X Wx es Wa) (hN : X.N[i]? = some y := by rfl) (hv : Vis X.env.scope y := by first | exact Or.inl rfl | exact Or.inr (Or.inl rfl) | exact Or.inr (Or.inr rfl)) (hg : Gl X x := by rfl) (hd : (y == ("__debug__" : Str)) = false := by decide)
    (hcd : (y == ("__classdict__" : Str)) = false := by decide) (hdb : (x == ("__debug__" : Str)) = false := by decide) (he : starEach (.Name y p2 :: es) X.env = (false, eval (.Name y p2) X.env) :: starEach es X.env := by rfl) (hpl : (backTo pos (starEach es X.env)).any (·.1) = false := by rfl) :
    DE X Wx (.Call (.Name x p) (.Name y p2 :: es) [] pos) (wCallS i φ Wa) := by
  obtain ⟨f, fd, hm, hkp, hb, F⟩ := F.ex
  exact de_callS i F (hr.mono hk) hg hm hkp hb tk ha hN hv hd hcd hdb he hpl
end
section
variable {P : Program} {w : World} {K : PySem.W.Frag} {mg : Str → Option Value} {base : Heap} {x : Str} {st : Stmt} {N ps : List Str} {k : Nat} {φ : AS} {Wb : WS}
abbrev HB (P : Program) (w : World) (K : PySem.W.Frag) (mg : Str → Option Value) (base : Heap) (k : Nat) (x : Str) (st : Stmt) (N : List Str) (Wb : WS) : Prop :=
  ∀ (f : Addr) (cdv : Value) (A : Around) (outer : List Env) (s : Shared) (H : Hp) (E : XK), Room k (A.deeper (envOfC x (defScope st) s.heap.objs.size f cdv)) → Takes (cxOf (L2.CX P w) P w K mg base N x (defScope st) f cdv A outer s H E) (fun cls d _ H => E cls d H) →
    PassesOwn (model P w) (A.deeper (envOfC x (defScope st) s.heap.objs.size f cdv)) (envOfC x (defScope st) s.heap.objs.size f cdv) (cxOf (L2.CX P w) P w K mg base N x (defScope st) f cdv A outer s H E).xe →
    DSs (cxOf (L2.CX P w) P w K mg base N x (defScope st) f cdv A outer s H E) (fun cls d _ H => E cls d H) (defBody st) Wb
theorem HB.use (hb : HB P w K mg base k x st N Wb) (f : Addr) : ∀ (cdv : Value) (A : Around) (outer : List Env) (s : Shared) (H : Hp) (E : XK), Room k (A.deeper (envOfC x (defScope st) s.heap.objs.size f cdv)) → DSs (cxOf (L2.CX P w) P w K mg base N x (defScope st) f cdv A outer s H E) (fun cls d _ H => E cls d H) (defBody st) Wb :=
  fun cdv A outer s H E hr => hb f cdv A outer s H E hr (takes_of rfl rfl rfl rfl) (passes_of rfl)
theorem goodV (A : FnAt K mg x st ps) (S : FnScope N ps (defScope st)) (hb : HB P w K mg base k x st N Wb)
    (hφ : ∀ ds Q R, φ ds Q R → ds.length = ps.length ∧ Wb (fun ex _ => R ex) ⟨fun _ => Q .non, fun _ => Q, fun _ => False, fun _ => False⟩ (slots0 N ps ds)) : Good P w K mg base (k + 1) x ps (spV K φ) := by
  obtain ⟨f, fd, F, hm, b⟩ := A.ex
  exact ⟨f, fd, hm, F.kp, b, fnV F S (hb.use f) hφ⟩
theorem goodS' (A : FnAt K mg x st ps) (S : FnScope N ps (defScope st)) (hb : HB P w K mg base k x st N Wb)
    (hφ : ∀ ds Q R, φ ds Q R → ds.length + 1 = ps.length ∧ Wb (fun ex _ => R ex) ⟨fun _ => Q .non, fun _ => Q, fun _ => False, fun _ => False⟩ (slotsS N ps ds)) : Good P w K mg base (k + 1) x ps (spS K φ) := by
  obtain ⟨f, fd, F, hm, b⟩ := A.ex
  exact ⟨f, fd, hm, F.kp, b, fnS F S (hb.use f) hφ⟩
theorem goodSO (A : FnAt K mg x st ps) (S : FnScope N ps (defScope st)) (hb : HB P w K mg base k x st N Wb)
    (hφ : ∀ a (ns : List Int) ds Q R, StOkI ns → φ ds Q R → ds.length + 1 = ps.length ∧ Wb (fun ex ρ => goodS a ρ ∧ R ex) ⟨fun ρ => goodS a ρ ∧ Q .non, fun ρ d => goodS a ρ ∧ Q d, fun _ => False, fun _ => False⟩ (.own (some a) (ns.map .int) :: ds.map .val ++ List.replicate (N.length - ps.length) .un)) : Good P w K mg base (k + 1) x ps (spS K φ) := by
  obtain ⟨f, fd, F, hm, b⟩ := A.ex
  exact ⟨f, fd, hm, F.kp, b, fnSO F S (hb.use f) hφ⟩
end
/-- the law's own promise -/
def φLaw : AS := fun ds Q _ => ∃ ns : List Int, ds = [.scr ns] ∧ ns.length ≤ 63 ∧ Q (.bl true)
theorem law_sp {K : PySem.W.Frag} {H : Hp} {a : Addr} {ns : List Int} (hl : ns.length ≤ 63) (hT : LamX.Tabs TabC.T H) (hS : SqL K H a (ns.map V.int)) : spV K φLaw [.ref a] H (fun v _ => v = .bl true) fun _ _ _ => False := by
  rcases hS with h | h
  · refine ⟨fun b => b = a, [.scr ns], fun d => d = .bl true, fun _ => False, ⟨fun b e => ?_, fun b ht e => ?_, hT⟩, ⟨_, [], rfl, ⟨a, rfl, .inl ⟨rfl, h⟩⟩, rfl⟩, ⟨ns, rfl, hl, rfl⟩, fun v d G' H' _ r e => ?_, fun _ _ _ _ _ _ _ z => z⟩
    · subst e
      rcases h with h | ⟨o, h⟩ <;> exact ⟨_, h⟩
    · subst e
      rcases h with h | ⟨o, h⟩
      · exact notT hT h (fun _ z => by cases z) ht
      · exact notT hT h (fun _ z => by cases z) ht
    · subst e; exact r
  · refine ⟨fun b => False, [.scr ns], fun d => d = .bl true, fun _ => False, ⟨fun b e => e.elim, fun b _ e => e.elim, hT⟩, ⟨_, [], rfl, ⟨a, rfl, .inr h⟩, rfl⟩, ⟨ns, rfl, hl, rfl⟩, fun v d G' H' _ r e => ?_, fun _ _ _ _ _ _ _ z => z⟩
    subst e; exact r
theorem law_cx {w : World} {P : Program} {H : Hp} {s : Shared} {e : Value} {s' : Shared} (h : L2.CX P w [] H s (fun _ _ _ => False) e s') : False := by
  obtain ⟨_, _, _, _, _, _, _, _, _, _, _, _, z⟩ := h
  exact z
end AV
namespace AV
open PySem PySem.Spec PyProof.Rows L2
variable [TabC]
theorem law_mk {P : Program} {w : World} {K : PySem.W.Frag} {mg : Str → Option Value} {st : Stmt} {N : List Str} {k : Nat} {Wb : WS} {sc : Str} (A : FnAt K mg "law" st [sc]) (S : FnScope N [sc] (defScope st))
    (hbind : ∀ (kV doc pm : Value) (an : Option Addr) (cdv ct : Value) (s : Shared) (u : Value), BindsTo s (PySem.W.fnOf "law" "law" (defArgs st) (defBody st) (defScope st) .none kV doc pm an cdv ct) ⟨[u], []⟩ [(sc, u)])
    (hb : ∀ base : Heap, HB P w K mg base k "law" st N Wb)
    (hφ : ∀ ds Q R, φLaw ds Q R → ds.length = [sc].length ∧ Wb (fun ex _ => R ex) ⟨fun _ => Q .non, fun _ => Q, fun _ => False, fun _ => False⟩ (slots0 N [sc] ds)) {fa : Addr} (hmg : mg "law" = some (.ref fa)) :
    ∃ fd : FuncData, (∀ (s : Shared) (u : Value), BindsTo s fd ⟨[u], []⟩ [(sc, u)]) ∧ ∀ base : Heap, K.In base → base.Ns mainGlobals mg → FnOk P w K mg base (L2.CX P w) (k + 1) fa fd [sc] (spV K φLaw) := by
  obtain ⟨f, fd, F, hm, b⟩ := A.ex
  rw [hmg] at hm
  cases hm
  refine ⟨fd, ?_, fun base _ _ => fnV F S ((hb base).use fa) hφ⟩
  obtain ⟨oc, od, kV, doc, pm, an, cdv, ct, osl, rfl, lk, hcd⟩ := F.ex
  exact hbind kV doc pm an cdv ct
/-! ### name = [comprehension] -/
section
variable {X : Cx} {Wx : WX} {elt tg iter : Expr} {ifs : List Expr} {scope : Scope} {own : List (Str × Nat)} {pos py spos : Pos} {Wi : WI} {g : WG} {Wt : WT} {We : WE} {ws : List Nat} {y : Str}
theorem ds_newLc (i : Nat) (hc : X.calm = true) (hN : X.N.Nodup) (hi : DIL X Wx tg iter Wi) (ok : BlkOk X.N X.env.scope scope own) (hsub : ∀ v ∈ ws, v ∈ own.map (·.2))
    (hg : ∀ (s : Shared) (H : Hp) (C : Addr) (cl : List (Str × Addr)) (fp : List Addr), DG (X.blk s H scope (compEnvC scope cl C X.env) fp) tg ws g)
    (ht : ∀ (s : Shared) (H : Hp) (C : Addr) (cl : List (Str × Addr)) (fp : List Addr), DTs (X.blk s H scope (compEnvC scope cl C X.env) fp) ifs Wt)
    (he : ∀ (s : Shared) (H : Hp) (C : Addr) (cl : List (Str × Addr)) (fp : List Addr), DE (X.blk s H scope (compEnvC scope cl C X.env) fp) W0 elt We)
    (hk : X.env.scope.kind = .function := by rfl) (hyl : X.env.scope.names.lookup y = some .local := by rfl) (hl : (py.line == pos.line) = true := by rfl) (hsl : (spos.line == pos.line) = true := by rfl)
    (ha : (scope.names.any fun (n, k) => n == y && (k == .local || k == .cell)) = false := by decide +kernel)
    (hy : X.N[i]? = some y := by rfl) (hs : ∀ x, foldedSetIterable iter X.env x = pure x := by intro _; rfl) : DS X Wx (.Assign [.Name y py] (.ListComp elt [⟨tg, iter, ifs, 0⟩] scope pos) spos) (wNew i (wLc Wi g Wt We (own.map (·.2)))) := by
  obtain ⟨wi, pi, qi⟩ := hi.ex
  refine ⟨⟨_, ps_setLc (g := canG X.K ws g) (tt := canT X.K Wt) (te := canE X.K W0 We) hc hN hy hyl (sw_true hk hyl hl ha) pi ok (fun s H C cl fp => (hg s H C cl fp).can) (fun s H C cl fp => (ht s H C cl fp).can) (fun s H C cl fp => (he s H C cl fp).can) hs, ?_⟩⟩
  exact own_go (lc_go hsub qi (fun fr G ρ σ H v d Qa Q rl rp w k => ⟨fr, G, ρ, d, Qa, rl, rp, w, k⟩) (fun fr G ρ σ H Qa Q rl w k => ⟨fr, G, ρ, Qa, rl, w, k⟩) (fun fr G ρ σ H R Qa Q rl hr w k => ⟨fr, G, ρ, R, Qa, rl, hr, w, k⟩))
theorem val_go {i : Nat} {t : TE} {We : WE}
    (q : ∀ fr G ρ σ H R Qa Q, Rel X.K fr G ρ σ H → RaiseE X.K Wx fr ρ σ R → We R ρ Qa → (∀ p xs ds G' H', Step X.K fr G ρ σ H G' H' → H p = none → H' p = some (.lst xs) → ¬ G' p → Reps X.K G' H' ds xs → Qa (.lst ds) → Q (.ref p) H') → t σ H Q) :
    ∀ fr G ρ σ H R E F, Rel X.K fr G ρ σ H → RaiseS X.K Wx fr R → EndsOk X.K fr E F → wSet i We R E ρ → tAsg t (gName i) F σ H := fun fr G ρ σ H R E F r hr ok w =>
  q fr G ρ σ H _ _ _ r hr.e w fun p xs ds G' H' s np e ng rs qa => ok.nx _ _ _ H' ((s.take r np e).rel.setVal i (d := .lst ds) ⟨p, xs, rfl, .inr rfl, e, Reps.stab .refl (fun _ h => .inl h) ds xs rs⟩) qa
theorem ds_setLc (i : Nat) (hc : X.calm = true) (hN : X.N.Nodup) (hi : DIL X Wx tg iter Wi) (ok : BlkOk X.N X.env.scope scope own) (hsub : ∀ v ∈ ws, v ∈ own.map (·.2))
    (hg : ∀ (s : Shared) (H : Hp) (C : Addr) (cl : List (Str × Addr)) (fp : List Addr), DG (X.blk s H scope (compEnvC scope cl C X.env) fp) tg ws g)
    (ht : ∀ (s : Shared) (H : Hp) (C : Addr) (cl : List (Str × Addr)) (fp : List Addr), DTs (X.blk s H scope (compEnvC scope cl C X.env) fp) ifs Wt)
    (he : ∀ (s : Shared) (H : Hp) (C : Addr) (cl : List (Str × Addr)) (fp : List Addr), DE (X.blk s H scope (compEnvC scope cl C X.env) fp) W0 elt We)
    (hk : X.env.scope.kind = .function := by rfl) (hyl : X.env.scope.names.lookup y = some .local := by rfl) (hl : (py.line == pos.line) = true := by rfl) (hsl : (spos.line == pos.line) = true := by rfl)
    (ha : (scope.names.any fun (n, k) => n == y && (k == .local || k == .cell)) = false := by decide +kernel)
    (hy : X.N[i]? = some y := by rfl) (hs : ∀ x, foldedSetIterable iter X.env x = pure x := by intro _; rfl) : DS X Wx (.Assign [.Name y py] (.ListComp elt [⟨tg, iter, ifs, 0⟩] scope pos) spos) (wSet i (wLc Wi g Wt We (own.map (·.2)))) := by
  obtain ⟨wi, pi, qi⟩ := hi.ex
  refine ⟨⟨_, ps_setLc (g := canG X.K ws g) (tt := canT X.K Wt) (te := canE X.K W0 We) hc hN hy hyl (sw_true hk hyl hl ha) pi ok (fun s H C cl fp => (hg s H C cl fp).can) (fun s H C cl fp => (ht s H C cl fp).can) (fun s H C cl fp => (he s H C cl fp).can) hs, ?_⟩⟩
  exact val_go (lc_go hsub qi (fun fr G ρ σ H v d Qa Q rl rp w k => ⟨fr, G, ρ, d, Qa, rl, rp, w, k⟩) (fun fr G ρ σ H Qa Q rl w k => ⟨fr, G, ρ, Qa, rl, w, k⟩) (fun fr G ρ σ H R Qa Q rl hr w k => ⟨fr, G, ρ, R, Qa, rl, hr, w, k⟩))
end
end AV

set_option maxRecDepth 100000
set_option maxHeartbeats 1000000
namespace AV
open PySem PySem.Spec PyProof.Rows L2
variable [TabC]
/-! ### rules for simp: from the outside in -/
/-- what comes behind, kept out of simp's sight -/
class Kn (α : Type) where
  r : α → Prop
class Kn2 (α β : Type) where
  r : α → β → Prop
class Kp where
  r : Prop
def optK {α : Type} (o : Option α) [K : Kn α] : Prop := ∃ x, o = some x ∧ K.r x
@[simp ↓] theorem optK_some {α : Type} (x : α) (Q : α → Prop) : @optK α (some x) ⟨Q⟩ = Q x := propext ⟨fun ⟨_, e, q⟩ => by cases e; exact q, fun q => ⟨x, rfl, q⟩⟩
@[simp ↓] theorem optK_none {α : Type} (K : Kn α) : @optK α none K = False := propext ⟨fun ⟨_, e, _⟩ => (by cases e), fun q => q.elim⟩
def blK (d : D) [K : Kn Bool] : Prop := match d with | .bl k => K.r k | _ => False
@[simp ↓] theorem blK_bl (k : Bool) (Q : Bool → Prop) : @blK (.bl k) ⟨Q⟩ = Q k := (rfl)
def intK (d : D) [K : Kn Int] : Prop := match d with | .int k => K.r k | _ => False
@[simp ↓] theorem intK_int (k : Int) (Q : Int → Prop) : @intK (.int k) ⟨Q⟩ = Q k := (rfl)
def lstK (d : D) [K : Kn (List D)] : Prop := match d with | .lst k => K.r k | _ => False
@[simp ↓] theorem lstK_lst (k : List D) (Q : List D → Prop) : @lstK (.lst k) ⟨Q⟩ = Q k := (rfl)
def tupK (d : D) [K : Kn (List D)] : Prop := match d with | .tup k => K.r k | _ => False
@[simp ↓] theorem tupK_tup (k : List D) (Q : List D → Prop) : @tupK (.tup k) ⟨Q⟩ = Q k := (rfl)
/-! slots -/
def valS (s : Slot) [K : Kn D] : Prop := match s with | .val d => K.r d | _ => False
@[simp ↓] theorem valS_val (d : D) (Q : D → Prop) : @valS (.val d) ⟨Q⟩ = Q d := (rfl)
def ownS (s : Slot) [K : Kn2 (Option Addr) (List D)] : Prop := match s with | .own oa ds => K.r oa ds | _ => False
@[simp ↓] theorem ownS_own (oa : Option Addr) (d : List D) (Q : Option Addr → List D → Prop) : @ownS (.own oa d) ⟨Q⟩ = Q oa d := (rfl)
def sttS (s : Slot) [K : Kp] : Prop := s = .stt ∧ K.r
@[simp ↓] theorem sttS_stt (Q : Prop) : @sttS .stt ⟨Q⟩ = Q := propext ⟨fun h => h.2, fun h => ⟨rfl, h⟩⟩
/-! operations, calls -/
def opK (f : D → D → (D → Prop) → Prop) (x y : D) [K : Kn D] : Prop := f x y K.r
def unK (f : D → (D → Prop) → Prop) (x : D) [K : Kn D] : Prop := f x K.r
def truK (x : D) [K : Kn Bool] : Prop := truO x K.r
def cutK (lo hi : Option Int) (x : D) [K : Kn D] : Prop := oCut lo hi x K.r
def bK (φ : BS) (ds : List D) [K : Kn D] : Prop := φ ds K.r
def caK (φ : AS) (ds : List D) [K : Kn D] [R : Kn EX] : Prop := φ ds K.r R.r
class KF where
  g : WG
  A : WS
  RR : RS
  E : EndsA
def forK (ds : List D) (ρ : Rho) [K : KF] : Prop := forW K.g K.A K.RR K.E ds ρ
class KC where
  g : WG
  Wt : WT
  We : WE
  QL : List D → Prop
def compK (ρ : Rho) (ds acc : List D) [K : KC] : Prop := compW K.g K.Wt K.We ρ ds acc K.QL
def gsK (gs : WGs) (ds : List D) (ρ : Rho) [K : Kn Rho] : Prop := gs ds ρ K.r
@[simp] theorem gt_nil (i : Nat) : gt [] i = .un := (rfl)
@[simp] theorem gt_zero (s : Slot) (r : Rho) : gt (s :: r) 0 = s := (rfl)
@[simp] theorem gt_succ (s : Slot) (r : Rho) (n : Nat) : gt (s :: r) (n + 1) = gt r n := (rfl)
section
variable {R : EX → Prop} {ρ : Rho} {Q : D → Prop} {RR : RS} {E : EndsA} {Wa Wb Wc We : WE} {Wt Wt2 : WT} {Wr : WA} {A B : WS} {g : WG} {gs : WGs} {Wi : WI} {f : D → D → (D → Prop) → Prop} {d : D} {i : Nat}
@[simp ↓] theorem wC_ : wC d R ρ Q = Q d := (rfl)
@[simp ↓] theorem wVar_ : wVar i R ρ Q = @valS (gt ρ i) ⟨Q⟩ := (rfl)
@[simp ↓] theorem wOwn_ : wOwn i R ρ Q = @ownS (gt ρ i) ⟨fun _ ds => Q (.lst ds)⟩ := (rfl)
@[simp ↓] theorem wOp_ : wOp f Wa Wb R ρ Q = Wa R ρ fun x => Wb R ρ fun y => @opK f x y ⟨Q⟩ := (rfl)
@[simp ↓] theorem wUn_ {f : D → (D → Prop) → Prop} : wUn f Wa R ρ Q = Wa R ρ fun x => @unK f x ⟨Q⟩ := (rfl)
variable {QB : Bool → Prop} {QL : List D → Prop}
@[simp ↓] theorem wTest_ : wTest Wa R ρ QB = Wa R ρ fun d => @blK d ⟨QB⟩ := (rfl)
@[simp ↓] theorem wTru_ : wTru Wa R ρ QB = Wa R ρ fun d => @truK d ⟨QB⟩ := (rfl)
@[simp ↓] theorem truO_non : @truK .non ⟨QB⟩ = QB false := (rfl)
@[simp ↓] theorem truO_bl {b : Bool} : @truK (.bl b) ⟨QB⟩ = QB b := (rfl)
@[simp ↓] theorem truO_int {i : Int} : @truK (.int i) ⟨QB⟩ = QB (i != 0) := (rfl)
@[simp ↓] theorem truO_tup {ds : List D} : @truK (.tup ds) ⟨QB⟩ = QB (!ds.isEmpty) := (rfl)
@[simp ↓] theorem truO_lst {ds : List D} : @truK (.lst ds) ⟨QB⟩ = QB (!ds.isEmpty) := (rfl)
@[simp ↓] theorem wAndT_ : wAndT Wt Wt2 R ρ QB = Wt R ρ fun k => if k = true then Wt2 R ρ QB else QB false := (rfl)
@[simp ↓] theorem wOrT_ : wOrT Wt Wt2 R ρ QB = Wt R ρ fun k => if k = true then QB true else Wt2 R ρ QB := (rfl)
@[simp ↓] theorem wNotT_ : wNotT Wt R ρ QB = Wt R ρ fun k => QB (!k) := (rfl)
@[simp ↓] theorem wYes_ : wYes R ρ QB = QB true := (rfl)
@[simp ↓] theorem wAndV_ : wAndV Wa Wb R ρ Q = Wa R ρ fun x => @blK x ⟨fun k => if k = true then Wb R ρ Q else Q (.bl false)⟩ := (rfl)
@[simp ↓] theorem wOrV_ : wOrV Wa Wb R ρ Q = Wa R ρ fun x => @blK x ⟨fun k => if k = true then Q (.bl true) else Wb R ρ Q⟩ := (rfl)
@[simp ↓] theorem wNotV_ : wNotV Wa R ρ Q = Wa R ρ fun x => @blK x ⟨fun k => Q (.bl (!k))⟩ := (rfl)
@[simp ↓] theorem wIf_ : wIf Wt Wa Wb R ρ Q = Wt R ρ fun k => if k = true then Wa R ρ Q else Wb R ρ Q := (rfl)
@[simp ↓] theorem wNil_ : wNil R ρ QL = QL [] := (rfl)
@[simp ↓] theorem wCons_ : wCons Wa Wr R ρ QL = Wa R ρ fun d => Wr R ρ fun ds => QL (d :: ds) := (rfl)
theorem lenOkN {n : Nat} {p : Prop} (h : n ≤ 1000) : ((n ≤ 16777216) ∧ p) = p := propext ⟨fun z => z.2, fun z => ⟨by omega, z⟩⟩
@[simp ↓] theorem wTup_0 : wTup wNil R ρ Q = (Q (.tup [])) := lenOkN (n := 0) (by decide)
@[simp ↓] theorem wLst_0 : wLst wNil R ρ Q = (Q (.lst [])) := lenOkN (n := 0) (by decide)
@[simp ↓] theorem wTup_1 {a0 : WE} : wTup (wCons a0 wNil) R ρ Q = (a0 R ρ fun x0 => Q (.tup [x0])) := congrArg _ (funext fun x0 => lenOkN (n := 1) (by decide))
@[simp ↓] theorem wLst_1 {a0 : WE} : wLst (wCons a0 wNil) R ρ Q = (a0 R ρ fun x0 => Q (.lst [x0])) := congrArg _ (funext fun x0 => lenOkN (n := 1) (by decide))
@[simp ↓] theorem wTup_2 {a0 a1 : WE} : wTup (wCons a0 (wCons a1 wNil)) R ρ Q = (a0 R ρ fun x0 => a1 R ρ fun x1 => Q (.tup [x0, x1])) := congrArg _ (funext fun x0 => congrArg _ (funext fun x1 => lenOkN (n := 2) (by decide)))
@[simp ↓] theorem wLst_2 {a0 a1 : WE} : wLst (wCons a0 (wCons a1 wNil)) R ρ Q = (a0 R ρ fun x0 => a1 R ρ fun x1 => Q (.lst [x0, x1])) := congrArg _ (funext fun x0 => congrArg _ (funext fun x1 => lenOkN (n := 2) (by decide)))
@[simp ↓] theorem wTup_3 {a0 a1 a2 : WE} : wTup (wCons a0 (wCons a1 (wCons a2 wNil))) R ρ Q = (a0 R ρ fun x0 => a1 R ρ fun x1 => a2 R ρ fun x2 => Q (.tup [x0, x1, x2])) := congrArg _ (funext fun x0 => congrArg _ (funext fun x1 => congrArg _ (funext fun x2 => lenOkN (n := 3) (by decide))))
@[simp ↓] theorem wLst_3 {a0 a1 a2 : WE} : wLst (wCons a0 (wCons a1 (wCons a2 wNil))) R ρ Q = (a0 R ρ fun x0 => a1 R ρ fun x1 => a2 R ρ fun x2 => Q (.lst [x0, x1, x2])) := congrArg _ (funext fun x0 => congrArg _ (funext fun x1 => congrArg _ (funext fun x2 => lenOkN (n := 3) (by decide))))
@[simp ↓] theorem wTup_4 {a0 a1 a2 a3 : WE} : wTup (wCons a0 (wCons a1 (wCons a2 (wCons a3 wNil)))) R ρ Q = (a0 R ρ fun x0 => a1 R ρ fun x1 => a2 R ρ fun x2 => a3 R ρ fun x3 => Q (.tup [x0, x1, x2, x3])) := congrArg _ (funext fun x0 => congrArg _ (funext fun x1 => congrArg _ (funext fun x2 => congrArg _ (funext fun x3 => lenOkN (n := 4) (by decide)))))
@[simp ↓] theorem wLst_4 {a0 a1 a2 a3 : WE} : wLst (wCons a0 (wCons a1 (wCons a2 (wCons a3 wNil)))) R ρ Q = (a0 R ρ fun x0 => a1 R ρ fun x1 => a2 R ρ fun x2 => a3 R ρ fun x3 => Q (.lst [x0, x1, x2, x3])) := congrArg _ (funext fun x0 => congrArg _ (funext fun x1 => congrArg _ (funext fun x2 => congrArg _ (funext fun x3 => lenOkN (n := 4) (by decide)))))
@[simp ↓] theorem wTup_5 {a0 a1 a2 a3 a4 : WE} : wTup (wCons a0 (wCons a1 (wCons a2 (wCons a3 (wCons a4 wNil))))) R ρ Q = (a0 R ρ fun x0 => a1 R ρ fun x1 => a2 R ρ fun x2 => a3 R ρ fun x3 => a4 R ρ fun x4 => Q (.tup [x0, x1, x2, x3, x4])) := congrArg _ (funext fun x0 => congrArg _ (funext fun x1 => congrArg _ (funext fun x2 => congrArg _ (funext fun x3 => congrArg _ (funext fun x4 => lenOkN (n := 5) (by decide))))))
@[simp ↓] theorem wLst_5 {a0 a1 a2 a3 a4 : WE} : wLst (wCons a0 (wCons a1 (wCons a2 (wCons a3 (wCons a4 wNil))))) R ρ Q = (a0 R ρ fun x0 => a1 R ρ fun x1 => a2 R ρ fun x2 => a3 R ρ fun x3 => a4 R ρ fun x4 => Q (.lst [x0, x1, x2, x3, x4])) := congrArg _ (funext fun x0 => congrArg _ (funext fun x1 => congrArg _ (funext fun x2 => congrArg _ (funext fun x3 => congrArg _ (funext fun x4 => lenOkN (n := 5) (by decide))))))
@[simp ↓] theorem wTup_6 {a0 a1 a2 a3 a4 a5 : WE} : wTup (wCons a0 (wCons a1 (wCons a2 (wCons a3 (wCons a4 (wCons a5 wNil)))))) R ρ Q = (a0 R ρ fun x0 => a1 R ρ fun x1 => a2 R ρ fun x2 => a3 R ρ fun x3 => a4 R ρ fun x4 => a5 R ρ fun x5 => Q (.tup [x0, x1, x2, x3, x4, x5])) := congrArg _ (funext fun x0 => congrArg _ (funext fun x1 => congrArg _ (funext fun x2 => congrArg _ (funext fun x3 => congrArg _ (funext fun x4 => congrArg _ (funext fun x5 => lenOkN (n := 6) (by decide)))))))
@[simp ↓] theorem wLst_6 {a0 a1 a2 a3 a4 a5 : WE} : wLst (wCons a0 (wCons a1 (wCons a2 (wCons a3 (wCons a4 (wCons a5 wNil)))))) R ρ Q = (a0 R ρ fun x0 => a1 R ρ fun x1 => a2 R ρ fun x2 => a3 R ρ fun x3 => a4 R ρ fun x4 => a5 R ρ fun x5 => Q (.lst [x0, x1, x2, x3, x4, x5])) := congrArg _ (funext fun x0 => congrArg _ (funext fun x1 => congrArg _ (funext fun x2 => congrArg _ (funext fun x3 => congrArg _ (funext fun x4 => congrArg _ (funext fun x5 => lenOkN (n := 6) (by decide)))))))
@[simp ↓] theorem wTup_7 {a0 a1 a2 a3 a4 a5 a6 : WE} : wTup (wCons a0 (wCons a1 (wCons a2 (wCons a3 (wCons a4 (wCons a5 (wCons a6 wNil))))))) R ρ Q = (a0 R ρ fun x0 => a1 R ρ fun x1 => a2 R ρ fun x2 => a3 R ρ fun x3 => a4 R ρ fun x4 => a5 R ρ fun x5 => a6 R ρ fun x6 => Q (.tup [x0, x1, x2, x3, x4, x5, x6])) := congrArg _ (funext fun x0 => congrArg _ (funext fun x1 => congrArg _ (funext fun x2 => congrArg _ (funext fun x3 => congrArg _ (funext fun x4 => congrArg _ (funext fun x5 => congrArg _ (funext fun x6 => lenOkN (n := 7) (by decide))))))))
@[simp ↓] theorem wLst_7 {a0 a1 a2 a3 a4 a5 a6 : WE} : wLst (wCons a0 (wCons a1 (wCons a2 (wCons a3 (wCons a4 (wCons a5 (wCons a6 wNil))))))) R ρ Q = (a0 R ρ fun x0 => a1 R ρ fun x1 => a2 R ρ fun x2 => a3 R ρ fun x3 => a4 R ρ fun x4 => a5 R ρ fun x5 => a6 R ρ fun x6 => Q (.lst [x0, x1, x2, x3, x4, x5, x6])) := congrArg _ (funext fun x0 => congrArg _ (funext fun x1 => congrArg _ (funext fun x2 => congrArg _ (funext fun x3 => congrArg _ (funext fun x4 => congrArg _ (funext fun x5 => congrArg _ (funext fun x6 => lenOkN (n := 7) (by decide))))))))
@[simp ↓] theorem wTup_8 {a0 a1 a2 a3 a4 a5 a6 a7 : WE} : wTup (wCons a0 (wCons a1 (wCons a2 (wCons a3 (wCons a4 (wCons a5 (wCons a6 (wCons a7 wNil)))))))) R ρ Q = (a0 R ρ fun x0 => a1 R ρ fun x1 => a2 R ρ fun x2 => a3 R ρ fun x3 => a4 R ρ fun x4 => a5 R ρ fun x5 => a6 R ρ fun x6 => a7 R ρ fun x7 => Q (.tup [x0, x1, x2, x3, x4, x5, x6, x7])) := congrArg _ (funext fun x0 => congrArg _ (funext fun x1 => congrArg _ (funext fun x2 => congrArg _ (funext fun x3 => congrArg _ (funext fun x4 => congrArg _ (funext fun x5 => congrArg _ (funext fun x6 => congrArg _ (funext fun x7 => lenOkN (n := 8) (by decide)))))))))
@[simp ↓] theorem wLst_8 {a0 a1 a2 a3 a4 a5 a6 a7 : WE} : wLst (wCons a0 (wCons a1 (wCons a2 (wCons a3 (wCons a4 (wCons a5 (wCons a6 (wCons a7 wNil)))))))) R ρ Q = (a0 R ρ fun x0 => a1 R ρ fun x1 => a2 R ρ fun x2 => a3 R ρ fun x3 => a4 R ρ fun x4 => a5 R ρ fun x5 => a6 R ρ fun x6 => a7 R ρ fun x7 => Q (.lst [x0, x1, x2, x3, x4, x5, x6, x7])) := congrArg _ (funext fun x0 => congrArg _ (funext fun x1 => congrArg _ (funext fun x2 => congrArg _ (funext fun x3 => congrArg _ (funext fun x4 => congrArg _ (funext fun x5 => congrArg _ (funext fun x6 => congrArg _ (funext fun x7 => lenOkN (n := 8) (by decide)))))))))
@[simp ↓] theorem wTup_9 {a0 a1 a2 a3 a4 a5 a6 a7 a8 : WE} : wTup (wCons a0 (wCons a1 (wCons a2 (wCons a3 (wCons a4 (wCons a5 (wCons a6 (wCons a7 (wCons a8 wNil))))))))) R ρ Q = (a0 R ρ fun x0 => a1 R ρ fun x1 => a2 R ρ fun x2 => a3 R ρ fun x3 => a4 R ρ fun x4 => a5 R ρ fun x5 => a6 R ρ fun x6 => a7 R ρ fun x7 => a8 R ρ fun x8 => Q (.tup [x0, x1, x2, x3, x4, x5, x6, x7, x8])) := congrArg _ (funext fun x0 => congrArg _ (funext fun x1 => congrArg _ (funext fun x2 => congrArg _ (funext fun x3 => congrArg _ (funext fun x4 => congrArg _ (funext fun x5 => congrArg _ (funext fun x6 => congrArg _ (funext fun x7 => congrArg _ (funext fun x8 => lenOkN (n := 9) (by decide))))))))))
@[simp ↓] theorem wLst_9 {a0 a1 a2 a3 a4 a5 a6 a7 a8 : WE} : wLst (wCons a0 (wCons a1 (wCons a2 (wCons a3 (wCons a4 (wCons a5 (wCons a6 (wCons a7 (wCons a8 wNil))))))))) R ρ Q = (a0 R ρ fun x0 => a1 R ρ fun x1 => a2 R ρ fun x2 => a3 R ρ fun x3 => a4 R ρ fun x4 => a5 R ρ fun x5 => a6 R ρ fun x6 => a7 R ρ fun x7 => a8 R ρ fun x8 => Q (.lst [x0, x1, x2, x3, x4, x5, x6, x7, x8])) := congrArg _ (funext fun x0 => congrArg _ (funext fun x1 => congrArg _ (funext fun x2 => congrArg _ (funext fun x3 => congrArg _ (funext fun x4 => congrArg _ (funext fun x5 => congrArg _ (funext fun x6 => congrArg _ (funext fun x7 => congrArg _ (funext fun x8 => lenOkN (n := 9) (by decide))))))))))
@[simp ↓] theorem wTup_10 {a0 a1 a2 a3 a4 a5 a6 a7 a8 a9 : WE} : wTup (wCons a0 (wCons a1 (wCons a2 (wCons a3 (wCons a4 (wCons a5 (wCons a6 (wCons a7 (wCons a8 (wCons a9 wNil)))))))))) R ρ Q = (a0 R ρ fun x0 => a1 R ρ fun x1 => a2 R ρ fun x2 => a3 R ρ fun x3 => a4 R ρ fun x4 => a5 R ρ fun x5 => a6 R ρ fun x6 => a7 R ρ fun x7 => a8 R ρ fun x8 => a9 R ρ fun x9 => Q (.tup [x0, x1, x2, x3, x4, x5, x6, x7, x8, x9])) := congrArg _ (funext fun x0 => congrArg _ (funext fun x1 => congrArg _ (funext fun x2 => congrArg _ (funext fun x3 => congrArg _ (funext fun x4 => congrArg _ (funext fun x5 => congrArg _ (funext fun x6 => congrArg _ (funext fun x7 => congrArg _ (funext fun x8 => congrArg _ (funext fun x9 => lenOkN (n := 10) (by decide)))))))))))
@[simp ↓] theorem wLst_10 {a0 a1 a2 a3 a4 a5 a6 a7 a8 a9 : WE} : wLst (wCons a0 (wCons a1 (wCons a2 (wCons a3 (wCons a4 (wCons a5 (wCons a6 (wCons a7 (wCons a8 (wCons a9 wNil)))))))))) R ρ Q = (a0 R ρ fun x0 => a1 R ρ fun x1 => a2 R ρ fun x2 => a3 R ρ fun x3 => a4 R ρ fun x4 => a5 R ρ fun x5 => a6 R ρ fun x6 => a7 R ρ fun x7 => a8 R ρ fun x8 => a9 R ρ fun x9 => Q (.lst [x0, x1, x2, x3, x4, x5, x6, x7, x8, x9])) := congrArg _ (funext fun x0 => congrArg _ (funext fun x1 => congrArg _ (funext fun x2 => congrArg _ (funext fun x3 => congrArg _ (funext fun x4 => congrArg _ (funext fun x5 => congrArg _ (funext fun x6 => congrArg _ (funext fun x7 => congrArg _ (funext fun x8 => congrArg _ (funext fun x9 => lenOkN (n := 10) (by decide)))))))))))
@[simp ↓] theorem wTup_11 {a0 a1 a2 a3 a4 a5 a6 a7 a8 a9 a10 : WE} : wTup (wCons a0 (wCons a1 (wCons a2 (wCons a3 (wCons a4 (wCons a5 (wCons a6 (wCons a7 (wCons a8 (wCons a9 (wCons a10 wNil))))))))))) R ρ Q = (a0 R ρ fun x0 => a1 R ρ fun x1 => a2 R ρ fun x2 => a3 R ρ fun x3 => a4 R ρ fun x4 => a5 R ρ fun x5 => a6 R ρ fun x6 => a7 R ρ fun x7 => a8 R ρ fun x8 => a9 R ρ fun x9 => a10 R ρ fun x10 => Q (.tup [x0, x1, x2, x3, x4, x5, x6, x7, x8, x9, x10])) := congrArg _ (funext fun x0 => congrArg _ (funext fun x1 => congrArg _ (funext fun x2 => congrArg _ (funext fun x3 => congrArg _ (funext fun x4 => congrArg _ (funext fun x5 => congrArg _ (funext fun x6 => congrArg _ (funext fun x7 => congrArg _ (funext fun x8 => congrArg _ (funext fun x9 => congrArg _ (funext fun x10 => lenOkN (n := 11) (by decide))))))))))))
@[simp ↓] theorem wLst_11 {a0 a1 a2 a3 a4 a5 a6 a7 a8 a9 a10 : WE} : wLst (wCons a0 (wCons a1 (wCons a2 (wCons a3 (wCons a4 (wCons a5 (wCons a6 (wCons a7 (wCons a8 (wCons a9 (wCons a10 wNil))))))))))) R ρ Q = (a0 R ρ fun x0 => a1 R ρ fun x1 => a2 R ρ fun x2 => a3 R ρ fun x3 => a4 R ρ fun x4 => a5 R ρ fun x5 => a6 R ρ fun x6 => a7 R ρ fun x7 => a8 R ρ fun x8 => a9 R ρ fun x9 => a10 R ρ fun x10 => Q (.lst [x0, x1, x2, x3, x4, x5, x6, x7, x8, x9, x10])) := congrArg _ (funext fun x0 => congrArg _ (funext fun x1 => congrArg _ (funext fun x2 => congrArg _ (funext fun x3 => congrArg _ (funext fun x4 => congrArg _ (funext fun x5 => congrArg _ (funext fun x6 => congrArg _ (funext fun x7 => congrArg _ (funext fun x8 => congrArg _ (funext fun x9 => congrArg _ (funext fun x10 => lenOkN (n := 11) (by decide))))))))))))
@[simp ↓] theorem wTup_12 {a0 a1 a2 a3 a4 a5 a6 a7 a8 a9 a10 a11 : WE} : wTup (wCons a0 (wCons a1 (wCons a2 (wCons a3 (wCons a4 (wCons a5 (wCons a6 (wCons a7 (wCons a8 (wCons a9 (wCons a10 (wCons a11 wNil)))))))))))) R ρ Q = (a0 R ρ fun x0 => a1 R ρ fun x1 => a2 R ρ fun x2 => a3 R ρ fun x3 => a4 R ρ fun x4 => a5 R ρ fun x5 => a6 R ρ fun x6 => a7 R ρ fun x7 => a8 R ρ fun x8 => a9 R ρ fun x9 => a10 R ρ fun x10 => a11 R ρ fun x11 => Q (.tup [x0, x1, x2, x3, x4, x5, x6, x7, x8, x9, x10, x11])) := congrArg _ (funext fun x0 => congrArg _ (funext fun x1 => congrArg _ (funext fun x2 => congrArg _ (funext fun x3 => congrArg _ (funext fun x4 => congrArg _ (funext fun x5 => congrArg _ (funext fun x6 => congrArg _ (funext fun x7 => congrArg _ (funext fun x8 => congrArg _ (funext fun x9 => congrArg _ (funext fun x10 => congrArg _ (funext fun x11 => lenOkN (n := 12) (by decide)))))))))))))
@[simp ↓] theorem wLst_12 {a0 a1 a2 a3 a4 a5 a6 a7 a8 a9 a10 a11 : WE} : wLst (wCons a0 (wCons a1 (wCons a2 (wCons a3 (wCons a4 (wCons a5 (wCons a6 (wCons a7 (wCons a8 (wCons a9 (wCons a10 (wCons a11 wNil)))))))))))) R ρ Q = (a0 R ρ fun x0 => a1 R ρ fun x1 => a2 R ρ fun x2 => a3 R ρ fun x3 => a4 R ρ fun x4 => a5 R ρ fun x5 => a6 R ρ fun x6 => a7 R ρ fun x7 => a8 R ρ fun x8 => a9 R ρ fun x9 => a10 R ρ fun x10 => a11 R ρ fun x11 => Q (.lst [x0, x1, x2, x3, x4, x5, x6, x7, x8, x9, x10, x11])) := congrArg _ (funext fun x0 => congrArg _ (funext fun x1 => congrArg _ (funext fun x2 => congrArg _ (funext fun x3 => congrArg _ (funext fun x4 => congrArg _ (funext fun x5 => congrArg _ (funext fun x6 => congrArg _ (funext fun x7 => congrArg _ (funext fun x8 => congrArg _ (funext fun x9 => congrArg _ (funext fun x10 => congrArg _ (funext fun x11 => lenOkN (n := 12) (by decide)))))))))))))
@[simp ↓] theorem wTup_13 {a0 a1 a2 a3 a4 a5 a6 a7 a8 a9 a10 a11 a12 : WE} : wTup (wCons a0 (wCons a1 (wCons a2 (wCons a3 (wCons a4 (wCons a5 (wCons a6 (wCons a7 (wCons a8 (wCons a9 (wCons a10 (wCons a11 (wCons a12 wNil))))))))))))) R ρ Q = (a0 R ρ fun x0 => a1 R ρ fun x1 => a2 R ρ fun x2 => a3 R ρ fun x3 => a4 R ρ fun x4 => a5 R ρ fun x5 => a6 R ρ fun x6 => a7 R ρ fun x7 => a8 R ρ fun x8 => a9 R ρ fun x9 => a10 R ρ fun x10 => a11 R ρ fun x11 => a12 R ρ fun x12 => Q (.tup [x0, x1, x2, x3, x4, x5, x6, x7, x8, x9, x10, x11, x12])) := congrArg _ (funext fun x0 => congrArg _ (funext fun x1 => congrArg _ (funext fun x2 => congrArg _ (funext fun x3 => congrArg _ (funext fun x4 => congrArg _ (funext fun x5 => congrArg _ (funext fun x6 => congrArg _ (funext fun x7 => congrArg _ (funext fun x8 => congrArg _ (funext fun x9 => congrArg _ (funext fun x10 => congrArg _ (funext fun x11 => congrArg _ (funext fun x12 => lenOkN (n := 13) (by decide))))))))))))))
@[simp ↓] theorem wLst_13 {a0 a1 a2 a3 a4 a5 a6 a7 a8 a9 a10 a11 a12 : WE} : wLst (wCons a0 (wCons a1 (wCons a2 (wCons a3 (wCons a4 (wCons a5 (wCons a6 (wCons a7 (wCons a8 (wCons a9 (wCons a10 (wCons a11 (wCons a12 wNil))))))))))))) R ρ Q = (a0 R ρ fun x0 => a1 R ρ fun x1 => a2 R ρ fun x2 => a3 R ρ fun x3 => a4 R ρ fun x4 => a5 R ρ fun x5 => a6 R ρ fun x6 => a7 R ρ fun x7 => a8 R ρ fun x8 => a9 R ρ fun x9 => a10 R ρ fun x10 => a11 R ρ fun x11 => a12 R ρ fun x12 => Q (.lst [x0, x1, x2, x3, x4, x5, x6, x7, x8, x9, x10, x11, x12])) := congrArg _ (funext fun x0 => congrArg _ (funext fun x1 => congrArg _ (funext fun x2 => congrArg _ (funext fun x3 => congrArg _ (funext fun x4 => congrArg _ (funext fun x5 => congrArg _ (funext fun x6 => congrArg _ (funext fun x7 => congrArg _ (funext fun x8 => congrArg _ (funext fun x9 => congrArg _ (funext fun x10 => congrArg _ (funext fun x11 => congrArg _ (funext fun x12 => lenOkN (n := 13) (by decide))))))))))))))
@[simp ↓] theorem wTup_14 {a0 a1 a2 a3 a4 a5 a6 a7 a8 a9 a10 a11 a12 a13 : WE} : wTup (wCons a0 (wCons a1 (wCons a2 (wCons a3 (wCons a4 (wCons a5 (wCons a6 (wCons a7 (wCons a8 (wCons a9 (wCons a10 (wCons a11 (wCons a12 (wCons a13 wNil)))))))))))))) R ρ Q = (a0 R ρ fun x0 => a1 R ρ fun x1 => a2 R ρ fun x2 => a3 R ρ fun x3 => a4 R ρ fun x4 => a5 R ρ fun x5 => a6 R ρ fun x6 => a7 R ρ fun x7 => a8 R ρ fun x8 => a9 R ρ fun x9 => a10 R ρ fun x10 => a11 R ρ fun x11 => a12 R ρ fun x12 => a13 R ρ fun x13 => Q (.tup [x0, x1, x2, x3, x4, x5, x6, x7, x8, x9, x10, x11, x12, x13])) := congrArg _ (funext fun x0 => congrArg _ (funext fun x1 => congrArg _ (funext fun x2 => congrArg _ (funext fun x3 => congrArg _ (funext fun x4 => congrArg _ (funext fun x5 => congrArg _ (funext fun x6 => congrArg _ (funext fun x7 => congrArg _ (funext fun x8 => congrArg _ (funext fun x9 => congrArg _ (funext fun x10 => congrArg _ (funext fun x11 => congrArg _ (funext fun x12 => congrArg _ (funext fun x13 => lenOkN (n := 14) (by decide)))))))))))))))
@[simp ↓] theorem wLst_14 {a0 a1 a2 a3 a4 a5 a6 a7 a8 a9 a10 a11 a12 a13 : WE} : wLst (wCons a0 (wCons a1 (wCons a2 (wCons a3 (wCons a4 (wCons a5 (wCons a6 (wCons a7 (wCons a8 (wCons a9 (wCons a10 (wCons a11 (wCons a12 (wCons a13 wNil)))))))))))))) R ρ Q = (a0 R ρ fun x0 => a1 R ρ fun x1 => a2 R ρ fun x2 => a3 R ρ fun x3 => a4 R ρ fun x4 => a5 R ρ fun x5 => a6 R ρ fun x6 => a7 R ρ fun x7 => a8 R ρ fun x8 => a9 R ρ fun x9 => a10 R ρ fun x10 => a11 R ρ fun x11 => a12 R ρ fun x12 => a13 R ρ fun x13 => Q (.lst [x0, x1, x2, x3, x4, x5, x6, x7, x8, x9, x10, x11, x12, x13])) := congrArg _ (funext fun x0 => congrArg _ (funext fun x1 => congrArg _ (funext fun x2 => congrArg _ (funext fun x3 => congrArg _ (funext fun x4 => congrArg _ (funext fun x5 => congrArg _ (funext fun x6 => congrArg _ (funext fun x7 => congrArg _ (funext fun x8 => congrArg _ (funext fun x9 => congrArg _ (funext fun x10 => congrArg _ (funext fun x11 => congrArg _ (funext fun x12 => congrArg _ (funext fun x13 => lenOkN (n := 14) (by decide)))))))))))))))
@[simp ↓] theorem wTup_15 {a0 a1 a2 a3 a4 a5 a6 a7 a8 a9 a10 a11 a12 a13 a14 : WE} : wTup (wCons a0 (wCons a1 (wCons a2 (wCons a3 (wCons a4 (wCons a5 (wCons a6 (wCons a7 (wCons a8 (wCons a9 (wCons a10 (wCons a11 (wCons a12 (wCons a13 (wCons a14 wNil))))))))))))))) R ρ Q = (a0 R ρ fun x0 => a1 R ρ fun x1 => a2 R ρ fun x2 => a3 R ρ fun x3 => a4 R ρ fun x4 => a5 R ρ fun x5 => a6 R ρ fun x6 => a7 R ρ fun x7 => a8 R ρ fun x8 => a9 R ρ fun x9 => a10 R ρ fun x10 => a11 R ρ fun x11 => a12 R ρ fun x12 => a13 R ρ fun x13 => a14 R ρ fun x14 => Q (.tup [x0, x1, x2, x3, x4, x5, x6, x7, x8, x9, x10, x11, x12, x13, x14])) := congrArg _ (funext fun x0 => congrArg _ (funext fun x1 => congrArg _ (funext fun x2 => congrArg _ (funext fun x3 => congrArg _ (funext fun x4 => congrArg _ (funext fun x5 => congrArg _ (funext fun x6 => congrArg _ (funext fun x7 => congrArg _ (funext fun x8 => congrArg _ (funext fun x9 => congrArg _ (funext fun x10 => congrArg _ (funext fun x11 => congrArg _ (funext fun x12 => congrArg _ (funext fun x13 => congrArg _ (funext fun x14 => lenOkN (n := 15) (by decide))))))))))))))))
@[simp ↓] theorem wLst_15 {a0 a1 a2 a3 a4 a5 a6 a7 a8 a9 a10 a11 a12 a13 a14 : WE} : wLst (wCons a0 (wCons a1 (wCons a2 (wCons a3 (wCons a4 (wCons a5 (wCons a6 (wCons a7 (wCons a8 (wCons a9 (wCons a10 (wCons a11 (wCons a12 (wCons a13 (wCons a14 wNil))))))))))))))) R ρ Q = (a0 R ρ fun x0 => a1 R ρ fun x1 => a2 R ρ fun x2 => a3 R ρ fun x3 => a4 R ρ fun x4 => a5 R ρ fun x5 => a6 R ρ fun x6 => a7 R ρ fun x7 => a8 R ρ fun x8 => a9 R ρ fun x9 => a10 R ρ fun x10 => a11 R ρ fun x11 => a12 R ρ fun x12 => a13 R ρ fun x13 => a14 R ρ fun x14 => Q (.lst [x0, x1, x2, x3, x4, x5, x6, x7, x8, x9, x10, x11, x12, x13, x14])) := congrArg _ (funext fun x0 => congrArg _ (funext fun x1 => congrArg _ (funext fun x2 => congrArg _ (funext fun x3 => congrArg _ (funext fun x4 => congrArg _ (funext fun x5 => congrArg _ (funext fun x6 => congrArg _ (funext fun x7 => congrArg _ (funext fun x8 => congrArg _ (funext fun x9 => congrArg _ (funext fun x10 => congrArg _ (funext fun x11 => congrArg _ (funext fun x12 => congrArg _ (funext fun x13 => congrArg _ (funext fun x14 => lenOkN (n := 15) (by decide))))))))))))))))
@[simp ↓] theorem wTup_16 {a0 a1 a2 a3 a4 a5 a6 a7 a8 a9 a10 a11 a12 a13 a14 a15 : WE} : wTup (wCons a0 (wCons a1 (wCons a2 (wCons a3 (wCons a4 (wCons a5 (wCons a6 (wCons a7 (wCons a8 (wCons a9 (wCons a10 (wCons a11 (wCons a12 (wCons a13 (wCons a14 (wCons a15 wNil)))))))))))))))) R ρ Q = (a0 R ρ fun x0 => a1 R ρ fun x1 => a2 R ρ fun x2 => a3 R ρ fun x3 => a4 R ρ fun x4 => a5 R ρ fun x5 => a6 R ρ fun x6 => a7 R ρ fun x7 => a8 R ρ fun x8 => a9 R ρ fun x9 => a10 R ρ fun x10 => a11 R ρ fun x11 => a12 R ρ fun x12 => a13 R ρ fun x13 => a14 R ρ fun x14 => a15 R ρ fun x15 => Q (.tup [x0, x1, x2, x3, x4, x5, x6, x7, x8, x9, x10, x11, x12, x13, x14, x15])) := congrArg _ (funext fun x0 => congrArg _ (funext fun x1 => congrArg _ (funext fun x2 => congrArg _ (funext fun x3 => congrArg _ (funext fun x4 => congrArg _ (funext fun x5 => congrArg _ (funext fun x6 => congrArg _ (funext fun x7 => congrArg _ (funext fun x8 => congrArg _ (funext fun x9 => congrArg _ (funext fun x10 => congrArg _ (funext fun x11 => congrArg _ (funext fun x12 => congrArg _ (funext fun x13 => congrArg _ (funext fun x14 => congrArg _ (funext fun x15 => lenOkN (n := 16) (by decide)))))))))))))))))
@[simp ↓] theorem wLst_16 {a0 a1 a2 a3 a4 a5 a6 a7 a8 a9 a10 a11 a12 a13 a14 a15 : WE} : wLst (wCons a0 (wCons a1 (wCons a2 (wCons a3 (wCons a4 (wCons a5 (wCons a6 (wCons a7 (wCons a8 (wCons a9 (wCons a10 (wCons a11 (wCons a12 (wCons a13 (wCons a14 (wCons a15 wNil)))))))))))))))) R ρ Q = (a0 R ρ fun x0 => a1 R ρ fun x1 => a2 R ρ fun x2 => a3 R ρ fun x3 => a4 R ρ fun x4 => a5 R ρ fun x5 => a6 R ρ fun x6 => a7 R ρ fun x7 => a8 R ρ fun x8 => a9 R ρ fun x9 => a10 R ρ fun x10 => a11 R ρ fun x11 => a12 R ρ fun x12 => a13 R ρ fun x13 => a14 R ρ fun x14 => a15 R ρ fun x15 => Q (.lst [x0, x1, x2, x3, x4, x5, x6, x7, x8, x9, x10, x11, x12, x13, x14, x15])) := congrArg _ (funext fun x0 => congrArg _ (funext fun x1 => congrArg _ (funext fun x2 => congrArg _ (funext fun x3 => congrArg _ (funext fun x4 => congrArg _ (funext fun x5 => congrArg _ (funext fun x6 => congrArg _ (funext fun x7 => congrArg _ (funext fun x8 => congrArg _ (funext fun x9 => congrArg _ (funext fun x10 => congrArg _ (funext fun x11 => congrArg _ (funext fun x12 => congrArg _ (funext fun x13 => congrArg _ (funext fun x14 => congrArg _ (funext fun x15 => lenOkN (n := 16) (by decide)))))))))))))))))
@[simp ↓] theorem wTup_17 {a0 a1 a2 a3 a4 a5 a6 a7 a8 a9 a10 a11 a12 a13 a14 a15 a16 : WE} : wTup (wCons a0 (wCons a1 (wCons a2 (wCons a3 (wCons a4 (wCons a5 (wCons a6 (wCons a7 (wCons a8 (wCons a9 (wCons a10 (wCons a11 (wCons a12 (wCons a13 (wCons a14 (wCons a15 (wCons a16 wNil))))))))))))))))) R ρ Q = (a0 R ρ fun x0 => a1 R ρ fun x1 => a2 R ρ fun x2 => a3 R ρ fun x3 => a4 R ρ fun x4 => a5 R ρ fun x5 => a6 R ρ fun x6 => a7 R ρ fun x7 => a8 R ρ fun x8 => a9 R ρ fun x9 => a10 R ρ fun x10 => a11 R ρ fun x11 => a12 R ρ fun x12 => a13 R ρ fun x13 => a14 R ρ fun x14 => a15 R ρ fun x15 => a16 R ρ fun x16 => Q (.tup [x0, x1, x2, x3, x4, x5, x6, x7, x8, x9, x10, x11, x12, x13, x14, x15, x16])) := congrArg _ (funext fun x0 => congrArg _ (funext fun x1 => congrArg _ (funext fun x2 => congrArg _ (funext fun x3 => congrArg _ (funext fun x4 => congrArg _ (funext fun x5 => congrArg _ (funext fun x6 => congrArg _ (funext fun x7 => congrArg _ (funext fun x8 => congrArg _ (funext fun x9 => congrArg _ (funext fun x10 => congrArg _ (funext fun x11 => congrArg _ (funext fun x12 => congrArg _ (funext fun x13 => congrArg _ (funext fun x14 => congrArg _ (funext fun x15 => congrArg _ (funext fun x16 => lenOkN (n := 17) (by decide))))))))))))))))))
@[simp ↓] theorem wLst_17 {a0 a1 a2 a3 a4 a5 a6 a7 a8 a9 a10 a11 a12 a13 a14 a15 a16 : WE} : wLst (wCons a0 (wCons a1 (wCons a2 (wCons a3 (wCons a4 (wCons a5 (wCons a6 (wCons a7 (wCons a8 (wCons a9 (wCons a10 (wCons a11 (wCons a12 (wCons a13 (wCons a14 (wCons a15 (wCons a16 wNil))))))))))))))))) R ρ Q = (a0 R ρ fun x0 => a1 R ρ fun x1 => a2 R ρ fun x2 => a3 R ρ fun x3 => a4 R ρ fun x4 => a5 R ρ fun x5 => a6 R ρ fun x6 => a7 R ρ fun x7 => a8 R ρ fun x8 => a9 R ρ fun x9 => a10 R ρ fun x10 => a11 R ρ fun x11 => a12 R ρ fun x12 => a13 R ρ fun x13 => a14 R ρ fun x14 => a15 R ρ fun x15 => a16 R ρ fun x16 => Q (.lst [x0, x1, x2, x3, x4, x5, x6, x7, x8, x9, x10, x11, x12, x13, x14, x15, x16])) := congrArg _ (funext fun x0 => congrArg _ (funext fun x1 => congrArg _ (funext fun x2 => congrArg _ (funext fun x3 => congrArg _ (funext fun x4 => congrArg _ (funext fun x5 => congrArg _ (funext fun x6 => congrArg _ (funext fun x7 => congrArg _ (funext fun x8 => congrArg _ (funext fun x9 => congrArg _ (funext fun x10 => congrArg _ (funext fun x11 => congrArg _ (funext fun x12 => congrArg _ (funext fun x13 => congrArg _ (funext fun x14 => congrArg _ (funext fun x15 => congrArg _ (funext fun x16 => lenOkN (n := 17) (by decide))))))))))))))))))
@[simp ↓] theorem wTup_18 {a0 a1 a2 a3 a4 a5 a6 a7 a8 a9 a10 a11 a12 a13 a14 a15 a16 a17 : WE} : wTup (wCons a0 (wCons a1 (wCons a2 (wCons a3 (wCons a4 (wCons a5 (wCons a6 (wCons a7 (wCons a8 (wCons a9 (wCons a10 (wCons a11 (wCons a12 (wCons a13 (wCons a14 (wCons a15 (wCons a16 (wCons a17 wNil)))))))))))))))))) R ρ Q = (a0 R ρ fun x0 => a1 R ρ fun x1 => a2 R ρ fun x2 => a3 R ρ fun x3 => a4 R ρ fun x4 => a5 R ρ fun x5 => a6 R ρ fun x6 => a7 R ρ fun x7 => a8 R ρ fun x8 => a9 R ρ fun x9 => a10 R ρ fun x10 => a11 R ρ fun x11 => a12 R ρ fun x12 => a13 R ρ fun x13 => a14 R ρ fun x14 => a15 R ρ fun x15 => a16 R ρ fun x16 => a17 R ρ fun x17 => Q (.tup [x0, x1, x2, x3, x4, x5, x6, x7, x8, x9, x10, x11, x12, x13, x14, x15, x16, x17])) := congrArg _ (funext fun x0 => congrArg _ (funext fun x1 => congrArg _ (funext fun x2 => congrArg _ (funext fun x3 => congrArg _ (funext fun x4 => congrArg _ (funext fun x5 => congrArg _ (funext fun x6 => congrArg _ (funext fun x7 => congrArg _ (funext fun x8 => congrArg _ (funext fun x9 => congrArg _ (funext fun x10 => congrArg _ (funext fun x11 => congrArg _ (funext fun x12 => congrArg _ (funext fun x13 => congrArg _ (funext fun x14 => congrArg _ (funext fun x15 => congrArg _ (funext fun x16 => congrArg _ (funext fun x17 => lenOkN (n := 18) (by decide)))))))))))))))))))
@[simp ↓] theorem wLst_18 {a0 a1 a2 a3 a4 a5 a6 a7 a8 a9 a10 a11 a12 a13 a14 a15 a16 a17 : WE} : wLst (wCons a0 (wCons a1 (wCons a2 (wCons a3 (wCons a4 (wCons a5 (wCons a6 (wCons a7 (wCons a8 (wCons a9 (wCons a10 (wCons a11 (wCons a12 (wCons a13 (wCons a14 (wCons a15 (wCons a16 (wCons a17 wNil)))))))))))))))))) R ρ Q = (a0 R ρ fun x0 => a1 R ρ fun x1 => a2 R ρ fun x2 => a3 R ρ fun x3 => a4 R ρ fun x4 => a5 R ρ fun x5 => a6 R ρ fun x6 => a7 R ρ fun x7 => a8 R ρ fun x8 => a9 R ρ fun x9 => a10 R ρ fun x10 => a11 R ρ fun x11 => a12 R ρ fun x12 => a13 R ρ fun x13 => a14 R ρ fun x14 => a15 R ρ fun x15 => a16 R ρ fun x16 => a17 R ρ fun x17 => Q (.lst [x0, x1, x2, x3, x4, x5, x6, x7, x8, x9, x10, x11, x12, x13, x14, x15, x16, x17])) := congrArg _ (funext fun x0 => congrArg _ (funext fun x1 => congrArg _ (funext fun x2 => congrArg _ (funext fun x3 => congrArg _ (funext fun x4 => congrArg _ (funext fun x5 => congrArg _ (funext fun x6 => congrArg _ (funext fun x7 => congrArg _ (funext fun x8 => congrArg _ (funext fun x9 => congrArg _ (funext fun x10 => congrArg _ (funext fun x11 => congrArg _ (funext fun x12 => congrArg _ (funext fun x13 => congrArg _ (funext fun x14 => congrArg _ (funext fun x15 => congrArg _ (funext fun x16 => congrArg _ (funext fun x17 => lenOkN (n := 18) (by decide)))))))))))))))))))
@[simp ↓] theorem wChain_ {g : D → D → (D → Prop) → Prop} : wChain f g Wa Wb Wc R ρ Q = Wa R ρ fun x => Wb R ρ fun y => @opK f x y ⟨fun z => @blK z ⟨fun k => if k = true then Wc R ρ fun z => @opK g y z ⟨Q⟩ else Q (.bl false)⟩⟩ := (rfl)
variable {x y : D} {j : Int} {xs ys : List D}
@[simp ↓] theorem oCmp_int {p : Int → Int → Bool} {i j : Int} : @opK (oCmp p) (.int i) (.int j) ⟨Q⟩ = Q (.bl (p i j)) := (rfl)
@[simp ↓] theorem oAdd_int {i j : Int} : @opK oAdd (.int i) (.int j) ⟨Q⟩ = Q (.int (i + j)) := (rfl)
@[simp ↓] theorem oAdd_tup : @opK oAdd (.tup xs) (.tup ys) ⟨Q⟩ = (xs.length + ys.length ≤ 16777216 ∧ Q (.tup (xs ++ ys))) := (rfl)
@[simp ↓] theorem oAdd_lst : @opK oAdd (.lst xs) (.lst ys) ⟨Q⟩ = (xs.length + ys.length ≤ 16777216 ∧ Q (.lst (xs ++ ys))) := (rfl)
@[simp ↓] theorem oSub_int {i j : Int} : @opK oSub (.int i) (.int j) ⟨Q⟩ = Q (.int (i - j)) := (rfl)
@[simp ↓] theorem oMul_int {i j : Int} : @opK oMul (.int i) (.int j) ⟨Q⟩ = (((-(2 ^ 64) < i ∧ i < 2 ^ 64) ∨ (-(2 ^ 64) < j ∧ j < 2 ^ 64)) ∧ Q (.int (i * j))) := (rfl)
@[simp ↓] theorem oMul_lst {k : Int} : @opK oMul (.lst xs) (.int k) ⟨Q⟩ = (-(2 ^ 63) ≤ k ∧ k < 2 ^ 63 ∧ xs.length * k.toNat ≤ 16777216 ∧ Q (.lst (List.replicate k.toNat xs).flatten)) := (rfl)
@[simp ↓] theorem oMul_tup {k : Int} : @opK oMul (.tup xs) (.int k) ⟨Q⟩ = (xs ≠ [] ∧ 2 ≤ k ∧ k ≤ 1000 ∧ xs.length ≤ 1000 ∧ Q (.tup (List.replicate k.toNat xs).flatten)) := (rfl)
@[simp ↓] theorem oMod_int {i j : Int} : @opK oMod (.int i) (.int j) ⟨Q⟩ = (0 < j ∧ Q (.int (i % j))) := (rfl)
@[simp ↓] theorem oFdiv_int {i j : Int} : @opK oFdiv (.int i) (.int j) ⟨Q⟩ = ((0 < j ∧ j.natAbs.log2 < 9000) ∧ Q (.int (i / j))) := (rfl)
@[simp ↓] theorem oPow_int {i j : Int} : @opK oPow (.int i) (.int j) ⟨Q⟩ = ((0 ≤ j ∧ j ≤ 1000000 ∧ i.natAbs < 2 ^ 64) ∧ Q (.int (i ^ j.toNat))) := (rfl)
@[simp ↓] theorem oNeg_int {i : Int} : @unK oNeg (.int i) ⟨Q⟩ = Q (.int (-i)) := (rfl)
@[simp ↓] theorem oEq_ : @opK oEq x y ⟨Q⟩ = (okD x ∧ okD y ∧ Q (.bl (deq x y))) := (rfl)
@[simp ↓] theorem oNe_ : @opK oNe x y ⟨Q⟩ = (okD x ∧ okD y ∧ Q (.bl (!deq x y))) := (rfl)
@[simp ↓] theorem oIsN_non : @opK oIsN x .non ⟨Q⟩ = Q (.bl (isNon x)) := (rfl)
@[simp ↓] theorem oIsN_bl {k : Bool} : @opK oIsN x (.bl k) ⟨Q⟩ = Q (.bl (isBl k x)) := (rfl)
@[simp ↓] theorem oNotN_non : @opK oNotN x .non ⟨Q⟩ = Q (.bl (!isNon x)) := (rfl)
@[simp ↓] theorem oNotN_bl {k : Bool} : @opK oNotN x (.bl k) ⟨Q⟩ = Q (.bl (!isBl k x)) := (rfl)
@[simp ↓] theorem oIn_false : @opK (oIn false) x y ⟨Q⟩ = @optK _ (seqOf y) ⟨fun ds => ((flatD x = true ∧ ds.all flatD = true) ∨ (isLst y = true ∧ okD x ∧ okD y)) ∧ Q (.bl (ds.any fun z => deq z x))⟩ := (rfl)
@[simp ↓] theorem oIn_true : @opK (oIn true) x y ⟨Q⟩ = @optK _ (seqOf y) ⟨fun ds => ((flatD x = true ∧ ds.all flatD = true) ∨ (isLst y = true ∧ okD x ∧ okD y)) ∧ Q (.bl (!ds.any fun z => deq z x))⟩ := (rfl)
@[simp ↓] theorem oIx_ {i : Int} : @opK oIx x (.int i) ⟨Q⟩ = @optK _ ((seqOf x).bind fun ds => atI ds i) ⟨Q⟩ := propext ⟨fun ⟨ds, x', e1, e2, q⟩ => ⟨x', by rw [e1]; exact e2, q⟩, fun ⟨x', e, q⟩ => by
  cases h : seqOf x with
  | none => rw [h] at e; cases e
  | some ds => rw [h] at e; exact ⟨ds, x', h, e, q⟩⟩
variable {QO : Option Int → Prop} {Wl Wh : WO} {lo hi : Option Int}
@[simp ↓] theorem wNo_ : wNo R ρ QO = QO none := (rfl)
@[simp ↓] theorem wSo_ : wSo Wa R ρ QO = Wa R ρ fun d => @intK d ⟨fun i => QO (some i)⟩ := (rfl)
@[simp ↓] theorem wCut_ : wCut Wa Wl Wh R ρ Q = Wa R ρ fun x => Wl R ρ fun lo => Wh R ρ fun hi => @cutK lo hi x ⟨Q⟩ := (rfl)
@[simp ↓] theorem oCut_tup : @cutK lo hi (.tup xs) ⟨Q⟩ = Q (.tup (cutD xs lo hi)) := (rfl)
@[simp ↓] theorem oCut_lst : @cutK lo hi (.lst xs) ⟨Q⟩ = Q (.lst (cutD xs lo hi)) := (rfl)
/-! calls -/
@[simp ↓] theorem wCall_ {φ : AS} : wCall φ Wr R ρ Q = Wr R ρ fun ds => @caK φ ds ⟨Q⟩ ⟨R⟩ := (rfl)
@[simp ↓] theorem wCallS_ {φ : AS} : wCallS i φ Wr R ρ Q = @sttS (gt ρ i) ⟨Wr R ρ fun ds => @caK φ ds ⟨Q⟩ ⟨R⟩⟩ := (rfl)
@[simp ↓] theorem wB_ {φ : BS} : wB φ Wr R ρ Q = Wr R ρ fun ds => @bK φ ds ⟨Q⟩ := (rfl)
@[simp ↓] theorem bLen_ : @bK bLen [x] ⟨Q⟩ = @optK _ (seqOf x) ⟨fun es => Q (.int es.length)⟩ := (rfl)
@[simp ↓] theorem bMax_ {i j : Int} : @bK bMax [.int i, .int j] ⟨Q⟩ = Q (.int (max i j)) := (rfl)
@[simp ↓] theorem bMin_ {i j : Int} : @bK bMin [.int i, .int j] ⟨Q⟩ = Q (.int (min i j)) := (rfl)
@[simp ↓] theorem bInt_int {i : Int} : @bK bInt [.int i] ⟨Q⟩ = Q (.int i) := (rfl)
@[simp ↓] theorem bInt_bl {k : Bool} : @bK bInt [.bl k] ⟨Q⟩ = Q (.int (if k then 1 else 0)) := (rfl)
@[simp ↓] theorem bAbs_int {i : Int} : @bK bAbs [.int i] ⟨Q⟩ = Q (.int (if i < 0 then -i else i)) := (rfl)
@[simp ↓] theorem bTup_ : @bK bTup [x] ⟨Q⟩ = @optK _ (seqOf x) ⟨fun es => Q (.tup es)⟩ := (rfl)
@[simp ↓] theorem bLst_ : @bK bLst [x] ⟨Q⟩ = @optK _ (seqOf x) ⟨fun es => Q (.lst es)⟩ := (rfl)
@[simp ↓] theorem wIsi_ {T : PT} : wIsi T Wa R ρ Q = Wa R ρ fun d => (noIns d = true ∧ Q (.bl (isB T d))) := (rfl)
/-! statements -/
@[simp ↓] theorem ws0_ : ws0 RR E ρ = E.nx ρ := (rfl)
@[simp ↓] theorem wsC_ : wsC A B RR E ρ = A RR { E with nx := B RR E } ρ := (rfl)
@[simp ↓] theorem wRet_ : wRet Wa RR E ρ = Wa (fun ex => RR ex ρ) ρ (E.rt ρ) := (rfl)
@[simp ↓] theorem wRetN_ : wRetN RR E ρ = E.rt ρ .non := (rfl)
@[simp ↓] theorem wDrop_ : wDrop Wa RR E ρ = Wa (fun ex => RR ex ρ) ρ fun _ => E.nx ρ := (rfl)
@[simp ↓] theorem wIfS_ : wIfS Wt A B RR E ρ = Wt (fun ex => RR ex ρ) ρ fun k => if k = true then A RR E ρ else B RR E ρ := (rfl)
@[simp ↓] theorem wSet_ : wSet i Wa RR E ρ = Wa (fun ex => RR ex ρ) ρ fun d => E.nx (ρ.set i (.val d)) := (rfl)
@[simp ↓] theorem wNew_ : wNew i Wa RR E ρ = Wa (fun ex => RR ex ρ) ρ fun d => @lstK d ⟨fun ds => E.nx (ρ.set i (.own none ds))⟩ := (rfl)
def sttK (d : D) [K : Kp] : Prop := match d with | .lst [.int _] => K.r | _ => False
@[simp ↓] theorem sttK_ {n : Int} {Q : Prop} : @sttK (.lst [.int n]) ⟨Q⟩ = Q := (rfl)
@[simp ↓] theorem wStt_ : wStt i Wa RR E ρ = Wa (fun ex => RR ex ρ) ρ fun d => @sttK d ⟨E.nx (ρ.set i .stt)⟩ := (rfl)
@[simp ↓] theorem wAsg_ : wAsg Wa g RR E ρ = Wa (fun ex => RR ex ρ) ρ fun d => g d ρ E.nx := (rfl)
@[simp ↓] theorem wMove_ : wMove i A RR E ρ = @ownS (gt ρ i) ⟨fun _ ds => A RR E (ρ.set i (.val (.lst ds)))⟩ := (rfl)
@[simp ↓] theorem wBrk_ : wBrk RR E ρ = E.bk ρ := (rfl)
@[simp ↓] theorem wCnt_ : wCnt RR E ρ = E.ct ρ := (rfl)
@[simp ↓] theorem wOwnS_ {f : List D → List D} : wOwnS i f RR E ρ = @ownS (gt ρ i) ⟨fun oa ds => E.nx (ρ.set i (.own oa (f ds)))⟩ := (rfl)
@[simp ↓] theorem wApp_ : wApp i Wa RR E ρ = @ownS (gt ρ i) ⟨fun oa ds => Wa (fun ex => RR ex ρ) ρ fun d => ds.length < 16777216 ∧ E.nx (ρ.set i (.own oa (ds ++ [d])))⟩ := (rfl)
@[simp ↓] theorem wExt_ : wExt i Wa RR E ρ = @ownS (gt ρ i) ⟨fun oa ds => Wa (fun ex => RR ex ρ) ρ fun d => @lstK d ⟨fun es => ds.length + es.length ≤ 16777216 ∧ E.nx (ρ.set i (.own oa (ds ++ es)))⟩⟩ := by
  unfold wExt ownS
  cases gt ρ i <;> try rfl
  rename_i oa ds
  show Wa _ _ _ = Wa _ _ _
  congr 1
  funext d
  refine propext ⟨?_, fun h => ?_⟩
  · rintro ⟨es, rfl, h⟩; exact h
  · cases d <;> first | exact h.elim | exact ⟨_, rfl, h⟩
@[simp ↓] theorem wSetIx_ {Wx : WE} : wSetIx i Wx Wa RR E ρ = @ownS (gt ρ i) ⟨fun oa ds => Wa (fun ex => RR ex ρ) ρ fun d => Wx (fun ex => RR ex ρ) ρ fun ix => @intK ix ⟨fun j => @optK _ (ixN ds.length j) ⟨fun k => E.nx (ρ.set i (.own oa (ds.set k d)))⟩⟩⟩ := (rfl)
@[simp ↓] theorem wRai_ {C : Addr} : wRai C RR E ρ = RR ⟨C, [], []⟩ ρ := (rfl)
@[simp ↓] theorem wFor_ : wFor Wi g A RR E ρ = Wi (fun ex => RR ex ρ) ρ fun ds => @forK ds ρ ⟨g, A, RR, E⟩ := (rfl)
@[simp ↓] theorem forW_nil : @forK [] ρ ⟨g, A, RR, E⟩ = E.nx ρ := (rfl)
@[simp ↓] theorem forW_cons : @forK (d :: xs) ρ ⟨g, A, RR, E⟩ = g d ρ fun ρ' => A RR { nx := fun ρ' => @forK xs ρ' ⟨g, A, RR, E⟩, rt := E.rt, bk := E.nx, ct := fun ρ' => @forK xs ρ' ⟨g, A, RR, E⟩ } ρ' := (rfl)
variable {QR : Rho → Prop} {g1 : WG}
@[simp ↓] theorem gN_ : gN i d ρ QR = QR (ρ.set i (.val d)) := (rfl)
@[simp ↓] theorem gT_ : gT gs d ρ QR = @tupK d ⟨fun ds => @gsK gs ds ρ ⟨QR⟩⟩ := (rfl)
@[simp ↓] theorem gs0_ : @gsK gs0 [] ρ ⟨QR⟩ = QR ρ := (rfl)
@[simp ↓] theorem gs1_ : @gsK (gs1 g gs) (d :: xs) ρ ⟨QR⟩ = g d ρ fun ρ' => @gsK gs xs ρ' ⟨QR⟩ := (rfl)
@[simp ↓] theorem wSeq_ : wSeq Wa R ρ QL = Wa R ρ fun d => @optK _ (seqOf d) ⟨QL⟩ := (rfl)
def rngK1 (ds : List D) [K : Kn (List D)] : Prop := match ds with | [.int j] => (-(2 ^ 62) ≤ j ∧ j < 2 ^ 62) ∧ K.r (rngL 0 j.toNat) | _ => False
def rngK2 (ds : List D) [K : Kn (List D)] : Prop := match ds with | [.int i, .int j] => (-(2 ^ 62) ≤ i ∧ i < 2 ^ 62 ∧ -(2 ^ 62) ≤ j ∧ j < 2 ^ 62) ∧ K.r (rngL i (j - i).toNat) | _ => False
@[simp ↓] theorem wRng1_ : wRng1 Wr R ρ QL = Wr R ρ fun ds => @rngK1 ds ⟨QL⟩ := (rfl)
@[simp ↓] theorem wRng2_ : wRng2 Wr R ρ QL = Wr R ρ fun ds => @rngK2 ds ⟨QL⟩ := (rfl)
@[simp ↓] theorem rngK1_ {j : Int} : @rngK1 [.int j] ⟨QL⟩ = ((-(2 ^ 62) ≤ j ∧ j < 2 ^ 62) ∧ QL (rngL 0 j.toNat)) := (rfl)
@[simp ↓] theorem rngK2_ {i j : Int} : @rngK2 [.int i, .int j] ⟨QL⟩ = ((-(2 ^ 62) ≤ i ∧ i < 2 ^ 62 ∧ -(2 ^ 62) ≤ j ∧ j < 2 ^ 62) ∧ QL (rngL i (j - i).toNat)) := (rfl)
def enK (ds : List D) [K : Kn (List D)] : Prop := match ds with | [d] => @optK _ (seqOf d) ⟨fun es => K.r (enumD 0 es)⟩ | _ => False
def zpK (ds : List D) [K : Kn (List D)] : Prop := match ds with | [d, e] => @optK _ (seqOf d) ⟨fun xs => @optK _ (seqOf e) ⟨fun ys => K.r (zipD xs ys)⟩⟩ | _ => False
@[simp ↓] theorem wEnum_ : wEnum Wr R ρ QL = Wr R ρ fun ds => @enK ds ⟨QL⟩ := (rfl)
@[simp ↓] theorem wZip_ : wZip Wr R ρ QL = Wr R ρ fun ds => @zpK ds ⟨QL⟩ := by
  unfold wZip
  congr 1
  funext ds
  match ds with
  | [] => rfl
  | [_] => rfl
  | [d, e] => exact propext ⟨fun ⟨xs, ys, e1, e2, q⟩ => ⟨xs, e1, ys, e2, q⟩, fun ⟨xs, e1, ys, e2, q⟩ => ⟨xs, ys, e1, e2, q⟩⟩
  | _ :: _ :: _ :: _ => rfl
@[simp ↓] theorem enK_ : @enK [d] ⟨QL⟩ = @optK _ (seqOf d) ⟨fun es => QL (enumD 0 es)⟩ := (rfl)
@[simp ↓] theorem zpK_ : @zpK [x, y] ⟨QL⟩ = @optK _ (seqOf x) ⟨fun xs => @optK _ (seqOf y) ⟨fun ys => QL (zipD xs ys)⟩⟩ := (rfl)
@[simp ↓] theorem wLc_ {vs : List Nat} : wLc Wi g Wt We vs R ρ Q = (noMut ρ vs ∧ Wi R ρ fun ds => ds.length ≤ 16777216 ∧ @compK (wipeR ρ vs) ds [] ⟨g, Wt, We, fun ys => Q (.lst ys)⟩) := (rfl)
@[simp] theorem noMut_nil : noMut ρ [] = True := propext ⟨fun _ => trivial, fun _ _ h => (by cases h)⟩
@[simp] theorem noMut_cons {v : Nat} {vs : List Nat} : noMut ρ (v :: vs) = (¬ isMut (gt ρ v) ∧ noMut ρ vs) := propext ⟨fun h => ⟨h v (List.mem_cons_self ..), fun u hu => h u (List.mem_cons_of_mem _ hu)⟩, fun ⟨h1, h2⟩ u hu => by
  rcases List.mem_cons.mp hu with rfl | hu
  · exact h1
  · exact h2 u hu⟩
@[simp] theorem wipeR_nil : wipeR ρ [] = ρ := (rfl)
@[simp] theorem wipeR_cons {v : Nat} {vs : List Nat} : wipeR ρ (v :: vs) = (wipeR ρ vs).set v .un := (rfl)
@[simp] theorem isMut_un : isMut .un = False := (rfl)
@[simp] theorem isMut_val : isMut (.val d) = False := (rfl)
@[simp] theorem isMut_exc {ex : EX} {a : Addr} {o : Option Addr} : isMut (.exc ex a o) = False := (rfl)
@[simp ↓] theorem wTry_ {K : PySem.W.Frag} {l : List (Addr × Option Nat × WH)} : wTry K l A RR E ρ = A (wHands K RR E l) E ρ := (rfl)
@[simp ↓] theorem wHands_nil {K : PySem.W.Frag} {ex : EX} : wHands K RR E [] ex ρ = RR ex ρ := (rfl)
@[simp ↓] theorem wHands_cons {K : PySem.W.Frag} {ex : EX} {C : Addr} {Ws : WH} {r : List (Addr × Option Nat × WH)} : wHands K RR E ((C, none, Ws) :: r) ex ρ =
    @optK _ (PySem.W.exmOne K (.ref ex.C) (.ref C)) ⟨fun b => if b = true then ∀ a d, (ex.ns = [] → d = none) → Ws a (.ref ex.C) d (fun _ _ => False) E ρ else wHands K RR E r ex ρ⟩ := propext ⟨fun ⟨b, e, h1, h2⟩ => ⟨b, e, (by cases b <;> simp_all)⟩, fun ⟨b, e, h⟩ => ⟨b, e, by cases b <;> simp_all⟩⟩
@[simp ↓] theorem wHands_named {K : PySem.W.Frag} {ex : EX} {C : Addr} {i : Nat} {Ws : WH} {r : List (Addr × Option Nat × WH)} : wHands K RR E ((C, some i, Ws) :: r) ex ρ =
    @optK _ (PySem.W.exmOne K (.ref ex.C) (.ref C)) ⟨fun b => if b = true then ∀ a d, (ex.ns = [] → d = none) → Ws a (.ref ex.C) d (fun _ _ => False) { nx := fun ρ' => E.nx (ρ'.set i .un), rt := E.rt, bk := fun ρ' => E.bk (ρ'.set i .un), ct := fun ρ' => E.ct (ρ'.set i .un) } (ρ.set i (.exc ex a d)) else wHands K RR E r ex ρ⟩ := propext ⟨fun ⟨b, e, h1, h2⟩ => ⟨b, e, (by cases b <;> simp_all)⟩, fun ⟨b, e, h⟩ => ⟨b, e, by cases b <;> simp_all⟩⟩
class Kx where
  r : EX → Addr → Option Addr → Prop
def excS (s : Slot) [K : Kx] : Prop := match s with | .exc ex a d => K.r ex a d | _ => False
@[simp ↓] theorem excS_exc {ex : EX} {a : Addr} {o : Option Addr} {Q : EX → Addr → Option Addr → Prop} : @excS (.exc ex a o) ⟨Q⟩ = Q ex a o := (rfl)
@[simp ↓] theorem wExF_ {a : Addr} {cls : Value} {o : Option Addr} {f : Str} : wExF i a cls o f R ρ Q = @excS (gt ρ i) ⟨fun ex a' d' => a' = a ∧ d' = o ∧ cls = .ref ex.C ∧ @optK _ ((ex.ns.zip ex.ds).lookup f) ⟨Q⟩⟩ := (rfl)
@[simp ↓] theorem wIsE_ {K : PySem.W.Frag} {a : Addr} {cls : Value} {o : Option Addr} {C C2 : Addr} : wIsE K i a cls o C C2 R ρ Q = @excS (gt ρ i) ⟨fun ex a' d' => a' = a ∧ d' = o ∧ o = none ∧ cls = .ref C ∧ @optK _ (PySem.W.kitOne K (.ref C) (.ref C2)) ⟨fun b => Q (.bl b)⟩⟩ := (rfl)
/-! data -/
@[simp] theorem seqOf_tup : seqOf (.tup xs) = some xs := (rfl)
@[simp] theorem seqOf_lst : seqOf (.lst xs) = some xs := (rfl)
@[simp] theorem seqOf_scr {ns : List Int} : seqOf (.scr ns) = some (ns.map D.int) := (rfl)
@[simp] theorem isLst_tup : isLst (.tup xs) = false := (rfl)
@[simp] theorem isLst_lst : isLst (.lst xs) = true := (rfl)
@[simp] theorem flat_non : flatD .non = true := (rfl)
@[simp] theorem flat_bl {b : Bool} : flatD (.bl b) = true := (rfl)
@[simp] theorem flat_int {b : Int} : flatD (.int b) = true := (rfl)
@[simp] theorem flat_str {b : Str} : flatD (.str b) = true := (rfl)
@[simp] theorem flat_tup : flatD (.tup xs) = false := (rfl)
@[simp] theorem flat_lst : flatD (.lst xs) = false := (rfl)
@[simp] theorem isNon_non : isNon .non = true := (rfl)
@[simp] theorem isNon_int {i : Int} : isNon (.int i) = false := (rfl)
@[simp] theorem isNon_bl {i : Bool} : isNon (.bl i) = false := (rfl)
@[simp] theorem isNon_str {i : Str} : isNon (.str i) = false := (rfl)
@[simp] theorem isNon_tup : isNon (.tup xs) = false := (rfl)
@[simp] theorem isNon_lst : isNon (.lst xs) = false := (rfl)
@[simp] theorem isBl_bl {i k : Bool} : isBl k (.bl i) = (i == k) := (rfl)
@[simp] theorem slots0_ {N ps : List Str} : slots0 N ps xs = xs.map .val ++ List.replicate (N.length - ps.length) .un := (rfl)
@[simp] theorem slotsS_ {N ps : List Str} : slotsS N ps xs = .stt :: xs.map .val ++ List.replicate (N.length - ps.length) .un := (rfl)
end
/-! equality -/
def deqs (ds es : List D) : Bool := PyData.eqvAll (toPys ds) (toPys es)
@[simp] theorem deqs_nil : deqs [] [] = true := (rfl)
@[simp] theorem deqs_cons {d e : D} {ds es : List D} : deqs (d :: ds) (e :: es) = (deq d e && deqs ds es) := (rfl)
@[simp] theorem deqs_nc {e : D} {es : List D} : deqs [] (e :: es) = false := (rfl)
@[simp] theorem deqs_cn {e : D} {es : List D} : deqs (e :: es) [] = false := (rfl)
@[simp] theorem deq_non_non : deq .non .non = true := (rfl)
@[simp] theorem deq_non_bl {b : Bool} : deq .non (.bl b) = false := (rfl)
@[simp] theorem deq_non_int {b : Int} : deq .non (.int b) = false := (rfl)
@[simp] theorem deq_non_str {b : Str} : deq .non (.str b) = false := (rfl)
@[simp] theorem deq_non_tup {b : List D} : deq .non (.tup b) = false := (rfl)
@[simp] theorem deq_non_lst {b : List D} : deq .non (.lst b) = false := (rfl)
@[simp] theorem deq_bl_non {a : Bool} : deq (.bl a) .non = false := (rfl)
@[simp] theorem deq_bl_bl {a : Bool} {b : Bool} : deq (.bl a) (.bl b) = (a == b) := (rfl)
@[simp] theorem deq_bl_int {a : Bool} {b : Int} : deq (.bl a) (.int b) = ((if a then 1 else 0) == b) := (rfl)
@[simp] theorem deq_bl_str {a : Bool} {b : Str} : deq (.bl a) (.str b) = false := (rfl)
@[simp] theorem deq_bl_tup {a : Bool} {b : List D} : deq (.bl a) (.tup b) = false := (rfl)
@[simp] theorem deq_bl_lst {a : Bool} {b : List D} : deq (.bl a) (.lst b) = false := (rfl)
@[simp] theorem deq_int_non {a : Int} : deq (.int a) .non = false := (rfl)
@[simp] theorem deq_int_bl {a : Int} {b : Bool} : deq (.int a) (.bl b) = (a == (if b then 1 else 0)) := (rfl)
@[simp] theorem deq_int_int {a : Int} {b : Int} : deq (.int a) (.int b) = (a == b) := (rfl)
@[simp] theorem deq_int_str {a : Int} {b : Str} : deq (.int a) (.str b) = false := (rfl)
@[simp] theorem deq_int_tup {a : Int} {b : List D} : deq (.int a) (.tup b) = false := (rfl)
@[simp] theorem deq_int_lst {a : Int} {b : List D} : deq (.int a) (.lst b) = false := (rfl)
@[simp] theorem deq_str_non {a : Str} : deq (.str a) .non = false := (rfl)
@[simp] theorem deq_str_bl {a : Str} {b : Bool} : deq (.str a) (.bl b) = false := (rfl)
@[simp] theorem deq_str_int {a : Str} {b : Int} : deq (.str a) (.int b) = false := (rfl)
@[simp] theorem deq_str_str {a : Str} {b : Str} : deq (.str a) (.str b) = (a == b) := (rfl)
@[simp] theorem deq_str_tup {a : Str} {b : List D} : deq (.str a) (.tup b) = false := (rfl)
@[simp] theorem deq_str_lst {a : Str} {b : List D} : deq (.str a) (.lst b) = false := (rfl)
@[simp] theorem deq_tup_non {a : List D} : deq (.tup a) .non = false := (rfl)
@[simp] theorem deq_tup_bl {a : List D} {b : Bool} : deq (.tup a) (.bl b) = false := (rfl)
@[simp] theorem deq_tup_int {a : List D} {b : Int} : deq (.tup a) (.int b) = false := (rfl)
@[simp] theorem deq_tup_str {a : List D} {b : Str} : deq (.tup a) (.str b) = false := (rfl)
@[simp] theorem deq_tup_tup {a : List D} {b : List D} : deq (.tup a) (.tup b) = deqs a b := (rfl)
@[simp] theorem deq_tup_lst {a : List D} {b : List D} : deq (.tup a) (.lst b) = false := (rfl)
@[simp] theorem deq_lst_non {a : List D} : deq (.lst a) .non = false := (rfl)
@[simp] theorem deq_lst_bl {a : List D} {b : Bool} : deq (.lst a) (.bl b) = false := (rfl)
@[simp] theorem deq_lst_int {a : List D} {b : Int} : deq (.lst a) (.int b) = false := (rfl)
@[simp] theorem deq_lst_str {a : List D} {b : Str} : deq (.lst a) (.str b) = false := (rfl)
@[simp] theorem deq_lst_tup {a : List D} {b : List D} : deq (.lst a) (.tup b) = false := (rfl)
@[simp] theorem deq_lst_lst {a : List D} {b : List D} : deq (.lst a) (.lst b) = deqs a b := (rfl)
def okM (n : Nat) (d : D) : Prop := PyData.canLay0 (toPy d) = true ∧ (toPy d).depth ≤ n
@[simp] theorem okD_M (d : D) : okD d = okM 64 d := by
  unfold okD SeqAt.shaped okM
  rw [Bool.and_eq_true, decide_eq_true_eq]
@[simp] theorem okM_non {n : Nat} : okM n .non = True := propext ⟨fun _ => trivial, fun _ => ⟨rfl, Nat.zero_le _⟩⟩
@[simp] theorem okM_bl {n : Nat} {b : Bool} : okM n (.bl b) = True := propext ⟨fun _ => trivial, fun _ => ⟨rfl, Nat.zero_le _⟩⟩
@[simp] theorem okM_int {n : Nat} {b : Int} : okM n (.int b) = True := propext ⟨fun _ => trivial, fun _ => ⟨rfl, Nat.zero_le _⟩⟩
@[simp] theorem okM_str {n : Nat} {b : Str} : okM n (.str b) = (PyData.canLay0 (.str b) = true) := propext ⟨fun h => h.1, fun h => ⟨h, Nat.zero_le _⟩⟩
theorem okM.mono {n m : Nat} {d : D} (h : okM n d) (hm : n ≤ m) : okM m d := ⟨h.1, Nat.le_trans h.2 hm⟩
theorem okMs {n : Nat} : ∀ ds : List D, (PyData.canLayAll0 (toPys ds) = true ∧ PyData.depthAll (toPys ds) ≤ n) ↔ ∀ d ∈ ds, okM n d
  | [] => ⟨fun _ _ h => (by cases h), fun _ => ⟨rfl, Nat.zero_le _⟩⟩
  | d :: ds => by
    have ih := okMs (n := n) ds
    rw [List.forall_mem_cons, ← ih]
    show (PyData.canLay0 (toPy d) && PyData.canLayAll0 (toPys ds)) = true ∧ max _ _ ≤ n ↔ _
    unfold okM
    rw [Bool.and_eq_true, Nat.max_le]
    constructor
    · rintro ⟨⟨a, b⟩, c, d⟩; exact ⟨⟨a, c⟩, b, d⟩
    · rintro ⟨⟨a, c⟩, b, d⟩; exact ⟨⟨a, b⟩, c, d⟩
@[simp] theorem okM_tup {n : Nat} {ds : List D} : okM (n + 1) (.tup ds) = ∀ d ∈ ds, okM n d := propext (by
  rw [← okMs]
  show _ ∧ PyData.depthAll (toPys ds) + 1 ≤ n + 1 ↔ _
  rw [Nat.add_le_add_iff_right]; rfl)
@[simp] theorem okM_lst {n : Nat} {ds : List D} : okM (n + 1) (.lst ds) = ∀ d ∈ ds, okM n d := propext (by
  rw [← okMs]
  show _ ∧ PyData.depthAll (toPys ds) + 1 ≤ n + 1 ↔ _
  rw [Nat.add_le_add_iff_right]; rfl)
theorem toNat_inj {a b : Char} (h : a.toNat = b.toNat) : a = b := Char.toNat_inj.mp h
@[simp] theorem ofS_inj {a b : String} : (Str.ofString a = Str.ofString b) = (a = b) := propext ⟨fun h => by
  rw [Str.ofString_eq_toList, Str.ofString_eq_toList] at h
  have h1 : (a.toList.map Char.toNat) = (b.toList.map Char.toNat) := by simpa using h
  have h2 : a.toList = b.toList := List.map_inj_right (fun x y e => toNat_inj e) |>.mp h1
  exact String.toList_inj.mp h2, fun h => by rw [h]⟩
@[simp] theorem ofS_beq {a b : String} : (Str.ofString a == Str.ofString b) = (a == b) := by
  rw [Bool.eq_iff_iff]; simp
@[simp] theorem lay_str {a : String} : (PyData.str (Str.ofString a)).canLay0 = true := by
  show PyData.canLay0 _ = true
  unfold PyData.canLay0
  unfold PyData.strOk
  rw [Str.ofString_eq_toList]
  simp
  intro x hx
  have := x.valid
  have : x.toNat < 1114112 := by
    rcases x.valid with h | ⟨h1, h2⟩
    · show x.val.toNat < _; omega
    · show x.val.toNat < _; omega
  exact this
theorem at_pick {xs : List D} {y : Int} {Q : D → Prop} (h0 : 0 ≤ y) (h1 : y < (xs.length : Nat)) (h : ∀ d ∈ xs, Q d) : @optK _ (atI xs y) ⟨Q⟩ := by
  have hl : y.toNat < xs.length := by omega
  refine ⟨xs[y.toNat], ?_, h _ (List.getElem_mem hl)⟩
  unfold atI ixN
  rw [if_pos h0, if_pos h1]
  exact List.getElem?_eq_getElem hl
/-! no instances within -/
mutual
def pln : D → Bool
  | .tup ds => decide (ds.length ≤ 16777216) && plns ds
  | .lst ds => decide (ds.length ≤ 16777216) && plns ds
  | .ins _ _ _ => false
  | .dic _ _ => false
  | _ => true
def plns : List D → Bool
  | [] => true
  | d :: ds => pln d && plns ds
end
@[simp] theorem pln_non : pln .non = true := by simp only [pln]
@[simp] theorem pln_bl {b : Bool} : pln (.bl b) = true := by simp only [pln]
@[simp] theorem pln_int {b : Int} : pln (.int b) = true := by simp only [pln]
@[simp] theorem pln_str {b : Str} : pln (.str b) = true := by simp only [pln]
@[simp] theorem pln_edic : pln .edic = true := by simp only [pln]
@[simp] theorem pln_dic {ks ds : List D} : pln (.dic ks ds) = false := by simp only [pln]
@[simp] theorem pln_tup {ds : List D} : pln (.tup ds) = (decide (ds.length ≤ 16777216) && plns ds) := by simp only [pln]
@[simp] theorem pln_lst {ds : List D} : pln (.lst ds) = (decide (ds.length ≤ 16777216) && plns ds) := by simp only [pln]
@[simp] theorem plns_nil : plns [] = true := by simp only [plns]
@[simp] theorem plns_cons {d : D} {ds : List D} : plns (d :: ds) = (pln d && plns ds) := by simp only [plns]
theorem plns_all : ∀ ds : List D, plns ds = ds.all pln
  | [] => by simp
  | d :: ds => by rw [plns_cons, List.all_cons, plns_all ds]
@[simp] theorem plns_map {α : Type} (f : α → D) (xs : List α) : plns (xs.map f) = xs.all fun x => pln (f x) := by
  rw [plns_all, List.all_map]; rfl
@[simp] theorem plns_append (xs ys : List D) : plns (xs ++ ys) = (plns xs && plns ys) := by
  simp only [plns_all, List.all_append]
theorem pln_no {d : D} (h : pln d = true) : noIns d = true := by cases d <;> simp [pln] at h <;> rfl
@[simp] theorem isB_int {b : PT} {i : Int} : isB b (.int i) = (match b with | .int => true | _ => false) := by cases b <;> rfl
@[simp] theorem isB_bl {b : PT} {i : Bool} : isB b (.bl i) = (match b with | .int => true | .bool => true | _ => false) := by cases b <;> rfl
@[simp] theorem isB_str {b : PT} {i : Str} : isB b (.str i) = (match b with | .str => true | _ => false) := by cases b <;> rfl
@[simp] theorem isB_tup {b : PT} {i : List D} : isB b (.tup i) = (match b with | .tuple => true | _ => false) := by cases b <;> rfl
@[simp] theorem isB_lst {b : PT} {i : List D} : isB b (.lst i) = (match b with | .list => true | _ => false) := by cases b <;> rfl
@[simp] theorem isB_non {b : PT} : isB b .non = false := by cases b <;> rfl
@[simp] theorem isB_edic {b : PT} : isB b .edic = (match b with | .dict => true | _ => false) := by cases b <;> rfl
@[simp] theorem isB_scr {b : PT} {i : List Int} : isB b (.scr i) = (match b with | .list => true | _ => false) := by cases b <;> rfl
@[simp] theorem noIns_non : noIns .non = true := (rfl)
@[simp] theorem noIns_bl {b : Bool} : noIns (.bl b) = true := (rfl)
@[simp] theorem noIns_int {b : Int} : noIns (.int b) = true := (rfl)
@[simp] theorem noIns_str {b : Str} : noIns (.str b) = true := (rfl)
@[simp] theorem noIns_tup {b : List D} : noIns (.tup b) = true := (rfl)
@[simp] theorem noIns_lst {b : List D} : noIns (.lst b) = true := (rfl)
@[simp] theorem noIns_edic : noIns .edic = true := (rfl)
@[simp] theorem noIns_scr {b : List Int} : noIns (.scr b) = true := (rfl)
theorem pln_tup_of {xs : List D} (h : ∀ x ∈ xs, pln x = true) (hl : xs.length ≤ 16777216) : pln (.tup xs) = true := by
  rw [pln_tup, decide_eq_true hl, Bool.true_and, plns_all, List.all_eq_true]; exact h
theorem pln_lst_of {xs : List D} (h : ∀ x ∈ xs, pln x = true) (hl : xs.length ≤ 16777216) : pln (.lst xs) = true := by
  rw [pln_lst, decide_eq_true hl, Bool.true_and, plns_all, List.all_eq_true]; exact h
theorem mem_cutD {xs : List D} {lo hi : Option Int} {x : D} (h : x ∈ cutD xs lo hi) : x ∈ xs := List.mem_of_mem_drop (List.mem_of_mem_take h)
theorem len_cutD {xs : List D} {lo hi : Option Int} : (cutD xs lo hi).length ≤ xs.length := by
  unfold cutD
  rw [List.length_take, List.length_drop]
  omega
def strsOf : List D → Option (List Str)
  | [] => some []
  | .str x :: r => (strsOf r).map (x :: ·)
  | _ => none
@[simp] theorem strsOf_nil : strsOf [] = some [] := (rfl)
@[simp] theorem strsOf_cons {x : Str} {r : List D} : strsOf (.str x :: r) = (strsOf r).map (x :: ·) := (rfl)
theorem strsOf_eq : ∀ {ds : List D} {xs : List Str}, strsOf ds = some xs → ds = xs.map D.str
  | [], _, h => by cases h; rfl
  | .str x :: r, xs, h => by
    rw [strsOf_cons] at h
    obtain ⟨ys, e, rfl⟩ := Option.map_eq_some_iff.mp h
    rw [strsOf_eq e]; rfl
  | .non :: _, _, h => by cases h
  | .bl _ :: _, _, h => by cases h
  | .int _ :: _, _, h => by cases h
  | .tup _ :: _, _, h => by cases h
  | .lst _ :: _, _, h => by cases h
  | .edic :: _, _, h => by cases h
  | .dic _ _ :: _, _, h => by cases h
  | .scr _ :: _, _, h => by cases h
  | .ins _ _ _ :: _, _, h => by cases h
/-! built-ins over lists -/
def intsOf : List D → Option (List Int)
  | [] => some []
  | .int x :: r => (intsOf r).map (x :: ·)
  | _ => none
@[simp] theorem intsOf_nil : intsOf [] = some [] := (rfl)
@[simp] theorem intsOf_cons {x : Int} {r : List D} : intsOf (.int x :: r) = (intsOf r).map (x :: ·) := (rfl)
@[simp] theorem intsOf_map {α : Type} (f : α → Int) : ∀ xs : List α, intsOf (xs.map fun x => .int (f x)) = some (xs.map f)
  | [] => rfl
  | x :: xs => by rw [List.map_cons, intsOf_cons, intsOf_map f xs]; rfl
@[simp] theorem intsOf_ints (xs : List Int) : intsOf (xs.map D.int) = some xs := by
  have := intsOf_map id xs
  simpa using this
theorem intsOf_eq : ∀ {ds : List D} {xs : List Int}, intsOf ds = some xs → ds = xs.map D.int
  | [], _, h => by cases h; rfl
  | d :: r, xs, h => by
    cases d <;> first | (cases h; done) | skip
    rw [intsOf_cons] at h
    obtain ⟨ys, e, rfl⟩ := Option.map_eq_some_iff.mp h
    rw [intsOf_eq e]; rfl
def blsOf : List D → Option (List Bool)
  | [] => some []
  | .bl x :: r => (blsOf r).map (x :: ·)
  | _ => none
@[simp] theorem blsOf_nil : blsOf [] = some [] := (rfl)
@[simp] theorem blsOf_cons {x : Bool} {r : List D} : blsOf (.bl x :: r) = (blsOf r).map (x :: ·) := (rfl)
@[simp] theorem blsOf_map {α : Type} (f : α → Bool) : ∀ xs : List α, blsOf (xs.map fun x => .bl (f x)) = some (xs.map f)
  | [] => rfl
  | x :: xs => by rw [List.map_cons, blsOf_cons, blsOf_map f xs]; rfl
@[simp] theorem blsOf_bls (xs : List Bool) : blsOf (xs.map D.bl) = some xs := by
  have := blsOf_map id xs
  simpa using this
theorem blsOf_eq : ∀ {ds : List D} {xs : List Bool}, blsOf ds = some xs → ds = xs.map D.bl
  | [], _, h => by cases h; rfl
  | d :: r, xs, h => by
    cases d <;> first | (cases h; done) | skip
    rw [blsOf_cons] at h
    obtain ⟨ys, e, rfl⟩ := Option.map_eq_some_iff.mp h
    rw [blsOf_eq e]; rfl
section
variable {Q : D → Prop} {ds : List D}
theorem map_int_inj {xs ys : List Int} (h : xs.map D.int = ys.map D.int) : xs = ys := by
  have := congrArg intsOf h
  simpa using this
theorem map_bl_inj {xs ys : List Bool} (h : xs.map D.bl = ys.map D.bl) : xs = ys := by
  have := congrArg blsOf h
  simpa using this
theorem ints_ex {P : List Int → Prop} : (∃ ns : List Int, isLst (.lst ds) = true ∧ seqOf (.lst ds) = some (ns.map D.int) ∧ P ns) ↔ @optK _ (intsOf ds) ⟨P⟩ := ⟨fun ⟨ns, _, e, p⟩ => by
    have e : ds = ns.map D.int := Option.some.inj e
    exact ⟨ns, by rw [e, intsOf_ints], p⟩, fun ⟨ns, e, p⟩ => ⟨ns, rfl, by rw [intsOf_eq e]; rfl, p⟩⟩
theorem bls_ex {P : List Bool → Prop} : (∃ ns : List Bool, isLst (.lst ds) = true ∧ seqOf (.lst ds) = some (ns.map D.bl) ∧ P ns) ↔ @optK _ (blsOf ds) ⟨P⟩ := ⟨fun ⟨ns, _, e, p⟩ => by
    have e : ds = ns.map D.bl := Option.some.inj e
    exact ⟨ns, by rw [e, blsOf_bls], p⟩, fun ⟨ns, e, p⟩ => ⟨ns, rfl, by rw [blsOf_eq e]; rfl, p⟩⟩
@[simp ↓] theorem bAll_ : @bK bAll [.lst ds] ⟨Q⟩ = @optK _ (blsOf ds) ⟨fun bs => Q (.bl (bs.all id))⟩ := propext bls_ex
@[simp ↓] theorem bAny_ : @bK bAny [.lst ds] ⟨Q⟩ = @optK _ (blsOf ds) ⟨fun bs => Q (.bl (bs.any id))⟩ := propext bls_ex
@[simp ↓] theorem bSum_ : @bK bSum [.lst ds] ⟨Q⟩ = @optK _ (intsOf ds) ⟨fun ns => Q (.int ns.sum)⟩ := propext ints_ex
def maxL (ns : List Int) : Int := ns.max?.getD 0
def minL (ns : List Int) : Int := ns.min?.getD 0
theorem maxL_eq {ns : List Int} {m : Int} (h : m ∈ ns) (h2 : ∀ y ∈ ns, y ≤ m) : m = maxL ns := by
  have : ns.max? = some m := List.max?_eq_some_iff.mpr ⟨h, h2⟩
  unfold maxL; rw [this]; rfl
theorem minL_eq {ns : List Int} {m : Int} (h : m ∈ ns) (h2 : ∀ y ∈ ns, m ≤ y) : m = minL ns := by
  have : ns.min? = some m := List.min?_eq_some_iff.mpr ⟨h, h2⟩
  unfold minL; rw [this]; rfl
theorem maxL_mem {ns : List Int} (h : ns ≠ []) : maxL ns ∈ ns ∧ ∀ y ∈ ns, y ≤ maxL ns := by
  unfold maxL
  cases e : ns.max? with
  | none => exact absurd (List.max?_eq_none_iff.mp e) h
  | some m => exact List.max?_eq_some_iff.mp e
theorem minL_mem {ns : List Int} (h : ns ≠ []) : minL ns ∈ ns ∧ ∀ y ∈ ns, minL ns ≤ y := by
  unfold minL
  cases e : ns.min? with
  | none => exact absurd (List.min?_eq_none_iff.mp e) h
  | some m => exact List.min?_eq_some_iff.mp e
@[simp ↓] theorem bMaxL_ : @bK bMaxL [.lst ds] ⟨Q⟩ = @optK _ (intsOf ds) ⟨fun ns => 0 < ns.length ∧ Q (.int (maxL ns))⟩ := by
  refine Eq.trans (propext ints_ex) ?_
  congr 2
  funext ns
  refine propext (and_congr_right fun hl => ⟨fun h => ?_, fun h m h1 h2 => by rw [maxL_eq h1 h2]; exact h⟩)
  have := maxL_mem (List.length_pos_iff.mp hl)
  exact h _ this.1 this.2
@[simp ↓] theorem bMinL_ : @bK bMinL [.lst ds] ⟨Q⟩ = @optK _ (intsOf ds) ⟨fun ns => 0 < ns.length ∧ Q (.int (minL ns))⟩ := by
  refine Eq.trans (propext ints_ex) ?_
  congr 2
  funext ns
  refine propext (and_congr_right fun hl => ⟨fun h => ?_, fun h m h1 h2 => by rw [minL_eq h1 h2]; exact h⟩)
  have := minL_mem (List.length_pos_iff.mp hl)
  exact h _ this.1 this.2
end
/-! loops over lists -/
section
variable {g : WG} {Wt : WT} {We : WE} {ρ : Rho} {A : WS} {RR : RS} {E : EndsA}
@[simp ↓] theorem compK_nil {acc : List D} {Q : List D → Prop} : @compK ρ [] acc ⟨g, Wt, We, Q⟩ = Q acc := (rfl)
@[simp ↓] theorem compK_cons {d : D} {ds acc : List D} {Q : List D → Prop} : @compK ρ (d :: ds) acc ⟨g, Wt, We, Q⟩ = g d ρ fun ρ' => Wt (fun _ => False) ρ' fun k => if k = true then We (fun _ => False) ρ' fun y => @compK ρ ds (acc ++ [y]) ⟨g, Wt, We, Q⟩ else @compK ρ ds acc ⟨g, Wt, We, Q⟩ := (rfl)
/-- a for loop of which each turn does the same -/
theorem for_all (I : Rho → Prop) (P : D → Prop) (step : ∀ d ρ (nx : Rho → Prop), P d → I ρ → (∀ ρ', I ρ' → nx ρ') → g d ρ fun ρ' => A RR { nx := nx, rt := E.rt, bk := E.nx, ct := nx } ρ') (fin : ∀ ρ, I ρ → E.nx ρ) :
    ∀ (ds : List D), (∀ d ∈ ds, P d) → ∀ ρ, I ρ → @forK ds ρ ⟨g, A, RR, E⟩
  | [], _, ρ, h => fin ρ h
  | d :: ds, hd, ρ, h => step d ρ _ (hd d (List.mem_cons_self ..)) h fun ρ' h' => for_all I P step fin ds (fun x hx => hd x (List.mem_cons_of_mem _ hx)) ρ' h'
/-- a for loop by what is left -/
theorem for_left {α : Type} (enc : α → D) (I : List α → Rho → Prop) (step : ∀ a r ρ (nx : Rho → Prop), I (a :: r) ρ → (∀ ρ', I r ρ' → nx ρ') → g (enc a) ρ fun ρ' => A RR { nx := nx, rt := E.rt, bk := E.nx, ct := nx } ρ') (fin : ∀ ρ, I [] ρ → E.nx ρ) :
    ∀ (r : List α) (ρ : Rho), I r ρ → @forK (r.map enc) ρ ⟨g, A, RR, E⟩
  | [], ρ, h => fin ρ h
  | a :: r, ρ, h => step a r ρ _ h fun ρ' h' => for_left enc I step fin r ρ' h'
/-- a for loop by what is done -/
theorem for_done {α : Type} (enc : α → D) (xs : List α) (I : List α → Rho → Prop) (step : ∀ p a r ρ (nx : Rho → Prop), xs = p ++ a :: r → I p ρ → (∀ ρ', I (p ++ [a]) ρ' → nx ρ') → g (enc a) ρ fun ρ' => A RR { nx := nx, rt := E.rt, bk := E.nx, ct := nx } ρ') (fin : ∀ ρ, I xs ρ → E.nx ρ) (ρ : Rho) (h : I [] ρ) :
    @forK (xs.map enc) ρ ⟨g, A, RR, E⟩ := by
  have key : ∀ (r p : List α) (ρ : Rho), xs = p ++ r → I p ρ → @forK (r.map enc) ρ ⟨g, A, RR, E⟩ := by
    intro r
    induction r with
    | nil => intro p ρ e h; rw [List.append_nil] at e; subst e; exact fin ρ h
    | cons a r ih => intro p ρ e h; exact step p a r ρ _ e h fun ρ' h' => ih (p ++ [a]) ρ' (by rw [e]; simp) h'
  exact key xs [] ρ rfl h
/-- a comprehension whose items' answers are known -/
theorem comp_run (p : D → Bool) (f : D → D) {ds : List D} : ∀ {acc : List D} {Q : List D → Prop}, (∀ d ∈ ds, ∀ (K1 : D → Prop) (K0 : Prop), (p d = true → K1 (f d)) → (p d = false → K0) → g d ρ fun ρ' => Wt (fun _ => False) ρ' fun k => if k = true then We (fun _ => False) ρ' K1 else K0) → Q (acc ++ (ds.filter p).map f) → @compK ρ ds acc ⟨g, Wt, We, Q⟩ := by
  induction ds with
  | nil => intro acc Q _ q; simpa using q
  | cons d ds ih =>
    intro acc Q h q
    rw [compK_cons]
    refine h d (List.mem_cons_self ..) (fun y => @compK ρ ds (acc ++ [y]) ⟨g, Wt, We, Q⟩) (@compK ρ ds acc ⟨g, Wt, We, Q⟩) (fun e => ?_) (fun e => ?_)
    · refine ih (fun d' hd => h d' (List.mem_cons_of_mem _ hd)) ?_
      rw [List.filter_cons, if_pos e] at q
      simpa using q
    · refine ih (fun d' hd => h d' (List.mem_cons_of_mem _ hd)) ?_
      rw [List.filter_cons, if_neg (by simp [e])] at q
      exact q
/-- .. of items that are told -/
theorem comp_filter {α : Type} (enc : α → D) (p : α → Bool) (f : α → D) {xs : List α} : ∀ {acc : List D} {Q : List D → Prop}, (∀ a ∈ xs, ∀ (K1 : D → Prop) (K0 : Prop), (p a = true → K1 (f a)) → (p a = false → K0) → g (enc a) ρ fun ρ' => Wt (fun _ => False) ρ' fun k => if k = true then We (fun _ => False) ρ' K1 else K0) → Q (acc ++ (xs.filter p).map f) → @compK ρ (xs.map enc) acc ⟨g, Wt, We, Q⟩ := by
  induction xs with
  | nil => intro acc Q _ q; simpa using q
  | cons d ds ih =>
    intro acc Q h q
    rw [List.map_cons, compK_cons]
    refine h d (List.mem_cons_self ..) (fun y => @compK ρ (ds.map enc) (acc ++ [y]) ⟨g, Wt, We, Q⟩) (@compK ρ (ds.map enc) acc ⟨g, Wt, We, Q⟩) (fun e => ?_) (fun e => ?_)
    · refine ih (fun d' hd => h d' (List.mem_cons_of_mem _ hd)) ?_
      rw [List.filter_cons, if_pos e] at q
      simpa using q
    · refine ih (fun d' hd => h d' (List.mem_cons_of_mem _ hd)) ?_
      rw [List.filter_cons, if_neg (by simp [e])] at q
      exact q
theorem comp_enc {α : Type} (enc : α → D) (f : α → D) {xs : List α} {Q : List D → Prop} (h : ∀ a ∈ xs, ∀ (K1 : D → Prop), K1 (f a) → g (enc a) ρ fun ρ' => We (fun _ => False) ρ' K1) (q : Q (xs.map f)) : @compK ρ (xs.map enc) [] ⟨g, wYes, We, Q⟩ := by
  refine comp_filter enc (fun _ => true) f (fun d hd K1 K0 h1 _ => ?_) (by rw [List.nil_append, List.filter_eq_self.mpr (by simp)]; exact q)
  simp only [wYes_, if_true]
  exact h d hd K1 (h1 rfl)
/-- .. without a test -/
theorem comp_map (f : D → D) {ds : List D} {Q : List D → Prop} (h : ∀ d ∈ ds, ∀ (K1 : D → Prop), K1 (f d) → g d ρ fun ρ' => We (fun _ => False) ρ' K1) (q : Q (ds.map f)) : @compK ρ ds [] ⟨g, wYes, We, Q⟩ := by
  refine comp_run (fun _ => true) f (fun d hd K1 K0 h1 _ => ?_) (by rw [List.nil_append, List.filter_eq_self.mpr (by simp)]; exact q)
  simp only [wYes_, if_true]
  exact h d hd K1 (h1 rfl)
/-- .. of which only this is known of each item -/
theorem comp_all (P : D → Prop) {ds : List D} : ∀ {acc : List D} {Q : List D → Prop}, (∀ d ∈ ds, ∀ (K1 : D → Prop), (∀ y, P y → K1 y) → g d ρ fun ρ' => We (fun _ => False) ρ' K1) → (∀ ys : List D, ys.length = ds.length → (∀ y ∈ ys, P y) → Q (acc ++ ys)) → @compK ρ ds acc ⟨g, wYes, We, Q⟩ := by
  induction ds with
  | nil => intro acc Q _ q; simpa using q [] rfl (by simp)
  | cons d ds ih =>
    intro acc Q h q
    rw [compK_cons]
    simp only [wYes_, if_true]
    refine h d (List.mem_cons_self ..) (fun y => @compK ρ ds (acc ++ [y]) ⟨g, wYes, We, Q⟩) fun y hy => ?_
    refine ih (fun d' hd => h d' (List.mem_cons_of_mem _ hd)) fun ys hl hp => ?_
    rw [List.append_assoc]
    exact q (y :: ys) (by simp [hl]) (by simpa using ⟨hy, hp⟩)
theorem rng_mem {lo : Int} {n : Nat} {d : D} (h : d ∈ rngL lo n) : ∃ i : Nat, i < n ∧ d = .int (lo + i) := by
  unfold rngL at h
  obtain ⟨i, hi, rfl⟩ := List.mem_map.mp h
  exact ⟨i, List.mem_range.mp hi, rfl⟩
@[simp] theorem rngL_len {lo : Int} {n : Nat} : (rngL lo n).length = n := rngL_length lo n
theorem enumD_enc {α : Type} (enc : α → D) : ∀ (k : Nat) (xs : List α), enumD k (xs.map enc) = (xs.zipIdx k).map fun p => .tup [.int p.2, enc p.1]
  | _, [] => rfl
  | k, x :: xs => by
    rw [List.map_cons, List.zipIdx_cons, List.map_cons, ← enumD_enc enc (k + 1) xs]; rfl
theorem zipD_enc {α β : Type} (f : α → D) (h : β → D) : ∀ (xs : List α) (ys : List β), zipD (xs.map f) (ys.map h) = (xs.zip ys).map fun p => .tup [f p.1, h p.2]
  | [], _ => by simp [zipD]
  | _ :: _, [] => by simp [zipD]
  | x :: xs, y :: ys => by
    have := zipD_enc f h xs ys
    unfold zipD at this ⊢
    simp [this]
theorem rngL_enc (n : Nat) : rngL 0 n = (List.range n).map fun (i : Nat) => D.int i := by
  unfold rngL
  simp
end
omit [TabC] in
theorem xfb_of {K : PySem.W.Frag} {C : Addr} (h1 : PySem.W.findIn K (.ref C) "__getattribute__" = some (some (.builtin "BaseException.__getattribute__"))) (h2 : PySem.W.findIn K (.ref C) "__getattr__" = some none)
    (h3 : PySem.W.subIn K (.ref C) (.type "BaseException") = some true) (h4 : PySem.W.hasDictIn K C = true) : xfB K C = true := by
  unfold xfB
  rw [decide_eq_true h1, decide_eq_true h2, decide_eq_true h3, h4]; rfl
end AV

set_option maxRecDepth 100000
set_option maxHeartbeats 1000000
namespace AV
open PySem PySem.Spec PyProof.Rows L2
variable [TabC]
section
variable {g : WG} {Wt : WT} {We : WE} {ρ : Rho} {A : WS} {RR : RS} {E : EndsA}
/-- a for loop over numbered items -/
theorem for_enum {α : Type} (enc : α → D) (xs : List α) (I : List α → Rho → Prop) (step : ∀ p a r ρ (nx : Rho → Prop), xs = p ++ a :: r → I p ρ → (∀ ρ', I (p ++ [a]) ρ' → nx ρ') → g (.tup [.int (p.length : Int), enc a]) ρ fun ρ' => A RR { nx := nx, rt := E.rt, bk := E.nx, ct := nx } ρ') (fin : ∀ ρ, I xs ρ → E.nx ρ) (ρ : Rho) (h : I [] ρ) :
    @forK (enumD 0 (xs.map enc)) ρ ⟨g, A, RR, E⟩ := by
  have key : ∀ (r p : List α) (ρ : Rho), xs = p ++ r → I p ρ → @forK (enumD p.length (r.map enc)) ρ ⟨g, A, RR, E⟩ := by
    intro r
    induction r with
    | nil => intro p ρ e h; rw [List.append_nil] at e; subst e; exact fin ρ h
    | cons a r ih =>
      intro p ρ e h
      refine step p a r ρ _ e h fun ρ' h' => ?_
      have := ih (p ++ [a]) ρ' (by rw [e]; simp) h'
      rw [List.length_append] at this
      exact this
  exact key xs [] ρ rfl h
/-- a comprehension over numbered items -/
theorem comp_enum {α : Type} (enc : α → D) (p : Nat → α → Bool) (f : Nat → α → D) {xs : List α} {Q : List D → Prop} (h : ∀ i a, xs[i]? = some a → ∀ (K1 : D → Prop) (K0 : Prop), (p i a = true → K1 (f i a)) → (p i a = false → K0) → g (.tup [.int (i : Int), enc a]) ρ fun ρ' => Wt (fun _ => False) ρ' fun k => if k = true then We (fun _ => False) ρ' K1 else K0) (q : Q ((xs.zipIdx.filter fun z => p z.2 z.1).map fun z => f z.2 z.1)) : @compK ρ (enumD 0 (xs.map enc)) [] ⟨g, Wt, We, Q⟩ := by
  rw [enumD_enc]
  refine comp_filter _ (fun z => p z.2 z.1) (fun z => f z.2 z.1) (fun z hz K1 K0 h1 h0 => ?_) (by simpa using q)
  obtain ⟨a, i⟩ := z
  exact h i a (by rw [List.mem_zipIdx_iff_getElem?] at hz; exact hz) K1 K0 h1 h0
end
end AV

set_option maxRecDepth 100000
set_option maxHeartbeats 1000000
namespace AV
open PySem PySem.Spec PyProof.Rows L2
variable [TabC]
/-! a, b = d, e -/
def wPar (i j : Nat) (Wr : WA) : WS := fun R E ρ => Wr (fun ex => R ex ρ) ρ fun ds => match ds with | [d, e] => E.nx ((ρ.set i (.val d)).set j (.val e)) | _ => False
section
variable {X : Cx} {Wx : WX} {Wr : WA}
theorem ds_par {x y : Str} {a b : Expr} {px py pt pos : Pos} {kt k2 pt2} (i j : Nat) (hc : X.calm = true) (hN : X.N.Nodup) (ha : DA X Wx [a, b] Wr) (hij : i ≠ j) (hi : X.N[i]? = some x := by rfl) (hj : X.N[j]? = some y := by rfl)
    (hx : X.env.scope.names.lookup x = some .local := by rfl) (hy : X.env.scope.names.lookup y = some .local := by rfl)
    (hw : swappedStores [.Tuple [.Name x px, .Name y py] kt pt] (.Tuple [a, b] k2 pt2) X.env = pure (some [x, y]) := by rfl)
    (hs : swapsWithSole [.Tuple [.Name x px, .Name y py] kt pt] (.Tuple [a, b] k2 pt2) pos.line X.env = pure false := by rfl) :
    DS X Wx (.Assign [.Tuple [.Name x px, .Name y py] kt pt] (.Tuple [a, b] k2 pt2) pos) (wPar i j Wr) := by
  obtain ⟨ta, pa, qa⟩ := ha.ex
  refine ⟨⟨_, ps_par hc hN hi hj hij hx hy pa hw hs, fun fr G ρ σ H R E F r hr ok w => ?_⟩⟩
  refine qa fr G ρ σ H _ _ _ r hr.e w fun vs ds G' H' s rp qd => ?_
  match ds, qd with
  | [d, e], qd =>
    obtain ⟨v, r1, rfl, h1, rs⟩ := rp
    obtain ⟨u, r2, rfl, h2, rs⟩ := rs
    cases rs
    exact ⟨v, u, rfl, ok.nx G' _ _ H' ((s.rel.setVal i h1).setVal j h2) qd⟩
end
def pairK (ds : List D) [K : Kn2 D D] : Prop := match ds with | [d, e] => K.r d e | _ => False
@[simp ↓] theorem pairK_ {d e : D} {Q : D → D → Prop} : @pairK [d, e] ⟨Q⟩ = Q d e := (rfl)
@[simp ↓] theorem wPar_ {i j : Nat} {Wr : WA} {RR : RS} {E : EndsA} {ρ : Rho} : wPar i j Wr RR E ρ = Wr (fun ex => RR ex ρ) ρ fun ds => @pairK ds ⟨fun d e => E.nx ((ρ.set i (.val d)).set j (.val e))⟩ := (rfl)
@[simp] theorem atI_nat {xs : List D} {i : Nat} : atI xs (i : Int) = xs[i]? := by
  unfold atI ixN
  rw [if_pos (by omega)]
  by_cases h : i < xs.length
  · rw [if_pos (by omega)]; simp
  · rw [if_neg (by omega)]
    simp at h ⊢; exact h
theorem cut_take {xs : List D} {k : Int} (h : 0 ≤ k) : cutD xs none (some k) = xs.take k.toNat := by
  obtain ⟨n, rfl⟩ : ∃ n : Nat, k = n := ⟨k.toNat, by omega⟩
  unfold cutD
  rw [HT.sIx_nat, HT.sIx_none, List.drop_zero, Nat.sub_zero, Int.toNat_natCast, List.take_eq_take_iff]
  omega
theorem cut_drop {xs : List D} {k : Int} (h : 0 ≤ k) : cutD xs (some k) none = xs.drop k.toNat := by
  obtain ⟨n, rfl⟩ : ∃ n : Nat, k = n := ⟨k.toNat, by omega⟩
  unfold cutD
  rw [HT.sIx_nat, HT.sIx_none, Int.toNat_natCast]
  by_cases hn : n ≤ xs.length
  · rw [Nat.min_eq_left hn, List.take_of_length_le (by rw [List.length_drop]; omega)]
  · rw [Nat.min_eq_right (by omega), List.drop_of_length_le (Nat.le_refl _), List.drop_of_length_le (by omega), List.take_nil]
@[simp] theorem atI_0 {x : D} {xs : List D} : atI (x :: xs) 0 = some x := atI_nat (xs := x :: xs) (i := 0)
@[simp] theorem atI_1 {x y : D} {xs : List D} : atI (x :: y :: xs) 1 = some y := atI_nat (xs := x :: y :: xs) (i := 1)
@[simp] theorem atI_2 {x y z : D} {xs : List D} : atI (x :: y :: z :: xs) 2 = some z := atI_nat (xs := x :: y :: z :: xs) (i := 2)
@[simp] theorem atI_3 {x y z u : D} {xs : List D} : atI (x :: y :: z :: u :: xs) 3 = some u := atI_nat (xs := x :: y :: z :: u :: xs) (i := 3)
theorem atI_last {x : D} {xs : List D} : atI (xs ++ [x]) (-1) = some x := by
  unfold atI ixN
  rw [if_neg (by omega), if_pos (by simp; omega)]
  show (xs ++ [x])[((-1 : Int) + ((xs ++ [x]).length : Nat)).toNat]? = _
  have e : ((-1 : Int) + ((xs ++ [x]).length : Nat)).toNat = xs.length := by simp; omega
  rw [e]; simp
@[simp] theorem intsOf_append {xs ys : List D} : intsOf (xs ++ ys) = (intsOf xs).bind fun a => (intsOf ys).map (a ++ ·) := by
  induction xs with
  | nil => simp
  | cons d r ih =>
    cases d <;> first | rfl | skip
    rw [List.cons_append, intsOf_cons, intsOf_cons, ih]
    cases intsOf r <;> cases intsOf ys <;> simp
@[simp] theorem intsOf_take {m : List Int} {n : Nat} : intsOf ((m.map D.int).take n) = some (m.take n) := by
  rw [← List.map_take, intsOf_ints]
@[simp] theorem intsOf_drop {m : List Int} {n : Nat} : intsOf ((m.map D.int).drop n) = some (m.drop n) := by
  rw [← List.map_drop, intsOf_ints]
@[simp] theorem plns_take {α : Type} {f : α → D} {m : List α} {n : Nat} : plns ((m.map f).take n) = (m.take n).all fun x => pln (f x) := by
  rw [← List.map_take, plns_map]
@[simp] theorem plns_drop {α : Type} {f : α → D} {m : List α} {n : Nat} : plns ((m.map f).drop n) = (m.drop n).all fun x => pln (f x) := by
  rw [← List.map_drop, plns_map]
end AV

set_option maxRecDepth 100000
set_option maxHeartbeats 1000000
namespace AV
open PySem PySem.Spec PyProof.Rows L2
variable [TabC]
/-! what is never reached -/
def wNevS : WS := fun _ _ _ => False
def wNevE : WE := fun _ _ _ => False
section
variable {X : Cx} {Wx : WX}
theorem ds_nev {st : Stmt} : DS X Wx st wNevS := ⟨⟨fun _ _ _ => False, ⟨fun _ _ _ _ _ _ h => h.elim⟩, fun _ _ _ _ _ _ _ _ _ _ _ w => w.elim⟩⟩
theorem de_nev {e : Expr} : DE X Wx e wNevE := ⟨⟨fun _ _ _ => False, ⟨fun _ _ _ _ _ _ h => h.elim⟩, fun _ _ _ _ _ _ _ _ _ _ w => w.elim⟩⟩
end
@[simp ↓] theorem wNevS_ {RR : RS} {E : EndsA} {ρ : Rho} : wNevS RR E ρ = False := (rfl)
@[simp ↓] theorem wNevE_ {R : EX → Prop} {ρ : Rho} {Q : D → Prop} : wNevE R ρ Q = False := (rfl)
/-! fields -/
theorem Reps.lookup {K : PySem.W.Frag} {G : GS} {H : Hp} {f : Str} {d : D} : ∀ {ns : List Str} {ds : List D} {xs : List V}, Reps K G H ds xs → (ns.zip ds).lookup f = some d → ∃ v, (ns.zip xs).lookup f = some v ∧ Rep K G H d v
  | [], _, _, _, e => by simp at e
  | n :: ns, [], _, _, e => by simp at e
  | n :: ns, d' :: ds, _, h, e => by
    obtain ⟨v, vs, rfl, r, rs⟩ := h
    rw [List.zip_cons_cons, List.lookup_cons] at e ⊢
    cases c : f == n with
    | true => rw [c] at e; cases e; exact ⟨v, rfl, r⟩
    | false => rw [c] at e; exact Reps.lookup rs e
theorem Reps.lookup_none {K : PySem.W.Frag} {G : GS} {H : Hp} {f : Str} : ∀ {ns : List Str} {ds : List D} {xs : List V}, Reps K G H ds xs → (ns.zip ds).lookup f = none → (ns.zip xs).lookup f = none
  | [], _, _, _, e => by simp
  | n :: ns, [], _, h, e => by cases h; simp
  | n :: ns, d' :: ds, _, h, e => by
    obtain ⟨v, vs, rfl, r, rs⟩ := h
    rw [List.zip_cons_cons, List.lookup_cons] at e ⊢
    cases c : f == n with
    | true => rw [c] at e; cases e
    | false => rw [c] at e; exact Reps.lookup_none rs e
class Ki where
  r : List Str → List D → Prop
def insK (C : Addr) (d : D) [K : Ki] : Prop := match d with | .ins C' ns ds => C' = C ∧ K.r ns ds | _ => False
@[simp ↓] theorem insK_ins {C C' : Addr} {ns : List Str} {ds : List D} {Q : List Str → List D → Prop} : @insK C (.ins C' ns ds) ⟨Q⟩ = (C' = C ∧ Q ns ds) := (rfl)
def wFld (C : Addr) (f : Str) (We : WE) : WE := fun R ρ Q => We R ρ fun d => @insK C d ⟨fun ns ds => @optK _ ((ns.zip ds).lookup f) ⟨Q⟩⟩
@[simp ↓] theorem wFld_ {C : Addr} {f : Str} {We : WE} {R : EX → Prop} {ρ : Rho} {Q : D → Prop} : wFld C f We R ρ Q = We R ρ fun d => @insK C d ⟨fun ns ds => @optK _ ((ns.zip ds).lookup f) ⟨Q⟩⟩ := (rfl)
section
variable {X : Cx} {Wx : WX} {C : Addr} {f m : Str} {e : Expr} {es : List Expr} {pos apos p : Pos} {We : WE} {Wr : WA} {k n : Nat} {ps : List Str} {φ : AS}
theorem de_fld (c : Cls X.K C) (nf : NoAttr X.K C f) (h : DE X Wx e We) (hb : attributeBase e f X.env (eval e X.env) = eval e X.env := by rfl) : DE X Wx (.Attribute e f pos) (wFld C f We) := by
  obtain ⟨t, p, q⟩ := h.ex
  refine ⟨⟨_, pe_fld p hb, fun fr G ρ σ H R Qa Q rl hr w k => ?_⟩⟩
  refine q fr G ρ σ H R _ _ rl hr w fun v d G1 H1 s1 r1 w1 => ?_
  cases d with
  | ins C' ns ds =>
    obtain ⟨rfl, d', el, qd⟩ := w1
    obtain ⟨a, dx, xs, rfl, ga, ha, rs⟩ := r1
    obtain ⟨v', ev, rv⟩ := rs.lookup el
    exact ⟨a, C', dx, _, v', rfl, ha, c, nf, ev, k v' d' G1 H1 s1 rv qd⟩
  | _ => exact w1.elim
end
/-! methods -/
omit [TabC] in
structure MAt (K : PySem.W.Frag) (C : Addr) (m qual : Str) (st : Stmt) (ps : List Str) : Prop where
  ex : ∃ f fd, Fun K m qual st f fd ∧ Meth K C m f ∧ Binds K fd ps []
structure GoodM (P : Program) (w : World) (K : PySem.W.Frag) (mg : Str → Option Value) (base : Heap) (k : Nat) (C : Addr) (m : Str) (ps : List Str) (sp : Sp) : Prop where
  ex : ∃ f fd, Meth K C m f ∧ Binds K fd ps [] ∧ FnOk P w K mg base (L2.CX P w) k f fd ps sp
def wMeth (C : Addr) (m : Str) (φ : AS) (We : WE) (Wr : WA) : WE := fun R ρ Q => We R ρ fun d => match d with | .ins C' ns ds => C' = C ∧ (ns.zip ds).lookup m = none ∧ Wr R ρ fun es => φ (.ins C' ns ds :: es) Q R | _ => False
class Kd where
  r : D → Prop
def insM (C : Addr) (m : Str) (d : D) [K : Kd] : Prop := match d with | .ins C' ns ds => C' = C ∧ (ns.zip ds).lookup m = none ∧ K.r (.ins C' ns ds) | _ => False
@[simp ↓] theorem insM_ins {C C' : Addr} {m : Str} {ns : List Str} {ds : List D} {Q : D → Prop} : @insM C m (.ins C' ns ds) ⟨Q⟩ = (C' = C ∧ (ns.zip ds).lookup m = none ∧ Q (.ins C' ns ds)) := (rfl)
@[simp ↓] theorem wMeth_ {C : Addr} {m : Str} {φ : AS} {We : WE} {Wr : WA} {R : EX → Prop} {ρ : Rho} {Q : D → Prop} : wMeth C m φ We Wr R ρ Q = We R ρ fun d => @insM C m d ⟨fun d => Wr R ρ fun es => @caK φ (d :: es) ⟨Q⟩ ⟨R⟩⟩ := by
  unfold wMeth
  congr 1
section
variable {P : Program} {w : World} {K : PySem.W.Frag} {mg : Str → Option Value} {base : Heap} {C : Addr} {m qual : Str} {st : Stmt} {N ps : List Str} {k : Nat} {φ : AS} {Wb : WS}
theorem goodM (A : MAt K C m qual st ps) (S : FnScope N ps (defScope st)) (hb : HB P w K mg base k qual st N Wb)
    (hφ : ∀ ds Q R, φ ds Q R → ds.length = ps.length ∧ Wb (fun ex _ => R ex) ⟨fun _ => Q .non, fun _ => Q, fun _ => False, fun _ => False⟩ (slots0 N ps ds)) : GoodM P w K mg base (k + 1) C m ps (spV K φ) := by
  obtain ⟨f, fd, F, hm, b⟩ := A.ex
  exact ⟨f, fd, hm, b, fnV F S (hb.use f) hφ⟩
end
section
variable {X : Cx} {Wx : WX} {C : Addr} {m : Str} {e a : Expr} {es : List Expr} {pos apos p : Pos} {We : WE} {Wr : WA} {k n : Nat} {ps : List Str} {φ : AS}
/-- o.m(..) that may raise -/
def tMethR (C : Addr) (m : Str) (sp : Sp) (E : L2.St → XK) (ta : TE) (t : TA) : TE := fun σ H Q => ta σ H fun x H1 => ∃ a dx fs, x = .ref a ∧ H1 a = some (.ins C dx fs) ∧ fs.lookup m = none ∧ t σ H1 fun vs H2 => sp (.ref a :: vs) H2 Q (E σ)
theorem pe_methR {f : Addr} {fd : FuncData} {sp : Sp} {E : L2.St → XK} {ta : TE} {t : TA} {pl : Sem Bool} (he : PE X e ta) (c : Cls X.K C) (hm : Meth X.K C m f) (F : FnOk X.prog X.w X.K X.mg X.base (L2.CX X.prog X.w) k f fd ps sp) (hr : Room k X.A) (hb : Binds X.K fd ps [])
    (hx : ∀ σ, PassesAt (L2.CX X.prog X.w) X σ (E σ)) (ha : PA X (a :: es) t)
    (hst : starEach (a :: es) X.env = (false, eval a X.env) :: starEach es X.env := by rfl) (hpl : (backTo pos (starEach es X.env)).any (·.1) = false := by rfl)
    (ht : eval (.Call (.Attribute e m apos) (a :: es) [] pos) X.env = (do
      let ov ← eval e X.env
      standAt apos.atName
      let (f, first) ← holding [ov] (getMethod ov m pl)
      callWith pos f first (backTo pos (starEach (a :: es) X.env)) (backToKw pos (keywordEach [] X.env))) := by rfl) : PE X (.Call (.Attribute e m apos) (a :: es) [] pos) (tMethR C m sp E ta t) := by
  constructor
  intro pins s σ H Q I h
  refine PySem.W.methodCall_KW (pl := pl) ?_ ht
  apply thn (he.run pins s σ H _ I h)
  rintro u s1 ⟨x, H1, I1, rx, b, dx, fs, rfl, eb, l, q⟩
  cases rx
  apply getmeth_ok I1 eb c hm l
  apply PySem.W.callWith_K (first := [.ref b]) (h₀ := X.base) I.ok.mod.kin hm.kp _ hst hpl
  apply thn (ha.run pos pins s1 σ H1 _ I1 q)
  rintro us s2 ⟨vs, H2, I2, r, q2⟩
  exact ⟨I2.kIn, run_fnS (us := .ref b :: us) (vs := .ref b :: vs) F hr hb (hx σ) I2 (.cons rfl r) q2⟩
theorem pe_methR0 {f : Addr} {fd : FuncData} {sp : Sp} {E : L2.St → XK} {ta : TE} {pl : Sem Bool} (he : PE X e ta) (c : Cls X.K C) (hm : Meth X.K C m f) (F : FnOk X.prog X.w X.K X.mg X.base (L2.CX X.prog X.w) k f fd ps sp) (hr : Room k X.A) (hb : Binds X.K fd ps [])
    (hx : ∀ σ, PassesAt (L2.CX X.prog X.w) X σ (E σ))
    (ht : eval (.Call (.Attribute e m apos) [] [] pos) X.env = (do
      let ov ← eval e X.env
      standAt apos.atName
      let (f, first) ← holding [ov] (getMethod ov m pl)
      callWith pos f first (backTo pos (starEach [] X.env)) (backToKw pos (keywordEach [] X.env))) := by rfl) : PE X (.Call (.Attribute e m apos) [] [] pos) (tMethR C m sp E ta tNil) := by
  constructor
  intro pins s σ H Q I h
  refine PySem.W.methodCall_KW (pl := pl) ?_ ht
  apply thn (he.run pins s σ H _ I h)
  rintro u s1 ⟨x, H1, I1, rx, b, dx, fs, rfl, eb, l, q⟩
  cases rx
  apply getmeth_ok I1 eb c hm l
  exact PySem.W.callWith_K0 (first := [.ref b]) I1.kIn hm.kp (run_fnS (us := [.ref b]) (vs := [.ref b]) F hr hb (hx σ) I1 (.cons rfl .nil) q)
/-- C(..) that may raise -/
def tMakeX (C : Addr) (sp : Sp) (E : L2.St → XK) (t : TA) : TE := fun σ H Q => t σ H fun vs H1 => ∀ x dx, H1 x = none → H1 dx = none → dx ≠ x → sp (.ref x :: vs) (upd (upd H1 dx (.own x)) x (.ins C dx [])) (fun v H2 => v = .non ∧ Q (.ref x) H2) (E σ)
theorem run_makeX {f : Addr} {fd : FuncData} {sp : Sp} {E : XK} {pins : List (Addr × Obj)} {σ : L2.St} {H : Hp} {s : Shared} {Q : VK} {us : List Value} {vs : List V} (M : Mk X.K C f) (F : FnOk X.prog X.w X.K X.mg X.base (L2.CX X.prog X.w) k f fd ps sp) (hr : Room (k + 1) X.A) (hb : Binds X.K fd ps [])
    (hx : PassesAt (L2.CX X.prog X.w) X σ E) (I : Inv X pins σ H s) (r : Vals vs us)
    (h : ∀ x dx, H x = none → H dx = none → dx ≠ x → sp (.ref x :: vs) (upd (upd H dx (.own x)) x (.ins C dx [])) (fun v H2 => v = .non ∧ Q (.ref x) H2) E) :
    wpAny (model X.prog X.w) X.A (call (.ref C) us) (EP X pins σ Q) X.xe s := by
  generalize hd : s.heap.objs.size = d
  have hq := h (d + 1) d (I.hok.fresh (by rw [hd]; exact Nat.le_succ _)) (I.hok.fresh (by rw [hd]; exact Nat.le_refl _)) (Nat.ne_of_lt (Nat.lt_succ_self _))
  subst hd
  have J := Inv.made (C := C) I
  have r2 : Vals (V.ref (s.heap.objs.size + 1) :: vs) (Value.ref (s.heap.objs.size + 1) :: us) := .cons rfl r
  have hlen : (Value.ref (s.heap.objs.size + 1) :: us ++ []).length = ps.length := by
    have e := r2.length
    rw [F.len _ _ _ _ hq] at e
    rw [List.append_nil]; exact e.symm
  have run := F.run _ X.stack _ _ ⟨Value.ref (s.heap.objs.size + 1) :: us, []⟩ (Value.ref (s.heap.objs.size + 1) :: us) _ _ E (hr.make C us []) (J.env0.make C us []) (by
    have := hb _ (Value.ref (s.heap.objs.size + 1) :: us) J.kIn hlen
    rwa [List.append_nil] at this) r2 hq
  apply wpAny_call
  refine make_map (f := f) I.kIn M.makes M.init (beq_iff_eq.mp M.fn) (codeAny_mono run ?_)
  rintro (e | fl) s' hq'
  · exact hx pins _ _ e s' J hq'
  · cases fl with
    | ret u =>
      obtain ⟨v, H', J3, rv, rfl, q3⟩ := J.after hq'
      exact ⟨rv, V.ref (s.heap.objs.size + 1), H', J3, rfl, q3⟩
    | _ => exact hq'.elim
theorem pe_makeX {f : Addr} {fd : FuncData} {sp : Sp} {E : L2.St → XK} {t : TA} {x : Str} (M : Mk X.K C f) (F : FnOk X.prog X.w X.K X.mg X.base (L2.CX X.prog X.w) k f fd ps sp) (hr : Room (k + 1) X.A) (hg : Gl X x) (hm : X.mg x = some (.ref C)) (hb : Binds X.K fd ps [])
    (hx : ∀ σ, PassesAt (L2.CX X.prog X.w) X σ (E σ)) (ha : PA X (a :: es) t) (hdb : (x == ("__debug__" : Str)) = false := by decide)
    (he : starEach (a :: es) X.env = (false, eval a X.env) :: starEach es X.env := by rfl) (hpl : (backTo pos (starEach es X.env)).any (·.1) = false := by rfl) : PE X (.Call (.Name x p) (a :: es) [] pos) (tMakeX C sp E t) := by
  constructor
  intro pins s σ H Q I h
  apply wpAny_Call_Name_kw
  apply ld_glob I hg hm _ hdb
  apply PySem.W.callWith_K (h₀ := X.base) I.ok.mod.kin M.kp _ he hpl
  apply thn (ha.run pos pins s σ H _ I h)
  rintro us s1 ⟨vs, H1, I1, r, q⟩
  exact ⟨I1.kIn, run_makeX M F hr hb (hx σ) I1 r q⟩
theorem de_meth0 {pl : Sem Bool} (c : Cls X.K C) (F : GoodM X.prog X.w X.K X.mg X.base k C m ps (spV X.K φ)) (hr : Room n X.A) (hk : k ≤ n) (tk : Takes X Wx) (h : DE X Wx e We)
    (ht : eval (.Call (.Attribute e m apos) [] [] pos) X.env = (do
      let ov ← eval e X.env
      standAt apos.atName
      let (f, first) ← holding [ov] (getMethod ov m pl)
      callWith pos f first (backTo pos (starEach [] X.env)) (backToKw pos (keywordEach [] X.env))) := by rfl) : DE X Wx (.Call (.Attribute e m apos) [] [] pos) (wMeth C m φ We wNil) := by
  obtain ⟨t, p, q⟩ := h.ex
  obtain ⟨f, fd, hm, hb, F⟩ := F.ex
  refine ⟨⟨_, pe_methR0 p c hm F (hr.mono hk) hb (passAt tk) ht, fun fr G ρ σ H R Qa Q rl hR w k => ?_⟩⟩
  refine q fr G ρ σ H R _ _ rl hR w fun v d G1 H1 s1 r1 w1 => ?_
  cases d with
  | ins C' ns ds =>
    obtain ⟨rfl, el, w1⟩ := w1
    obtain ⟨b, dx, xs, rfl, ga, ha, rs⟩ := r1
    refine ⟨b, dx, _, rfl, ha, rs.lookup_none el, ?_⟩
    refine ⟨G1, [.ins C' ns ds], Qa, R, s1.rel.gok, ⟨_, [], rfl, ⟨b, dx, xs, rfl, ga, ha, rs⟩, rfl⟩, w1, fun v d G2 H2 po rv qd => ?_, fun ex cls dd G2 H2 po rv qd => ?_⟩
    · exact k v d G2 H2 (s1.trans (po.step s1.rel)) rv qd
    · exact hR ex cls dd G2 H2 qd rv (s1.trans (po.step s1.rel)).rel
  | _ => exact w1.elim
/-- o.m(a, ..) -/
theorem de_meth {pl : Sem Bool} (c : Cls X.K C) (F : GoodM X.prog X.w X.K X.mg X.base k C m ps (spV X.K φ)) (hr : Room n X.A) (hk : k ≤ n) (tk : Takes X Wx) (h : DE X Wx e We) (ha : DA X Wx (a :: es) Wr)
    (hst : starEach (a :: es) X.env = (false, eval a X.env) :: starEach es X.env := by rfl) (hpl : (backTo pos (starEach es X.env)).any (·.1) = false := by rfl)
    (ht : eval (.Call (.Attribute e m apos) (a :: es) [] pos) X.env = (do
      let ov ← eval e X.env
      standAt apos.atName
      let (f, first) ← holding [ov] (getMethod ov m pl)
      callWith pos f first (backTo pos (starEach (a :: es) X.env)) (backToKw pos (keywordEach [] X.env))) := by rfl) : DE X Wx (.Call (.Attribute e m apos) (a :: es) [] pos) (wMeth C m φ We Wr) := by
  obtain ⟨t, p, q⟩ := h.ex
  obtain ⟨t2, p2, q2⟩ := ha.ex
  obtain ⟨f, fd, hm, hb, F⟩ := F.ex
  refine ⟨⟨_, pe_methR p c hm F (hr.mono hk) hb (passAt tk) p2 hst hpl ht, fun fr G ρ σ H R Qa Q rl hR w kk => ?_⟩⟩
  refine q fr G ρ σ H R _ _ rl hR w fun v d G1 H1 s1 r1 w1 => ?_
  cases d with
  | ins C' ns ds =>
    obtain ⟨rfl, el, w1⟩ := w1
    obtain ⟨b, dx, xs, rfl, ga, hb1, rs⟩ := r1
    refine ⟨b, dx, _, rfl, hb1, rs.lookup_none el, ?_⟩
    refine q2 fr G1 ρ σ H1 R _ _ s1.rel hR w1 fun us es' G2 H2 s2 r2 w2 => ?_
    have rb := s2.rep (d := .ins C' ns ds) (v := .ref b) ⟨b, dx, xs, rfl, ga, hb1, rs⟩
    refine ⟨G2, .ins C' ns ds :: es', Qa, R, s2.rel.gok, ⟨_, us, rfl, rb, r2⟩, w2, fun v d G3 H3 po rv qd => ?_, fun ex cls dd G3 H3 po rv qd => ?_⟩
    · exact kk v d G3 H3 ((s1.trans s2).trans (po.step s2.rel)) rv qd
    · exact hR ex cls dd G3 H3 qd rv ((s1.trans s2).trans (po.step s2.rel)).rel
  | _ => exact w1.elim
end
/-! instances in the making -/
def remH (H : Hp) (a : Addr) : Hp := fun b => if b = a then none else H b
theorem remH_self {H : Hp} {a : Addr} : remH H a a = none := by unfold remH; rw [if_pos rfl]
theorem remH_ne {H : Hp} {a b : Addr} (h : b ≠ a) : remH H a b = H b := by unfold remH; rw [if_neg h]
theorem remH_some {H : Hp} {a b : Addr} {o : HO} (h : remH H a b = some o) : H b = some o ∧ b ≠ a := by
  by_cases e : b = a
  · subst e; rw [remH_self] at h; cases h
  · rw [remH_ne e] at h; exact ⟨h, e⟩
/-- what __init__ promises -/
def spI (K : PySem.W.Frag) (C : Addr) (φ : AS) : Sp := fun vs H Q E => ∃ a dx us G ds Qa R, vs = .ref a :: us ∧ H a = some (.ins C dx []) ∧ ¬ G a ∧ GOk G H ∧ Reps K G H ds us ∧ φ ds Qa R ∧
  (∀ G' H' dx' ns xs es, Post K none G (remH H a) G' H' → ¬ G' a → H' a = some (.ins C dx' (ns.zip xs)) → Reps K G' H' es xs → Qa (.ins C ns es) → Q .non H') ∧
  ∀ ex cls dd G' H', Post K none G (remH H a) G' H' → ExRep K G' H' ex cls dd → R ex → E cls dd H'
def slotsI (N ps : List Str) (a C : Addr) (ds : List D) : Rho := .slf a C [] [] :: ds.map .val ++ List.replicate (N.length - ps.length) .un
section
variable {P : Program} {w : World} {K : PySem.W.Frag} {mg : Str → Option Value} {base : Heap} {x qual : Str} {st : Stmt} {f C : Addr} {fd : FuncData} {N ps : List Str} {k : Nat} {φ : AS} {Wb : WS}
theorem fnI (F : Fun K x qual st f fd) (S : FnScope N ps (defScope st))
    (hb : ∀ (cdv : Value) (A : Around) (outer : List Env) (s : Shared) (H : Hp) (E : XK), Room k (A.deeper (envOfC qual (defScope st) s.heap.objs.size f cdv)) → DSs (cxOf (L2.CX P w) P w K mg base N qual (defScope st) f cdv A outer s H E) (fun cls d _ H => E cls d H) (defBody st) Wb)
    (hφ : ∀ a ds Q R, φ ds Q R → ds.length + 1 = ps.length ∧ Wb (fun ex _ => R ex) ⟨fun ρ => ∃ ns es, gt ρ 0 = .slf a C ns es ∧ Q (.ins C ns es), fun _ _ => False, fun _ => False, fun _ => False⟩ (slotsI N ps a C ds)) : FnOk P w K mg base (L2.CX P w) (k + 1) f fd ps (spI K C φ) := by
  refine F.okX S (fun vs H Q E h => ?_) (fun cdv A outer s H vs Q E hr h => ?_)
  · obtain ⟨a, dx, us, G, ds, Qa, R, rfl, _, _, _, rs, w, _⟩ := h
    rw [List.length_cons, rs.length]; exact (hφ a ds Qa R w).1
  · obtain ⟨a, dx, us, G, ds, Qa, R, rfl, ha, nga, gi, rs, w, kv, ke⟩ := h
    obtain ⟨t, p, q⟩ := (hb cdv A outer s H E hr).ex
    refine ⟨t, p, ?_⟩
    obtain ⟨hl, w⟩ := hφ a ds Qa R w
    have hvl := rs.length
    have hpl : ps.length ≤ N.length := by have := congrArg List.length S.pre; rw [List.length_take] at this; omega
    have hht : ∀ b, isT b → remH H a b ≠ none := fun b hb => by
      rw [remH_ne (fun z => by subst z; exact notT gi.tbs ha (fun _ z => by cases z) hb)]
      exact gi.ht b hb
    refine q ⟨remH H a, none, G, H, fun _ => False, fun _ => False, by simp, hht⟩ G _ (start N (.ref a :: us)) H _ _ _ ?_ (fun ex cls d G' ρ' σ' H' hR er rl => ke ex cls d G' H' rl.post er hR) ⟨fun G' ρ' σ' H' rl z => ?_, fun v d G' ρ' σ' H' rl rv (z : False) => z.elim, fun _ _ _ _ _ z => z, fun _ _ _ _ _ z => z, fun v es G' ρ' σ' H' rl _ rv (z : False) => z.elim⟩ w
    · have est : start N (.ref a :: us) = some (.ref a) :: (us.map some ++ List.replicate (N.length - (us.length + 1)) none) := by
        unfold L2.start
        simp
      refine ⟨fun _ h => h, fun _ h => .inl h, gi.gi, fun b o _ _ h => (remH_some h).1, fun b h => (by cases h), fun i => ?_, fun i j b hij m1 m2 => ?_, ?_, .refl, fun _ h => h.elim, fun _ h => h.elim, gi.tb, gi.tbs⟩
      · rw [est]
        cases i with
        | zero => exact ⟨a, dx, [], rfl, ha, rfl, nga, remH_self, rfl⟩
        | succ i => exact (start_val rs i).1
      · have nm : ∀ i, isMut (gt (slotsI N ps a C ds) (i + 1)) → False := fun i m => (start_val (K := K) (fr := ⟨remH H a, none, G, H, fun _ => False, fun _ => False, by simp, hht⟩) (m := N.length - ps.length) (n := 0) rs i).2 m
        cases i with
        | zero =>
          cases j with
          | zero => exact (hij rfl).elim
          | succ j => exact (nm j m2).elim
        | succ i => exact (nm i m1).elim
      · rw [est]
        unfold slotsI
        simp only [List.length_append, List.length_map, List.length_replicate, List.length_cons]
        omega
    · obtain ⟨ns, es, e0, qa⟩ := z
      have s0 := rl.slot 0
      rw [e0] at s0
      obtain ⟨a', dx', xs, e1, e2, e3, e4, e5, rfl⟩ := s0
      exact kv G' H' dx' ns xs es rl.post e4 e2 e3 qa
end
structure GoodI (P : Program) (w : World) (K : PySem.W.Frag) (mg : Str → Option Value) (base : Heap) (k : Nat) (C : Addr) (ps : List Str) (φ : AS) : Prop where
  ex : ∃ f fd, Mk K C f ∧ Binds K fd ps [] ∧ FnOk P w K mg base (L2.CX P w) k f fd ps (spI K C φ)
omit [TabC] in
structure IAt (K : PySem.W.Frag) (C : Addr) (qual : Str) (st : Stmt) (ps : List Str) : Prop where
  ex : ∃ f fd, Fun K "__init__" qual st f fd ∧ Mk K C f ∧ Binds K fd ps []
section
variable {P : Program} {w : World} {K : PySem.W.Frag} {mg : Str → Option Value} {base : Heap} {C : Addr} {qual : Str} {st : Stmt} {N ps : List Str} {k : Nat} {φ : AS} {Wb : WS}
theorem goodI (A : IAt K C qual st ps) (S : FnScope N ps (defScope st)) (hb : HB P w K mg base k qual st N Wb)
    (hφ : ∀ a ds Q R, φ ds Q R → ds.length + 1 = ps.length ∧ Wb (fun ex _ => R ex) ⟨fun ρ => ∃ ns es, gt ρ 0 = .slf a C ns es ∧ Q (.ins C ns es), fun _ _ => False, fun _ => False, fun _ => False⟩ (slotsI N ps a C ds)) : GoodI P w K mg base (k + 1) C ps φ := by
  obtain ⟨f, fd, F, hm, b⟩ := A.ex
  exact ⟨f, fd, hm, b, fnI F S (hb.use f) hφ⟩
end
/-- C(..) -/
def wMk (φ : AS) (Wr : WA) : WE := fun R ρ Q => Wr R ρ fun ds => φ ds Q R
@[simp ↓] theorem wMk_ {φ : AS} {Wr : WA} {R : EX → Prop} {ρ : Rho} {Q : D → Prop} : wMk φ Wr R ρ Q = Wr R ρ fun ds => @caK φ ds ⟨Q⟩ ⟨R⟩ := (rfl)
theorem Post.make {K : PySem.W.Frag} {fr : Fr} {G G' : GS} {ρ : Rho} {σ : L2.St} {H H' : Hp} {x dx dx' C : Addr} {fs : List (Str × V)} (r : Rel K fr G ρ σ H) (nx : H x = none) (nd : H dx = none) (ne : dx ≠ x)
    (po : Post K none G (remH (upd (upd H dx (.own x)) x (.ins C dx [])) x) G' H') (ng : ¬ G' x) (hx : H' x = some (.ins C dx' fs)) : Step K fr G ρ σ H (fun b => G' b ∨ b = x) H' := by
  have p2 : Post K none G H (fun b => G' b ∨ b = x) H' := by
    refine ⟨fun b o _ ht e => ?_, fun b g => .inl (po.gg b g), fun b g => ?_, fun b g => ?_, (fun a e => by cases e), fun b ht g => ?_, po.tbs⟩
    · have n1 : b ≠ x := fun z => by rw [z, nx] at e; cases e
      have n2 : b ≠ dx := fun z => by rw [z, nd] at e; cases e
      exact po.same b o (by simp) ht (by rw [remH_ne n1, upd_ne n1, upd_ne n2]; exact e)
    · rcases g with g | g
      · rcases po.gn b g with z | z
        · exact .inl z
        · by_cases e : b = x
          · subst e; exact .inr nx
          · rw [remH_ne e, upd_ne e] at z
            by_cases e2 : b = dx
            · subst e2; exact .inr nd
            · rw [upd_ne e2] at z; exact .inr z
      · subst g; exact .inr nx
    · rcases g with g | g
      · exact po.gi b g
      · subst g; exact ⟨_, hx⟩
    · rcases g with g | g
      · exact po.tb b ht g
      · subst g
        obtain ⟨ps, q⟩ := isT_some r.tbs ht
        rw [nx] at q; cases q
  exact p2.step r
theorem Post.unmade {K : PySem.W.Frag} {G G' : GS} {H H' : Hp} {x dx C : Addr} (nx : H x = none) (nd : H dx = none) (po : Post K none G (remH (upd (upd H dx (.own x)) x (.ins C dx [])) x) G' H') : Post K none G H G' H' := by
  refine ⟨fun b o _ ht e => ?_, po.gg, fun b g => ?_, po.gi, (fun a e => by cases e), po.tb, po.tbs⟩
  · have n1 : b ≠ x := fun z => by rw [z, nx] at e; cases e
    have n2 : b ≠ dx := fun z => by rw [z, nd] at e; cases e
    exact po.same b o (by simp) ht (by rw [remH_ne n1, upd_ne n1, upd_ne n2]; exact e)
  · rcases po.gn b g with z | z
    · exact .inl z
    · by_cases e : b = x
      · subst e; exact .inr nx
      · rw [remH_ne e, upd_ne e] at z
        by_cases e2 : b = dx
        · subst e2; exact .inr nd
        · rw [upd_ne e2] at z; exact .inr z
section
variable {X : Cx} {Wx : WX} {C : Addr} {m y x : Str} {e a value : Expr} {es : List Expr} {pos pos' p : Pos} {We : WE} {Wr : WA} {k n : Nat} {ps : List Str} {φ : AS}
theorem de_make (F : GoodI X.prog X.w X.K X.mg X.base k C ps φ) (hr : Room (n + 1) X.A) (hk : k ≤ n) (hm : X.mg x = some (.ref C)) (tk : Takes X Wx) (ha : DA X Wx (e :: es) Wr) (hg : Gl X x := by rfl) (hdb : (x == ("__debug__" : Str)) = false := by decide)
    (he : starEach (e :: es) X.env = (false, eval e X.env) :: starEach es X.env := by rfl) (hpl : (backTo pos (starEach es X.env)).any (·.1) = false := by rfl) : DE X Wx (.Call (.Name x p) (e :: es) [] pos) (wMk φ Wr) := by
  obtain ⟨t, pa, q⟩ := ha.ex
  obtain ⟨f, fd, M, hb, F⟩ := F.ex
  refine ⟨⟨_, pe_makeX M F (hr.mono (Nat.succ_le_succ hk)) hg hm hb (passAt tk) pa hdb he hpl, fun fr G ρ σ H R Qa Q rl hR w k => ?_⟩⟩
  refine q fr G ρ σ H R _ _ rl hR w fun vs ds G1 H1 s1 r1 w1 => ?_
  intro x dx nx nd ne
  have ngx : ¬ G1 x := fun g => by
    obtain ⟨o, e⟩ := s1.rel.gi x g
    rw [nx] at e; cases e
  have st : Stab G1 H1 (upd (upd H1 dx (.own x)) x (.ins C dx [])) := by
    have key : ∀ b o, H1 b = some o → upd (upd H1 dx (.own x)) x (.ins C dx []) b = some o := fun b o e => by
      have n1 : b ≠ x := fun z => by rw [z, nx] at e; cases e
      have n2 : b ≠ dx := fun z => by rw [z, nd] at e; cases e
      rw [upd_ne n1, upd_ne n2]; exact e
    exact ⟨fun b xs e => key b _ e, fun b o u e => key b _ e, fun b g => by
      obtain ⟨o, e⟩ := s1.rel.gi b g
      rw [e]; exact key b o e⟩
  have ky : ∀ b o, H1 b = some o → upd (upd H1 dx (.own x)) x (.ins C dx []) b = some o := fun b o e => by
    have n1 : b ≠ x := fun z => by rw [z, nx] at e; cases e
    have n2 : b ≠ dx := fun z => by rw [z, nd] at e; cases e
    rw [upd_ne n1, upd_ne n2]; exact e
  refine ⟨x, dx, vs, G1, ds, Qa, R, rfl, upd_same, ngx, ⟨fun b g => ?_, s1.rel.tb, s1.rel.tbs.ext ky⟩, Reps.stab st (fun _ h => h) ds vs r1, w1, fun G' H' dx' ns xs es po ng hx rs qa => ⟨rfl, ?_⟩, fun ex cls dd G' H' po er hr' => ?_⟩
  · obtain ⟨o, e⟩ := s1.rel.gi b g
    exact ⟨o, by rw [st.g b g]; exact e⟩
  · have s2 := Post.make s1.rel nx nd ne po ng hx
    exact k (.ref x) (.ins C ns es) _ H' (s1.trans s2) ⟨x, dx', xs, rfl, .inr rfl, hx, Reps.stab .refl (fun _ h => .inl h) es xs rs⟩ qa
  · exact hR ex cls dd G' H' hr' er (s1.trans ((Post.unmade nx nd po).step s1.rel)).rel
/-! self.f = e -/
def putN (f : Str) : List Str → List Str
  | [] => [f]
  | g :: r => if g = f then g :: r else g :: putN f r
def putX {α : Type} (f : Str) (v : α) : List Str → List α → List α
  | g :: r, x :: xs => if g = f then v :: xs else x :: putX f v r xs
  | _, _ => [v]
theorem putF_zip {f : Str} {v : V} : ∀ {ns : List Str} {xs : List V}, ns.length = xs.length → putF f v (ns.zip xs) = (putN f ns).zip (putX f v ns xs)
  | [], [], _ => rfl
  | g :: r, x :: xs, h => by
    have ih := putF_zip (f := f) (v := v) (ns := r) (xs := xs) (by simpa using h)
    rw [List.zip_cons_cons, putF, putN, putX]
    by_cases e : g = f
    · rw [if_pos e, if_pos e, if_pos e]; rfl
    · rw [if_neg e, if_neg e, if_neg e, ih]; rfl
theorem Reps.putX {K : PySem.W.Frag} {G : GS} {H : Hp} {f : Str} {d : D} {v : V} (hv : Rep K G H d v) : ∀ {ns : List Str} {ds : List D} {xs : List V}, Reps K G H ds xs → Reps K G H (AV.putX f d ns ds) (AV.putX f v ns xs)
  | [], [], _, h => by cases h; exact .one hv
  | [], d' :: ds, _, h => by obtain ⟨_, _, rfl, _, _⟩ := h; exact .one hv
  | _ :: _, [], _, h => by cases h; exact .one hv
  | g :: r, d' :: ds, _, h => by
    obtain ⟨u, us, rfl, r1, rs⟩ := h
    unfold AV.putX
    split
    · exact ⟨v, us, rfl, hv, rs⟩
    · exact ⟨u, _, rfl, r1, Reps.putX hv rs⟩
end
end AV

set_option maxRecDepth 100000
set_option maxHeartbeats 1000000
namespace AV
open PySem PySem.Spec PyProof.Rows L2
variable [TabC]
section
variable {K : PySem.W.Frag} {fr : Fr} {G : GS} {ρ : Rho} {σ : L2.St} {H : Hp}
theorem σ_same {i : Nat} {v : V} (ha : sv σ i = some v) : σ.set i (some v) = σ := by
  apply List.ext_getElem?
  intro j
  by_cases hj : i = j
  · subst hj
    have h := sv_some.mp ha
    have hl : i < σ.length := (List.getElem?_eq_some_iff.mp h).1
    rw [h, List.getElem?_set_self hl]
  · rw [List.getElem?_set_ne hj]
/-- the instance of slot i is changed -/
theorem Rel.updF {i : Nat} {b C dx : Addr} {ns ms : List Str} {ds es : List D} {a : Addr} {xs ys : List V} (r : Rel K fr G ρ σ H) (hi : gt ρ i = .slf b C ns ds) (ha : sv σ i = some (.ref a)) (e : H a = some (.ins C dx (ns.zip xs))) (hy : Reps K G H es ys) : Rel K fr G (ρ.set i (.slf b C ms es)) σ (L2.upd H a (.ins C dx (ms.zip ys))) := by
  have s := r.slot i
  rw [hi] at s
  obtain ⟨a', dx', xs', e1, e2, rs, ng, h0, hoa⟩ := s
  rw [ha] at e1
  cases e1
  have mi : isMut (gt ρ i) := by rw [hi]; trivial
  have hlt : i < ρ.length := gt_lt (by rw [hi]; intro z; cases z)
  have g1 : ∀ j, gt (ρ.set i .un) j = if j = i ∧ i < ρ.length then .un else gt ρ j := fun j => gt_set
  have nm : ∀ j, isMut (gt (ρ.set i .un) j) → sv σ j ≠ some (.ref a) := fun j m e3 => by
    rw [g1] at m
    by_cases hj : j = i ∧ i < ρ.length
    · rw [if_pos hj] at m; exact m
    · rw [if_neg hj] at m
      exact r.apart i j a (fun z => hj ⟨z.symm, hlt⟩) mi m ha e3
  have r1 := (r.setU i).chgO (u' := .ins C dx (ms.zip ys)) e (fun _ => by simp) (fun _ _ => by simp) (fun _ z => by cases z) ng h0 (fun hs => fr.hs a hs h0) nm
  have np : ¬ fr.Pv a := fun hp => (r.prv a hp).2.2.2 i mi ha
  have st : Stab G H (L2.upd H a (.ins C dx (ms.zip ys))) := ⟨fun b zs q => by
      rw [upd_ne (fun z => by rw [z, e] at q; cases q)]; exact q, fun b o u q => by
      rw [upd_ne (fun z => by rw [z, e] at q; cases q)]; exact q, fun b g => by
      have nb : b ≠ a := fun z => ng (by rw [← z]; exact g)
      rw [upd_ne nb]⟩
  have r2 := r1.set i (s := .slf b C ms es) (o := some (.ref a)) ⟨a, dx, ys, rfl, upd_same, Reps.stab st (fun _ h => h) _ _ hy, ng, h0, hoa⟩ fun _ b eb => by
    cases eb
    exact ⟨fun j hj m => nm j m, np⟩
  rw [List.set_set, σ_same ha] at r2
  exact r2
end
def wSetF (C : Addr) (i : Nat) (f : Str) (We : WE) : WS := fun R E ρ => match gt ρ i with | .slf b C' ns ds => C' = C ∧ We (fun ex => R ex ρ) ρ fun d => ns.length = ds.length ∧ ns.length < 1000 ∧ E.nx (ρ.set i (.slf b C (putN f ns) (putX f d ns ds))) | _ => False
class Ks where
  r : Addr → Addr → List Str → List D → Prop
def slfK (s : Slot) [K : Ks] : Prop := match s with | .slf b C ns ds => K.r b C ns ds | _ => False
@[simp ↓] theorem slfK_ {b C : Addr} {ns : List Str} {ds : List D} {Q : Addr → Addr → List Str → List D → Prop} : @slfK (.slf b C ns ds) ⟨Q⟩ = Q b C ns ds := (rfl)
@[simp ↓] theorem wSetF_ {C : Addr} {i : Nat} {f : Str} {We : WE} {RR : RS} {E : EndsA} {ρ : Rho} : wSetF C i f We RR E ρ = @slfK (gt ρ i) ⟨fun b C' ns ds => C' = C ∧ We (fun ex => RR ex ρ) ρ fun d => ns.length = ds.length ∧ ns.length < 1000 ∧ E.nx (ρ.set i (.slf b C (putN f ns) (putX f d ns ds)))⟩ := (rfl)
@[simp] theorem putN_nil {f : Str} : putN f [] = [f] := (rfl)
@[simp] theorem putN_cons {f g : Str} {r : List Str} : putN f (g :: r) = if g = f then g :: r else g :: putN f r := (rfl)
@[simp] theorem putX_nil {f : Str} {d : D} : putX f d [] [] = [d] := (rfl)
@[simp] theorem putX_cons {f g : Str} {d x : D} {r : List Str} {xs : List D} : putX f d (g :: r) (x :: xs) = if g = f then d :: xs else x :: putX f d r xs := (rfl)
@[simp] theorem isMut_slf {b C : Addr} {ns : List Str} {ds : List D} : isMut (.slf b C ns ds) = True := (rfl)
@[simp] theorem slotsI_ {N ps : List Str} {a C : Addr} {ds : List D} : slotsI N ps a C ds = .slf a C [] [] :: ds.map .val ++ List.replicate (N.length - ps.length) .un := (rfl)
section
variable {X : Cx} {Wx : WX} {C : Addr} {y f : Str} {e : Expr} {pos pos' p : Pos} {We : WE}
/-- self.f = e, self an instance of the class at C -/
theorem ds_setF (i : Nat) (c : Cls X.K C) (nf : NoAttr X.K C f) (h : DE X Wx e We) (hN : X.N[i]? = some y := by rfl) (hv : Vis X.env.scope y := by first | exact Or.inl rfl | exact Or.inr (Or.inl rfl) | exact Or.inr (Or.inr rfl)) (hd : (y == ("__debug__" : Str)) = false := by decide)
    (hcd : (y == ("__classdict__" : Str)) = false := by decide) (hs : swapsWith e (some (.Attribute (.Name y p) f pos')) pos.line X.env = pure false := by rfl) :
    DS X Wx (.Assign [.Attribute (.Name y p) f pos'] e pos) (wSetF C i f We) := by
  obtain ⟨t, pe, q⟩ := h.ex
  refine ⟨⟨_, ps_fld (pe_var hN hv hd hcd) pe hs, fun fr G ρ σ H R E F r hr ok w => ?_⟩⟩
  unfold wSetF at w
  split at w
  · rename_i b C' ns ds hi
    obtain ⟨rfl, w⟩ := w
    refine q fr G ρ σ H _ _ _ r hr.e w fun v d G1 H1 s1 rv w1 => ?_
    obtain ⟨hl, hn, w1⟩ := w1
    have s0 := s1.rel.slot i
    rw [hi] at s0
    obtain ⟨a, dx, xs, e1, e2, rs, ng, h0, hb⟩ := s0
    have hlx : ns.length = xs.length := by rw [rs.length]; exact hl
    refine ⟨_, sv_some.mp e1, a, C', dx, _, rfl, e2, c, nf, ?_, ?_⟩
    · rw [List.length_zip]; omega
    · rw [putF_zip hlx]
      exact ok.nx G1 _ σ _ (s1.rel.updF hi e1 e2 (Reps.putX rv rs)) w1
  · exact w.elim
end
omit [TabC] in
theorem mAt_mk {K : PySem.W.Frag} {C : Addr} {m qual : Str} {st : Stmt} {ps : List Str} {f : Addr} {oc : Value} {od an : Option Addr} {osl : Array (Option Value)} {kV doc pm cdv ct : Value}
    (hb : ∀ (kV doc pm : Value) (an : Option Addr) (cdv ct : Value) (us : List Value), us.length = ps.length → bindArgs (PySem.W.fnOf m qual (defArgs st) (defBody st) (defScope st) .none kV doc pm an cdv ct) ⟨us, []⟩ = pure (ps.zip us))
    (l : K.lookup f = some ⟨oc, od, .func (PySem.W.fnOf m qual (defArgs st) (defBody st) (defScope st) .none kV doc pm an cdv ct), osl⟩) (c : PySem.W.codeIn K cdv qual = true) (k : PySem.W.keepIn K (.ref f) = true)
    (a : PySem.W.findIn K (.ref C) m = some (some (.ref f))) (n : PySem.W.isFn K (.ref f) = true) : MAt K C m qual st ps :=
  ⟨f, _, fun_mk l c k, ⟨a, n, k⟩, (fun_mk l c k).binds hb⟩
omit [TabC] in
theorem iAt_mk {K : PySem.W.Frag} {C : Addr} {qual : Str} {st : Stmt} {ps : List Str} {f : Addr} {oc : Value} {od an : Option Addr} {osl : Array (Option Value)} {kV doc pm cdv ct : Value}
    (hb : ∀ (kV doc pm : Value) (an : Option Addr) (cdv ct : Value) (us : List Value), us.length = ps.length → bindArgs (PySem.W.fnOf "__init__" qual (defArgs st) (defBody st) (defScope st) .none kV doc pm an cdv ct) ⟨us, []⟩ = pure (ps.zip us))
    (l : K.lookup f = some ⟨oc, od, .func (PySem.W.fnOf "__init__" qual (defArgs st) (defBody st) (defScope st) .none kV doc pm an cdv ct), osl⟩) (c : PySem.W.codeIn K cdv qual = true) (k : PySem.W.keepIn K (.ref f) = true)
    (m : PySem.W.makesIn K C = true) (a : PySem.W.findIn K (.ref C) "__init__" = some (some (.ref f))) (n : PySem.W.isFn K (.ref f) = true) (p : PySem.W.keepIn K (.ref C) = true) : IAt K C qual st ps :=
  ⟨f, _, fun_mk l c k, ⟨m, a, n, p⟩, (fun_mk l c k).binds hb⟩
section
variable {g : WG} {Wt : WT} {We : WE} {ρ : Rho} {A : WS} {RR : RS} {E : EndsA}
theorem for_ds (I : List D → Rho → Prop) (step : ∀ a r ρ (nx : Rho → Prop), I (a :: r) ρ → (∀ ρ', I r ρ' → nx ρ') → g a ρ fun ρ' => A RR { nx := nx, rt := E.rt, bk := E.nx, ct := nx } ρ') (fin : ∀ ρ, I [] ρ → E.nx ρ) (r : List D) (ρ : Rho) (h : I r ρ) : @forK r ρ ⟨g, A, RR, E⟩ := by
  have := for_left (g := g) (A := A) (RR := RR) (E := E) id I (fun a r ρ nx h1 h2 => step a r ρ nx h1 h2) fin r ρ h
  rwa [List.map_id] at this
end
@[simp] theorem intEq_cast {a b : Nat} : ((a : Int) = (b : Int)) = (a = b) := propext ⟨fun h => by omega, fun h => by rw [h]⟩
@[simp] theorem atI_neg1 {x : D} {xs : List D} : atI (xs ++ [x]) (-1) = some x := atI_last
def isScr : D → Bool
  | .scr _ => true
  | _ => false
@[simp] theorem isScr_lst {xs : List D} : isScr (.lst xs) = false := (rfl)
@[simp] theorem isScr_tup {xs : List D} : isScr (.tup xs) = false := (rfl)
@[simp] theorem isScr_int {x : Int} : isScr (.int x) = false := (rfl)
@[simp] theorem isScr_bl {x : Bool} : isScr (.bl x) = false := (rfl)
@[simp] theorem isScr_str {x : Str} : isScr (.str x) = false := (rfl)
@[simp] theorem isScr_non : isScr .non = false := (rfl)
@[simp] theorem isScr_edic : isScr .edic = false := (rfl)
@[simp] theorem isScr_dic {ks ds : List D} : isScr (.dic ks ds) = false := (rfl)
@[simp] theorem isScr_ins {C : Addr} {ns : List Str} {ds : List D} : isScr (.ins C ns ds) = false := (rfl)
@[simp] theorem pln_ins {C : Addr} {ns : List Str} {ds : List D} : pln (.ins C ns ds) = false := by simp only [pln]
@[simp] theorem isScr_scr {ns : List Int} : isScr (.scr ns) = true := (rfl)
@[simp] theorem enumD_len {k : Nat} {xs : List D} : (enumD k xs).length = xs.length := enumD_length k xs
section
variable {g : WG} {We : WE} {ρ : Rho}
theorem comp_enumM {α : Type} (enc : α → D) (f : Nat → α → D) {xs : List α} {Q : List D → Prop} (h : ∀ i a, xs[i]? = some a → ∀ (K1 : D → Prop), K1 (f i a) → g (.tup [.int (i : Int), enc a]) ρ fun ρ' => We (fun _ => False) ρ' K1) (q : Q (xs.zipIdx.map fun z => f z.2 z.1)) : @compK ρ (enumD 0 (xs.map enc)) [] ⟨g, wYes, We, Q⟩ := by
  refine comp_enum enc (fun _ _ => true) f (fun i a hi K1 K0 h1 _ => ?_) (by rw [List.filter_eq_self.mpr (by simp)]; exact q)
  simp only [wYes_, if_true]
  exact h i a hi K1 (h1 rfl)
end
end AV

set_option maxRecDepth 100000
set_option maxHeartbeats 1000000
namespace AV
open PySem PySem.Spec PyProof.Rows L2
variable [TabC]
/-! a new list told by a def -/
mutual
def lfree : D → Bool
  | .tup ds => lfrees ds
  | .lst _ => false
  | .edic => false
  | .scr _ => false
  | .ins _ _ _ => false
  | .dic _ _ => false
  | _ => true
def lfrees : List D → Bool
  | [] => true
  | d :: ds => lfree d && lfrees ds
end
def nolst : D → Bool
  | .ins _ _ ds => lfrees ds
  | d => lfree d
section
variable {K : PySem.W.Frag} {G G' : GS} {H H' : Hp}
mutual
theorem Rep.free : ∀ (d : D) (v : V), lfree d = true → Rep K G H d v → Rep K G' H d v
  | .non, _, _, h => h
  | .bl _, _, _, h => h
  | .int _, _, _, h => h
  | .str _, _, _, h => h
  | .tup ds, v, l, h => by
    obtain ⟨a, xs, e, q, r⟩ := h
    simp only [lfree] at l
    exact ⟨a, xs, e, q, Reps.free ds xs l r⟩
  | .lst _, _, l, _ => by simp only [lfree] at l; cases l
  | .edic, _, l, _ => by simp only [lfree] at l; cases l
  | .dic _ _, _, l, _ => by simp only [lfree] at l; cases l
  | .scr _, _, l, _ => by simp only [lfree] at l; cases l
  | .ins _ _ _, _, l, _ => by simp only [lfree] at l; cases l
theorem Reps.free : ∀ (ds : List D) (xs : List V), lfrees ds = true → Reps K G H ds xs → Reps K G' H ds xs
  | [], _, _, h => h
  | d :: ds, _, l, h => by
    obtain ⟨v, vs, e, r, rs⟩ := h
    simp only [lfrees, Bool.and_eq_true] at l
    exact ⟨v, vs, e, Rep.free d v l.1 r, Reps.free ds vs l.2 rs⟩
end
def Gn (G : GS) (H : Hp) : GS := fun b => G b ∧ ∃ C dx fs, H b = some (.ins C dx fs)
theorem Rep.nolst {d : D} {v : V} (l : AV.nolst d = true) (h : Rep K G H d v) : Rep K (Gn G H) H d v := by
  cases d with
  | ins C ns ds =>
    obtain ⟨a, dx, xs, e, g, q, r⟩ := h
    exact ⟨a, dx, xs, e, ⟨g, _, _, _, q⟩, q, Reps.free ds xs l r⟩
  | _ => exact Rep.free _ v l h
theorem Reps.nolst : ∀ {ds : List D} {vs : List V}, ds.all AV.nolst = true → Reps K G H ds vs → Reps K (Gn G H) H ds vs
  | [], _, _, h => h
  | d :: ds, _, l, h => by
    obtain ⟨v, vs, e, r, rs⟩ := h
    rw [List.all_cons, Bool.and_eq_true] at l
    exact ⟨v, vs, e, Rep.nolst l.1 r, Reps.nolst l.2 rs⟩
end
def wCallF (φ : AS) (Wa : WA) : WE := fun R ρ Q => Wa R ρ fun ds => ds.all nolst = true ∧ φ ds (fun r => match r with | .lst es => lfrees es = true ∧ Q (.lst es) | _ => False) R
section
variable {X : Cx} {Wx : WX} {k n : Nat} {f : Addr} {fd : FuncData} {ps : List Str} {φ : AS} {x : Str} {p pos : Pos} {e : Expr} {es : List Expr} {Wa : WA}
theorem dn_callF (F : Good X.prog X.w X.K X.mg X.base k x ps (spV X.K φ)) (hr : Room n X.A) (hk : k ≤ n) (tk : Takes X Wx) (ha : DA X Wx (e :: es) Wa) (hg : Gl X x := by rfl) (hdb : (x == ("__debug__" : Str)) = false := by decide)
    (he : starEach (e :: es) X.env = (false, eval e X.env) :: starEach es X.env := by rfl) (hpl : (backTo pos (starEach es X.env)).any (·.1) = false := by rfl) : DN X Wx (.Call (.Name x p) (e :: es) [] pos) (wCallF φ Wa) := by
  obtain ⟨f, fd, hm, hkp, hb, F⟩ := F.ex
  obtain ⟨ta, pa, qa⟩ := ha.ex
  refine ⟨⟨_, pe_callS F (hr.mono hk) hg hm hkp hb (passAt tk) pa hdb he hpl, fun fr G ρ σ H R Qa Q rl hR w k => ?_⟩⟩
  refine qa fr G ρ σ H R _ _ rl hR w fun vs ds G1 H1 s1 r1 w1 => ?_
  obtain ⟨hn, w1⟩ := w1
  have g1 := s1.rel.gi
  refine ⟨Gn G1 H1, ds, _, R, ⟨fun b g => g1 b g.1, fun b ht g => s1.rel.tb b ht g.1, s1.rel.tbs⟩, Reps.nolst hn r1, w1, fun v d G2 H2 po rv qd => ?_, fun ex cls dd G2 H2 po rv qd => ?_⟩
  · cases d with
    | lst es =>
      obtain ⟨hl, qd⟩ := qd
      obtain ⟨a, xs, rfl, ga, ea, rs⟩ := rv
      have na : H1 a = none := by
        rcases po.gn a ga with z | z
        · obtain ⟨_, C, dx, fs, q⟩ := z
          have := po.same a _ (by simp) (notT s1.rel.tbs q fun _ z => by cases z) q
          rw [ea] at this; cases this
        · exact z
      have p2 : Post X.K none G1 H1 G1 H2 := ⟨po.same, fun _ h => h, fun _ h => .inl h, fun b h => by
        obtain ⟨o, q⟩ := g1 b h
        exact ⟨o, po.same b o (by simp) (fun z => s1.rel.tb b z h) q⟩, (fun a e => by cases e), s1.rel.tb, po.tbs⟩
      have ng : ¬ G1 a := fun g => by
        obtain ⟨o, q⟩ := g1 a g
        rw [na] at q; cases q
      exact k a xs es G1 H2 (s1.trans (p2.step s1.rel)) (s1.up a na) ea ng (Reps.free es xs hl rs) qd
    | _ => exact qd.elim
  · have p3 : Post X.K none G1 H1 (fun b => G1 b ∨ G2 b) H2 := ⟨po.same, fun _ h => .inl h, fun b h => by
      rcases h with h | h
      · exact .inl h
      · rcases po.gn b h with z | z
        · exact .inl z.1
        · exact .inr z, fun b h => by
      rcases h with h | h
      · obtain ⟨o, q⟩ := g1 b h
        exact ⟨o, po.same b o (by simp) (fun z => s1.rel.tb b z h) q⟩
      · exact po.gi b h, (fun a e => by cases e), fun b ht h => h.elim (s1.rel.tb b ht) (po.tb b ht), po.tbs⟩
    exact hR ex cls dd _ H2 qd (rv.stab .refl fun _ h => .inr h) (p3.step s1.rel).rel
end
def newK (d : D) [K : Kn (List D)] : Prop := match d with | .lst es => lfrees es = true ∧ K.r es | _ => False
@[simp ↓] theorem newK_ {es : List D} {Q : List D → Prop} : @newK (.lst es) ⟨Q⟩ = (lfrees es = true ∧ Q es) := (rfl)
@[simp ↓] theorem wCallF_ {φ : AS} {Wa : WA} {R : EX → Prop} {ρ : Rho} {Q : D → Prop} : wCallF φ Wa R ρ Q = Wa R ρ fun ds => ds.all nolst = true ∧ @caK φ ds ⟨fun r => @newK r ⟨fun es => Q (.lst es)⟩⟩ ⟨R⟩ := (rfl)
theorem lfrees_all : ∀ ds : List D, lfrees ds = ds.all lfree
  | [] => by simp [lfrees]
  | d :: ds => by simp only [lfrees, List.all_cons, lfrees_all ds]
@[simp] theorem lfrees_nil : lfrees [] = true := by simp [lfrees]
@[simp] theorem lfrees_cons {d : D} {ds : List D} : lfrees (d :: ds) = (lfree d && lfrees ds) := by simp only [lfrees]
@[simp] theorem lfrees_map {α : Type} {f : α → D} {xs : List α} : lfrees (xs.map f) = xs.all fun x => lfree (f x) := by rw [lfrees_all, List.all_map]; rfl
@[simp] theorem lfree_tup {ds : List D} : lfree (.tup ds) = lfrees ds := by simp only [lfree]
@[simp] theorem lfree_int {i : Int} : lfree (.int i) = true := by simp only [lfree]
@[simp] theorem lfree_bl {i : Bool} : lfree (.bl i) = true := by simp only [lfree]
@[simp] theorem lfree_str {i : Str} : lfree (.str i) = true := by simp only [lfree]
@[simp] theorem lfree_non : lfree .non = true := by simp only [lfree]
@[simp] theorem nolst_ins {C : Addr} {ns : List Str} {ds : List D} : nolst (.ins C ns ds) = lfrees ds := (rfl)
@[simp] theorem nolst_tup {ds : List D} : nolst (.tup ds) = lfrees ds := lfree_tup
@[simp] theorem nolst_int {i : Int} : nolst (.int i) = true := lfree_int (i := i)
@[simp] theorem nolst_bl {i : Bool} : nolst (.bl i) = true := lfree_bl (i := i)
@[simp] theorem nolst_str {i : Str} : nolst (.str i) = true := lfree_str (i := i)
@[simp] theorem nolst_non : nolst .non = true := lfree_non
end AV

set_option maxRecDepth 100000
set_option maxHeartbeats 1000000
namespace AV
open PySem PySem.Spec PyProof.Rows L2
variable [TabC]
/-! list * n, list + list: new lists -/
def oMulL : D → D → (D → Prop) → Prop
  | .lst xs, .int k, Q => -(2 ^ 63) ≤ k ∧ k < 2 ^ 63 ∧ xs.length * k.toNat ≤ 16777216 ∧ Q (.lst (List.replicate k.toNat xs).flatten)
  | _, _, _ => False
def oAddL : D → D → (D → Prop) → Prop
  | .lst xs, .lst ys, Q => xs.length + ys.length ≤ 16777216 ∧ Q (.lst (xs ++ ys))
  | _, _, _ => False
@[simp ↓] theorem oMulL_lst {xs : List D} {k : Int} {Q : D → Prop} : @opK oMulL (.lst xs) (.int k) ⟨Q⟩ = (-(2 ^ 63) ≤ k ∧ k < 2 ^ 63 ∧ xs.length * k.toNat ≤ 16777216 ∧ Q (.lst (List.replicate k.toNat xs).flatten)) := (rfl)
@[simp ↓] theorem oAddL_lst {xs ys : List D} {Q : D → Prop} : @opK oAddL (.lst xs) (.lst ys) ⟨Q⟩ = (xs.length + ys.length ≤ 16777216 ∧ Q (.lst (xs ++ ys))) := (rfl)
section
variable {X : Cx} {Wx : WX} {a b : Expr} {pos : Pos} {Wa Wb : WE}
theorem not_new {K : PySem.W.Frag} {fr : Fr} {G : GS} {ρ : Rho} {σ : L2.St} {H : Hp} {p : Addr} (r : Rel K fr G ρ σ H) (n : H p = none) : ¬ G p := fun g => by
  obtain ⟨o, e⟩ := r.gi p g
  rw [n] at e; cases e
theorem dn_mulL (ha : DL X Wx a Wa) (hb : DL X Wx b Wb) : DN X Wx (.BinOp a .Mult b pos) (wOp oMulL Wa Wb) := by
  obtain ⟨ta, pa, qa⟩ := ha.ex
  obtain ⟨tb, pb, qb⟩ := hb.ex
  refine ⟨⟨_, pe_op op_rep pa pb, fun fr G ρ σ H R Qa Q rl hr w k => ?_⟩⟩
  refine qa fr G ρ σ H R _ _ rl hr w fun v d G1 H1 s1 r1 w1 => ?_
  refine qb fr G1 ρ σ H1 R _ _ s1.rel hr w1 fun v2 d2 G2 H2 s2 r2 w2 => ?_
  cases d <;> cases d2 <;> simp only [oMulL] at w2
  rename_i ds i
  obtain ⟨p, xs, rfl, q1, r1⟩ := (r1.step s2).lst s2.rel
  rw [r2.int]
  refine ⟨p, i, xs, rfl, rfl, q1, w2.1, w2.2.1, by rw [r1.length, ← line_eq]; exact w2.2.2.1, fun q np => ?_⟩
  have s3 := Step.new (o := .lst (List.replicate i.toNat xs).flatten) s2.rel np
  exact k q _ (List.replicate i.toNat ds).flatten _ _ ((s1.trans s2).trans s3) ((s1.trans s2).up q np) upd_same (not_new s2.rel np) (s3.reps (r1.rep _)) w2.2.2.2
theorem dn_addL (ha : DL X Wx a Wa) (hb : DL X Wx b Wb) : DN X Wx (.BinOp a .Add b pos) (wOp oAddL Wa Wb) := by
  obtain ⟨ta, pa, qa⟩ := ha.ex
  obtain ⟨tb, pb, qb⟩ := hb.ex
  refine ⟨⟨_, pe_op op_cat pa pb, fun fr G ρ σ H R Qa Q rl hr w k => ?_⟩⟩
  refine qa fr G ρ σ H R _ _ rl hr w fun v d G1 H1 s1 r1 w1 => ?_
  refine qb fr G1 ρ σ H1 R _ _ s1.rel hr w1 fun v2 d2 G2 H2 s2 r2 w2 => ?_
  cases d <;> cases d2 <;> simp only [oAddL] at w2
  rename_i ds es
  obtain ⟨p, xs, rfl, q1, r1⟩ := (r1.step s2).lst s2.rel
  obtain ⟨p', ys, rfl, q2, r2⟩ := r2.lst s2.rel
  refine ⟨p, p', xs, ys, rfl, rfl, q1, q2, by rw [r1.length, r2.length, ← line_eq]; exact w2.1, fun q np => ?_⟩
  have s3 := Step.new (o := .lst (xs ++ ys)) s2.rel np
  exact k q _ (ds ++ es) _ _ ((s1.trans s2).trans s3) ((s1.trans s2).up q np) upd_same (not_new s2.rel np) (s3.reps (r1.append r2)) w2.2
end
theorem rep_flat {α : Type} {x : α} : ∀ n : Nat, (List.replicate n [x]).flatten = List.replicate n x
  | 0 => rfl
  | n + 1 => by rw [List.replicate_succ, List.flatten_cons, rep_flat n]; rfl
@[simp] theorem rep_flatten {x : D} {n : Nat} : (List.replicate n [x]).flatten = List.replicate n x := rep_flat n
end AV

set_option maxRecDepth 100000
set_option maxHeartbeats 1000000
namespace AV
open PySem PySem.Spec PyProof.Rows L2
variable [TabC]
/-! a call to which own lists are handed, and which tells no list -/
/-- with the own lists -/
def Go (G : GS) (ρ : Rho) (σ : L2.St) : GS := fun b => G b ∨ ∃ i oa ds, gt ρ i = .own oa ds ∧ sv σ i = some (.ref b)
section
variable {K : PySem.W.Frag} {fr : Fr} {G : GS} {ρ : Rho} {σ : L2.St} {H : Hp}
theorem Go.there (r : Rel K fr G ρ σ H) : ∀ b, Go G ρ σ b → ∃ o, H b = some o := fun b h => by
  rcases h with h | ⟨i, oa, ds, hi, hb⟩
  · exact r.gi b h
  · have s := r.slot i
    rw [hi] at s
    obtain ⟨a, xs, e1, e2, _⟩ := s
    rw [hb] at e1
    cases e1
    exact ⟨_, e2⟩
theorem Go.notT (r : Rel K fr G ρ σ H) (b : Addr) (h : Go G ρ σ b) : ¬ isT b := by
  rcases h with h | ⟨i, oa, ds, hi, hb⟩
  · exact fun z => r.tb b z h
  · have s := r.slot i
    rw [hi] at s
    obtain ⟨a, xs, e1, e2, _⟩ := s
    rw [hb] at e1
    cases e1
    exact AV.notT r.tbs e2 fun _ z => by cases z
theorem RepL.go (r : Rel K fr G ρ σ H) {d : D} {v : V} (h : RepL K G ρ σ H d v) : Rep K (Go G ρ σ) H d v := by
  rcases h with h | ⟨i, oa, ds, hi, rfl, hv⟩
  · exact Rep.stab .refl (fun _ h => .inl h) d v h
  · have s := r.slot i
    rw [hi] at s
    obtain ⟨a, xs, e1, e2, rs, _⟩ := s
    rw [hv] at e1
    have : v = .ref a := by simpa using e1
    subst this
    exact ⟨a, xs, rfl, .inr ⟨i, oa, ds, hi, hv⟩, e2, Reps.stab .refl (fun _ h => .inl h) ds xs rs⟩
theorem RepLs.go (r : Rel K fr G ρ σ H) : ∀ {ds : List D} {vs : List V}, RepLs K G ρ σ H ds vs → Reps K (Go G ρ σ) H ds vs
  | [], _, h => h
  | d :: ds, _, ⟨v, vs, e, h1, h2⟩ => ⟨v, vs, e, RepL.go r h1, RepLs.go r h2⟩
end
def wCallB (φ : AS) (Wa : WA) : WE := fun R ρ Q => Wa R ρ fun ds => φ ds (fun r => lfree r = true ∧ Q r) (fun ex => ex.ns = [] ∧ ex.ds = [] ∧ R ex)
section
variable {X : Cx} {Wx : WX} {k n : Nat} {ps : List Str} {φ : AS} {x : Str} {p pos : Pos} {e : Expr} {es : List Expr} {Wa : WA}
theorem dcB (F : Good X.prog X.w X.K X.mg X.base k x ps (spV X.K φ)) (hr : Room n X.A) (hk : k ≤ n) (tk : Takes X Wx) (ha : DAL X Wx (e :: es) Wa) (hg : Gl X x := by rfl) (hdb : (x == ("__debug__" : Str)) = false := by decide)
    (he : starEach (e :: es) X.env = (false, eval e X.env) :: starEach es X.env := by rfl) (hpl : (backTo pos (starEach es X.env)).any (·.1) = false := by rfl) : DE X Wx (.Call (.Name x p) (e :: es) [] pos) (wCallB φ Wa) := by
  obtain ⟨f, fd, hm, hkp, hb, F⟩ := F.ex
  obtain ⟨ta, pa, qa⟩ := ha.ex
  refine ⟨⟨_, pe_callS F (hr.mono hk) hg hm hkp hb (passAt tk) pa hdb he hpl, fun fr G ρ σ H R Qa Q rl hR w k => ?_⟩⟩
  refine qa fr G ρ σ H R _ _ rl hR w fun vs ds G1 H1 s1 r1 w1 => ?_
  have p2 : ∀ {G2 : GS} {H2 : Hp}, Post X.K none (Go G1 ρ σ) H1 G2 H2 → Post X.K none G1 H1 G1 H2 := fun po => ⟨po.same, fun _ h => h, fun _ h => .inl h, fun b h => by
    obtain ⟨o, q⟩ := s1.rel.gi b h
    exact ⟨o, po.same b o (by simp) (fun z => s1.rel.tb b z h) q⟩, (fun a e => by cases e), s1.rel.tb, po.tbs⟩
  refine ⟨Go G1 ρ σ, ds, _, _, ⟨Go.there s1.rel, fun b ht g => ?_, s1.rel.tbs⟩, RepLs.go s1.rel r1, w1, fun v d G2 H2 po rv qd => ?_, fun ex cls dd G2 H2 po rv qd => ?_⟩
  · obtain ⟨o, q⟩ := Go.there s1.rel b g
    exact Go.notT s1.rel b g ht
  · exact k v d G1 H2 (s1.trans ((p2 po).step s1.rel)) (Rep.free d v qd.1 rv) qd.2
  · obtain ⟨h1, h2, qd⟩ := qd
    cases rv with
    | bare => exact hR _ _ _ G1 H2 qd .bare ((p2 po).step s1.rel).rel
    | «with» nn _ _ _ _ => exact (nn h1).elim
end
@[simp ↓] theorem wCallB_ {φ : AS} {Wa : WA} {R : EX → Prop} {ρ : Rho} {Q : D → Prop} : wCallB φ Wa R ρ Q = Wa R ρ fun ds => @caK φ ds ⟨fun r => lfree r = true ∧ Q r⟩ ⟨fun ex => ex.ns = [] ∧ ex.ds = [] ∧ R ex⟩ := (rfl)
end AV

set_option maxRecDepth 100000
set_option maxHeartbeats 1000000
namespace AV
open PySem PySem.Spec PyProof.Rows L2
variable [TabC]
/-! xs[::-1] of a list -/
def wRevL (We : WE) : WE := fun R ρ Q => We R ρ fun d => @lstK d ⟨fun xs => Q (.lst xs.reverse)⟩
@[simp ↓] theorem wRevL_ {We : WE} {R : EX → Prop} {ρ : Rho} {Q : D → Prop} : wRevL We R ρ Q = We R ρ fun d => @lstK d ⟨fun xs => Q (.lst xs.reverse)⟩ := (rfl)
section
variable {X : Cx} {Wx : WX} {e : Expr} {We : WE} {k : Nat} {p1 p2 p3 pos : Pos}
theorem dn_revL (h : DL X Wx e We) : DN X Wx (.Subscript e (.Slice none none (some (.UnaryOp .USub (.Constant (.int 1) k p1) p2)) p3) pos) (wRevL We) := by
  obtain ⟨t, p, q⟩ := h.ex
  refine ⟨⟨_, pe_revL p, fun fr G ρ σ H R Qa Q rl hr w k => ?_⟩⟩
  refine q fr G ρ σ H R _ _ rl hr w fun v d G1 H1 s1 r1 w1 => ?_
  cases d <;> try exact w1.elim
  rename_i ds
  obtain ⟨a, xs, rfl, sq, rs⟩ := r1.lst s1.rel
  refine ⟨a, xs, rfl, .of sq, fun q nq => ?_⟩
  have s3 := Step.new (o := .lst xs.reverse) s1.rel nq
  exact k q _ ds.reverse _ _ (s1.trans s3) (s1.up q nq) upd_same (not_new s1.rel nq) (s3.reps rs.reverse) w1
end
theorem at_nat {xs : List D} {i : Int} {d : D} (h0 : 0 ≤ i) (h : xs[i.toNat]? = some d) : atI xs i = some d := by
  have hl : i.toNat < xs.length := (List.getElem?_eq_some_iff.mp h).1
  unfold atI ixN
  rw [if_pos h0, if_pos (by omega)]
  exact h
theorem ixN_nat {n i : Nat} (h : i < n) : ixN n (i : Int) = some i := by
  unfold ixN
  rw [if_pos (by omega), if_pos (by omega)]; simp
theorem getD_of {α : Type} {xs : List α} {i : Nat} {d : α} (h : i < xs.length) : xs.getD i d = xs[i] := by
  simp [List.getD, List.getElem?_eq_getElem h]
end AV

set_option maxRecDepth 100000
set_option maxHeartbeats 1000000
namespace AV
open PySem PySem.Spec PyProof.Rows L2
variable [TabC]
/-! list(range(n)), tuple(range(n)) -/
def wLRg (We : WE) : WE := fun R ρ Q => We R ρ fun d => @intK d ⟨fun n => (-(2 ^ 62) ≤ n ∧ n ≤ 16777216) ∧ Q (.lst (rngL 0 n.toNat))⟩
@[simp ↓] theorem wLRg_ {We : WE} {R : EX → Prop} {ρ : Rho} {Q : D → Prop} : wLRg We R ρ Q = We R ρ fun d => @intK d ⟨fun n => (-(2 ^ 62) ≤ n ∧ n ≤ 16777216) ∧ Q (.lst (rngL 0 n.toNat))⟩ := (rfl)
def wTRg (We : WE) : WE := fun R ρ Q => We R ρ fun d => @intK d ⟨fun n => (-(2 ^ 62) ≤ n ∧ n ≤ 16777216) ∧ Q (.tup (rngL 0 n.toNat))⟩
@[simp ↓] theorem wTRg_ {We : WE} {R : EX → Prop} {ρ : Rho} {Q : D → Prop} : wTRg We R ρ Q = We R ρ fun d => @intK d ⟨fun n => (-(2 ^ 62) ≤ n ∧ n ≤ 16777216) ∧ Q (.tup (rngL 0 n.toNat))⟩ := (rfl)
theorem reps_rg {K : PySem.W.Frag} {G : GS} {H : Hp} {n : Int} : Reps K G H (rngL 0 n.toNat) (rgV 0 n) := by
  have e1 : rngL 0 n.toNat = ((List.range n.toNat).map fun (i : Nat) => (0 : Int) + (i : Int)).map D.int := by
    unfold rngL; rw [List.map_map]; rfl
  have e2 : rgV 0 n = ((List.range n.toNat).map fun (i : Nat) => (0 : Int) + (i : Int)).map V.int := by
    unfold rgV; rw [List.map_map, Int.sub_zero]; rfl
  rw [e1, e2]
  exact Reps.of_ints
section
variable {X : Cx} {Wx : WX} {e : Expr} {We : WE} {p1 p2 pos pos2 : Pos}
theorem dn_listRg (hc : X.calm = true) (hg : Gl X "list") (hm : X.mg "list" = none) (hg2 : Gl X "range") (hm2 : X.mg "range" = none) (h : DE X Wx e We)
    (n1 : starEach [e] X.env = (false, eval e X.env) :: starEach [] X.env := by rfl) (n2 : starEach [.Call (.Name "range" p2) [e] [] pos2] X.env = (false, eval (.Call (.Name "range" p2) [e] [] pos2) X.env) :: starEach [] X.env := by rfl) :
    DN X Wx (.Call (.Name "list" p1) [.Call (.Name "range" p2) [e] [] pos2] [] pos) (wLRg We) := by
  obtain ⟨t, p, q⟩ := h.ex
  refine ⟨⟨_, pe_listRg hc hg hm (prg_1 hg2 hm2 p n1) n2, fun fr G ρ σ H R Qa Q rl hr w k => ?_⟩⟩
  refine q fr G ρ σ H R _ _ rl hr w fun v d G1 H1 s1 r1 w1 => ?_
  cases d <;> try exact w1.elim
  rename_i n
  have r1 : v = .int n := r1
  rw [r1]
  obtain ⟨⟨b1, b2⟩, w1⟩ := w1
  refine ⟨n, rfl, ⟨by omega, by omega, b1, by omega, by omega⟩, fun q nq => ?_⟩
  have s3 := Step.new (o := .lst (rgV 0 n)) s1.rel nq
  exact k q _ _ _ _ (s1.trans s3) (s1.up q nq) upd_same (not_new s1.rel nq) reps_rg w1
theorem de_tupRg (hc : X.calm = true) (hg : Gl X "tuple") (hm : X.mg "tuple" = none) (hg2 : Gl X "range") (hm2 : X.mg "range" = none) (h : DE X Wx e We)
    (n1 : starEach [e] X.env = (false, eval e X.env) :: starEach [] X.env := by rfl) (n2 : starEach [.Call (.Name "range" p2) [e] [] pos2] X.env = (false, eval (.Call (.Name "range" p2) [e] [] pos2) X.env) :: starEach [] X.env := by rfl) :
    DE X Wx (.Call (.Name "tuple" p1) [.Call (.Name "range" p2) [e] [] pos2] [] pos) (wTRg We) := by
  obtain ⟨t, p, q⟩ := h.ex
  refine ⟨⟨_, pe_tupRg hc hg hm (prg_1 hg2 hm2 p n1) n2, fun fr G ρ σ H R Qa Q rl hr w k => ?_⟩⟩
  refine q fr G ρ σ H R _ _ rl hr w fun v d G1 H1 s1 r1 w1 => ?_
  cases d <;> try exact w1.elim
  rename_i n
  have r1 : v = .int n := r1
  rw [r1]
  obtain ⟨⟨b1, b2⟩, w1⟩ := w1
  refine ⟨n, rfl, ⟨by omega, by omega, b1, by omega, by omega⟩, fun q nq => ?_⟩
  have s3 := Step.new (o := .tup (rgV 0 n)) s1.rel nq
  exact k _ (.tup (rngL 0 n.toNat)) _ _ (s1.trans s3) ⟨q, _, rfl, .of upd_same, reps_rg⟩ w1
end
end AV

set_option maxRecDepth 100000
set_option maxHeartbeats 2000000
namespace AV
open PySem PySem.Spec PyProof.Rows L2
variable [TabC]
/-! comprehensions of two clauses -/
def innW (g1 : WG) (Wt1 : WT) (We : WE) (ρ : Rho) : List D → List D → (List D → Prop) → Prop
  | [], acc, Q => Q acc
  | e :: es, acc, Q => g1 e ρ fun ρ' => Wt1 (fun _ => False) ρ' fun k => if k = true then We (fun _ => False) ρ' fun y => acc.length < 16777216 ∧ innW g1 Wt1 We ρ es (acc ++ [y]) Q else innW g1 Wt1 We ρ es acc Q
def compW2 (g : WG) (Wt : WT) (Wi1 : WI) (vs1 : List Nat) (g1 : WG) (Wt1 : WT) (We : WE) (ρ : Rho) : List D → List D → (List D → Prop) → Prop
  | [], acc, Q => Q acc
  | d :: ds, acc, Q => g d ρ fun ρ' => Wt (fun _ => False) ρ' fun k => if k = true then noMut ρ' vs1 ∧ Wi1 (fun _ => False) ρ' fun es => innW g1 Wt1 We (wipeR ρ' vs1) es acc fun acc' => compW2 g Wt Wi1 vs1 g1 Wt1 We ρ ds acc' Q else compW2 g Wt Wi1 vs1 g1 Wt1 We ρ ds acc Q
def wLc2 (Wi : WI) (g : WG) (Wt : WT) (Wi1 : WI) (g1 : WG) (Wt1 : WT) (We : WE) (vs vs1 : List Nat) : WE := fun R ρ Q => noMut ρ vs ∧ Wi R ρ fun ds => compW2 g Wt Wi1 vs1 g1 Wt1 We (wipeR ρ vs) ds [] fun ys => Q (.lst ys)
/-- what stands while the list D is made -/
structure Core (K : PySem.W.Frag) (fr fr2 : Fr) (G1 : GS) (H1 : Hp) (D' : Addr) (ρ : Rho) (σ : L2.St) (G2 : GS) (H' : Hp) (xs : List V) (ys : List D) : Prop where
  rel : Rel K fr2 G2 ρ σ H'
  stab : Stab G1 H1 H'
  gg : ∀ b, G1 b → G2 b
  gn : ∀ b, G2 b → G1 b ∨ H1 b = none
  up : ∀ b, H' b = none → H1 b = none
  kp : ∀ b, fr.Pv b → H' b = H1 b
  hD : H' D' = some (.lst xs)
  ng : ¬ G2 D'
  rs : Reps K G2 H' ys xs
section
variable {K : PySem.W.Frag} {fr fr2 : Fr} {G1 G2 G3 : GS} {H1 H' H3 : Hp} {D' : Addr} {ρ ρb : Rho} {σ σb : L2.St} {xs : List V} {ys : List D}
/-- a step of the block's -/
theorem Core.step (hfr : ({ fr with Pv := fun b => fr.Pv b ∨ b = D' } : Fr) = fr2) (c : Core K fr fr2 G1 H1 D' ρ σ G2 H' xs ys) (s : Step K fr2 G2 ρb σb H' G3 H3) (rel : Rel K fr2 G3 ρ σ H3) : Core K fr fr2 G1 H1 D' ρ σ G3 H3 xs ys where
  rel := rel
  stab := c.stab.trans s.stab c.gg
  gg := fun b h => s.gg b (c.gg b h)
  gn := fun b h => by
    rcases s.gnew b h with z | z
    · exact c.gn b z
    · exact .inr (c.up b z)
  up := fun b h => c.up b (s.up b h)
  kp := fun b h => by rw [s.keep b (by rw [← hfr]; exact .inl h)]; exact c.kp b h
  hD := by rw [s.keep D' (by rw [← hfr]; exact .inr rfl)]; exact c.hD
  ng := (rel.prv D' (by rw [← hfr]; exact .inr rfl)).1
  rs := s.reps c.rs
theorem Core.app (h0 : fr2.H0 D' = none) (nst : fr2.st0 ≠ some D') (nP : ∀ b, fr.Pv b → b ≠ D') (nm : ∀ i, isMut (gt ρ i) → sv σ i ≠ some (.ref D')) {d : D} {v : V} (c : Core K fr fr2 G1 H1 D' ρ σ G2 H' xs ys) (hv : Rep K G2 H' d v) : Core K fr fr2 G1 H1 D' ρ σ G2 (upd H' D' (.lst (xs ++ [v]))) (xs ++ [v]) (ys ++ [d]) where
  rel := c.rel.chg c.hD c.ng h0 nst nm
  stab := c.stab.trans (stab_chg c.hD c.ng) c.gg
  gg := c.gg
  gn := c.gn
  up := fun b h => by
    unfold upd at h
    split at h
    · cases h
    · exact c.up b h
  kp := fun b h => by rw [upd_ne (nP b h)]; exact c.kp b h
  hD := upd_same
  ng := c.ng
  rs := Reps.stab (stab_chg c.hD c.ng) (fun _ h => h) _ _ (c.rs.append (.one hv))
end
def canI (K : PySem.W.Frag) (W : WI) : TI := fun σ H Rr => ∃ fr G ρ Qa, Rel K fr G ρ σ H ∧ W (fun _ => False) ρ Qa ∧ ∀ J cs vs ds G' H', Step K fr G ρ σ H G' H' → Reps K G' H' cs vs → ItOk K J cs vs ds → Qa ds → Rr J H'
theorem DI.can {X : Cx} {tg iter : Expr} {W : WI} (h : DI X W0 tg iter W) : PI X tg iter (canI X.K W) := by
  obtain ⟨t, p, q⟩ := h.ex
  exact ⟨fun pins s σ H R I ⟨fr, G, ρ, Qa, rl, w, k⟩ => p.run pins s σ H R I (q fr G ρ σ H _ Qa R rl raise0 w k)⟩
section
variable {X : Cx} {Wx : WX} {Wi Wi1 : WI} {g g1 : WG} {Wt Wt1 : WT} {We : WE} {vs vs1 ws : List Nat}
theorem lc2_go {wi : TI} (hsub : ∀ v ∈ ws, v ∈ vs) (hsub1 : ∀ v ∈ vs1, v ∈ vs)
    (qi : ∀ fr G ρ σ H R Qa Rr, Rel X.K fr G ρ σ H → RaiseE X.K Wx fr ρ σ R → Wi R ρ Qa → (∀ J cs us ds G' H', Step X.K fr G ρ σ H G' H' → RepLs X.K G' ρ σ H' cs us → ItOk X.K J cs us ds → Qa ds → Rr J H') → wi σ H Rr) :
    ∀ fr G ρ σ H R Qa Q, Rel X.K fr G ρ σ H → RaiseE X.K Wx fr ρ σ R → wLc2 Wi g Wt Wi1 g1 Wt1 We vs vs1 R ρ Qa →
      (∀ p xs ds G' H', Step X.K fr G ρ σ H G' H' → H p = none → H' p = some (.lst xs) → ¬ G' p → Reps X.K G' H' ds xs → Qa (.lst ds) → Q (.ref p) H') →
      tLc2 wi (canG X.K ws g) (canT X.K Wt) (canI X.K Wi1) (canG X.K vs1 g1) (canT X.K Wt1) (canE X.K W0 We) vs vs1 σ H Q := by
  intro fr G ρ σ H R Qa Q rl hr w k
  obtain ⟨hn, w⟩ := w
  refine qi fr G ρ σ H R _ _ rl hr w fun J cs us ds G1 H1 s1 rc ok w1 => ?_
  intro D nD
  have nDH : H D = none := s1.up D nD
  have h0 : fr.H0 D = none := rl.h0 nDH
  have ngD : ¬ G1 D := not_new s1.rel nD
  have nmD : ∀ i, isMut (gt ρ i) → sv σ i ≠ some (.ref D) := rl.not_mut nDH
  have nst : fr.st0 ≠ some D := fun e => by
    obtain ⟨_, zs, q, _⟩ := rl.sta D e
    rw [nDH] at q; cases q
  have nP : ∀ b, fr.Pv b → b ≠ D := fun b hb e => by
    obtain ⟨_, ⟨o, q⟩, _⟩ := s1.rel.prv b hb
    rw [e, nD] at q; cases q
  generalize hfr : ({ fr with Pv := fun b => fr.Pv b ∨ b = D } : Fr) = fr2
  have e0 : fr2.H0 D = none := by rw [← hfr]; exact h0
  have est : fr2.st0 ≠ some D := by rw [← hfr]; exact nst
  refine ⟨fun i m H' => m = ds.length - i ∧ i ≤ ds.length ∧ ∃ G2 xs ys, Core X.K fr fr2 G1 H1 D ρ σ G2 H' xs ys ∧ compW2 g Wt Wi1 vs1 g1 Wt1 We (wipeR ρ vs) (ds.drop i) ys fun zs => Qa (.lst zs), ⟨ds.length, by simp, Nat.zero_le _, G1, [], [], ?_, w1⟩, ?_⟩
  · have r2 := (s1.rel.new (o := .lst []) nD).priv (D := D) upd_same ngD h0 nmD
    rw [hfr] at r2
    exact ⟨r2, stab_new nD s1.rel.gi, fun _ h => h, fun _ h => .inl h, up_new, fun b h => keep_new s1.rel nD b h, upd_same, ngD, rfl⟩
  · rintro i m H' ⟨rfl, hi, G2, xs, ys, c, wc⟩
    have rcs : RepLs X.K G2 ρ σ H' cs us := by
      have : ∀ {cs us}, RepLs X.K G1 ρ σ H1 cs us → RepLs X.K G2 ρ σ H' cs us := fun {cs} => by
        induction cs with
        | nil => intro us h; exact h
        | cons c' cs ih =>
          rintro us ⟨v, r, e, h1, h2⟩
          exact ⟨v, r, e, h1.imp (fun h => Rep.stab c.stab c.gg _ _ h) id, ih h2⟩
      exact this rc
    by_cases hlt : i < ds.length
    · refine .inr ⟨ok.go fr2 G2 ρ σ H' i c.rel rcs hlt, fun H'' => i + 1 ≤ ds.length ∧ ∃ G2 xs ys, Core X.K fr fr2 G1 H1 D ρ σ G2 H'' xs ys ∧ compW2 g Wt Wi1 vs1 g1 Wt1 We (wipeR ρ vs) (ds.drop (i + 1)) ys fun zs => Qa (.lst zs), fun H'' q => ⟨ds.length - (i + 1), by omega, rfl, q⟩, fun x H3 y => ?_⟩
      obtain ⟨G3, s3, hx⟩ := ok.yld fr2 G2 ρ σ H' i x H3 c.rel rcs hlt y
      have c3 := c.step hfr s3 s3.rel
      have ed : ds[i]? = some ds[i] := List.getElem?_eq_getElem hlt
      have rx := hx _ ed
      rw [List.drop_eq_getElem_cons hlt] at wc
      refine ⟨fr2, G3, wipeR ρ vs, ds[i], _, s3.rel.wipe vs, rx, wc, fun ρ' σ' rl4 oa w4 => ?_⟩
      have ho : ∀ j, j ∉ vs → gt ρ' j = gt ρ j ∧ sv σ' j = sv σ j := fun j hj => by
        have q := oa.at' j fun z => hj (hsub j z)
        refine ⟨q.1.trans ?_, ?_⟩
        · rw [gt_wipe, if_neg hj]
        · unfold sv; rw [q.2, wipe_out hj]
      refine ⟨?_, ?_⟩
      · rw [wipe_eq (vs := vs) oa.len fun j hj => (oa.at' j fun z => hj (hsub j z)).2]
        exact wipe_eq (wipe_length σ vs) fun j hj => wipe_out hj
      · refine ⟨fr2, G3, ρ', _, rl4, w4, fun b G5 H5 s5 w5 => ?_⟩
        have c5 := c3.step hfr s5 (c3.rel.back s5 hn ho)
        cases b with
        | false => exact ⟨hlt, G5, xs, ys, c5, w5⟩
        | true =>
          obtain ⟨hn1, w5⟩ := w5
          refine ⟨fr2, G5, ρ', _, s5.rel, w5, fun J1 cs1 us1 es G6 H6 s6 rc1 ok1 w6 => ?_⟩
          have c6 := c5.step hfr s6 (c5.rel.back s6 hn ho)
          refine ⟨fun j k H7 => k = es.length - j ∧ j ≤ es.length ∧ ∃ G7 xs ys, Core X.K fr fr2 G1 H1 D ρ σ G7 H7 xs ys ∧ Rel X.K fr2 G7 ρ' σ' H7 ∧ Reps X.K G7 H7 cs1 us1 ∧ innW g1 Wt1 We (wipeR ρ' vs1) (es.drop j) ys fun acc' => compW2 g Wt Wi1 vs1 g1 Wt1 We (wipeR ρ vs) (ds.drop (i + 1)) acc' fun zs => Qa (.lst zs), ⟨es.length, by simp, Nat.zero_le _, G6, xs, ys, c6, s6.rel, rc1, w6⟩, ?_⟩
          rintro j k H7 ⟨rfl, hj, G7, xs, ys, c7, r7, rc7, w7⟩
          have nm' : ∀ i, isMut (gt ρ' i) → sv σ' i ≠ some (.ref D) := (r7.prv D (by rw [← hfr]; exact .inr rfl)).2.2.2
          by_cases hjl : j < es.length
          · refine .inr ⟨ok1.go fr2 G7 ρ' σ' H7 j r7 (reps_repLs rc7) hjl, fun H8 => j + 1 ≤ es.length ∧ ∃ G7 xs ys, Core X.K fr fr2 G1 H1 D ρ σ G7 H8 xs ys ∧ Rel X.K fr2 G7 ρ' σ' H8 ∧ Reps X.K G7 H8 cs1 us1 ∧ innW g1 Wt1 We (wipeR ρ' vs1) (es.drop (j + 1)) ys fun acc' => compW2 g Wt Wi1 vs1 g1 Wt1 We (wipeR ρ vs) (ds.drop (i + 1)) acc' fun zs => Qa (.lst zs), fun H8 q => ⟨es.length - (j + 1), by omega, rfl, q⟩, fun x1 H8 y1 => ?_⟩
            obtain ⟨G8, s8, hx1⟩ := ok1.yld fr2 G7 ρ' σ' H7 j x1 H8 r7 (reps_repLs rc7) hjl y1
            have c8 := c7.step hfr s8 (c7.rel.back s8 hn ho)
            have ed1 : es[j]? = some es[j] := List.getElem?_eq_getElem hjl
            have rx1 := hx1 _ ed1
            rw [List.drop_eq_getElem_cons hjl] at w7
            refine ⟨fr2, G8, wipeR ρ' vs1, es[j], _, s8.rel.wipe vs1, rx1, w7, fun ρ'' σ'' rl9 oa1 w9 => ?_⟩
            have ho1 : ∀ j, j ∉ vs1 → gt ρ'' j = gt ρ' j ∧ sv σ'' j = sv σ' j := fun j hj => by
              have q := oa1.at' j hj
              refine ⟨q.1.trans ?_, ?_⟩
              · rw [gt_wipe, if_neg hj]
              · unfold sv; rw [q.2, wipe_out hj]
            have ho2 : ∀ j, j ∉ vs → gt ρ'' j = gt ρ j ∧ sv σ'' j = sv σ j := fun j hj => by
              have q := ho1 j fun z => hj (hsub1 j z)
              have q2 := ho j hj
              exact ⟨q.1.trans q2.1, q.2.trans q2.2⟩
            refine ⟨?_, ?_⟩
            · rw [wipe_eq (vs := vs1) oa1.len fun j hj => (oa1.at' j hj).2]
              exact wipe_eq (wipe_length σ' vs1) fun j hj => wipe_out hj
            · refine ⟨fr2, G8, ρ'', _, rl9, w9, fun b G10 H10 s10 w10 => ?_⟩
              have c10 := c8.step hfr s10 (c8.rel.back s10 hn ho2)
              have r10 := s8.rel.back s10 hn1 ho1
              have rc10 : Reps X.K G10 H10 cs1 us1 := s10.reps (s8.reps rc7)
              cases b with
              | false => exact ⟨hjl, G10, xs, ys, c10, r10, rc10, w10⟩
              | true =>
                refine ⟨fr2, G10, ρ'', _, _, s10.rel, raise0, w10, fun v d G11 H11 s11 rv w11 => ?_⟩
                have c11 := c10.step hfr s11 (c10.rel.back s11 hn ho2)
                have r11 := r10.back s11 hn1 ho1
                have rc11 : Reps X.K G11 H11 cs1 us1 := s11.reps rc10
                refine ⟨xs, c11.hD, by rw [c11.rs.length, ← line_eq]; exact w11.1, hjl, G11, xs ++ [v], ys ++ [d], c11.app e0 est nP nmD rv, r11.chg c11.hD c11.ng e0 est nm', Reps.stab (stab_chg c11.hD c11.ng) (fun _ h => h) _ _ rc11, w11.2⟩
          · have e : j = es.length := by omega
            subst e
            rw [List.drop_length] at w7
            exact .inl ⟨ok1.stop fr2 G7 ρ' σ' H7 _ r7 (reps_repLs rc7) rfl, hlt, G7, xs, ys, c7, w7⟩
    · have e : i = ds.length := by omega
      subst e
      refine .inl ⟨ok.stop fr2 G2 ρ σ H' _ c.rel rcs rfl, ?_⟩
      rw [List.drop_length] at wc
      have wc : Qa (.lst ys) := wc
      have r2 := c.rel
      rw [← hfr] at r2
      exact k D xs ys G2 H' ⟨r2.unpriv, s1.stab.trans c.stab s1.gg, fun b h => c.gg b (s1.gg b h), fun b h => by
        rcases c.gn b h with z | z
        · exact s1.gnew b z
        · exact .inr (s1.up b z), fun b h => s1.up b (c.up b h), fun b h => (c.kp b h).trans (s1.keep b h)⟩ nDH c.hD c.ng c.rs wc
end
end AV

set_option maxRecDepth 100000
set_option maxHeartbeats 2000000
namespace AV
open PySem PySem.Spec PyProof.Rows L2
variable [TabC]
section
variable {X : Cx} {Wx : WX} {elt tg iter tg1 iter1 : Expr} {ifs ifs1 : List Expr} {scope : Scope} {own : List (Str × Nat)} {pos py spos : Pos} {Wi Wi1 : WI} {g g1 : WG} {Wt Wt1 : WT} {We : WE} {ws vs1 : List Nat} {y : Str}
theorem dn_lc2 (hc : X.calm = true) (hN : X.N.Nodup) (hi : DIL X Wx tg iter Wi) (ok : BlkOk X.N X.env.scope scope own) (hsub : ∀ v ∈ ws, v ∈ own.map (·.2)) (hv : ∀ i ∈ vs1, i ∈ own.map (·.2))
    (hg : ∀ (s : Shared) (H : Hp) (C : Addr) (cl : List (Str × Addr)) (fp : List Addr), DG (X.blk s H scope (compEnvC scope cl C X.env) fp) tg ws g)
    (ht : ∀ (s : Shared) (H : Hp) (C : Addr) (cl : List (Str × Addr)) (fp : List Addr), DTs (X.blk s H scope (compEnvC scope cl C X.env) fp) ifs Wt)
    (hi1 : ∀ (s : Shared) (H : Hp) (C : Addr) (cl : List (Str × Addr)) (fp : List Addr), DI (X.blk s H scope (compEnvC scope cl C X.env) fp) W0 tg1 iter1 Wi1)
    (hg1 : ∀ (s : Shared) (H : Hp) (C : Addr) (cl : List (Str × Addr)) (fp : List Addr), DG (X.blk s H scope (compEnvC scope cl C X.env) fp) tg1 vs1 g1)
    (ht1 : ∀ (s : Shared) (H : Hp) (C : Addr) (cl : List (Str × Addr)) (fp : List Addr), DTs (X.blk s H scope (compEnvC scope cl C X.env) fp) ifs1 Wt1)
    (he : ∀ (s : Shared) (H : Hp) (C : Addr) (cl : List (Str × Addr)) (fp : List Addr), DE (X.blk s H scope (compEnvC scope cl C X.env) fp) W0 elt We)
    (hs : ∀ x, foldedSetIterable iter X.env x = pure x := by intro _; rfl) (hs1 : ∀ env x, foldedSetIterable iter1 env x = pure x := by intro _ _; rfl) : DN X Wx (.ListComp elt [⟨tg, iter, ifs, 0⟩, ⟨tg1, iter1, ifs1, 0⟩] scope pos) (wLc2 Wi g Wt Wi1 g1 Wt1 We (own.map (·.2)) vs1) := by
  obtain ⟨wi, pi, qi⟩ := hi.ex
  exact ⟨⟨_, pe_lc2 (g := canG X.K ws g) (tt := canT X.K Wt) (wi1 := canI X.K Wi1) (g1 := canG X.K vs1 g1) (tt1 := canT X.K Wt1) (te := canE X.K W0 We) hc hN pi ok hv (fun s H C cl fp => (hg s H C cl fp).can) (fun s H C cl fp => (ht s H C cl fp).can) (fun s H C cl fp => (hi1 s H C cl fp).can) (fun s H C cl fp => (hg1 s H C cl fp).can) (fun s H C cl fp => (ht1 s H C cl fp).can) (fun s H C cl fp => (he s H C cl fp).can) hs hs1, lc2_go hsub hv qi⟩⟩
theorem ds_newLc2 (i : Nat) (hc : X.calm = true) (hN : X.N.Nodup) (hi : DIL X Wx tg iter Wi) (ok : BlkOk X.N X.env.scope scope own) (hsub : ∀ v ∈ ws, v ∈ own.map (·.2)) (hv : ∀ i ∈ vs1, i ∈ own.map (·.2))
    (hg : ∀ (s : Shared) (H : Hp) (C : Addr) (cl : List (Str × Addr)) (fp : List Addr), DG (X.blk s H scope (compEnvC scope cl C X.env) fp) tg ws g)
    (ht : ∀ (s : Shared) (H : Hp) (C : Addr) (cl : List (Str × Addr)) (fp : List Addr), DTs (X.blk s H scope (compEnvC scope cl C X.env) fp) ifs Wt)
    (hi1 : ∀ (s : Shared) (H : Hp) (C : Addr) (cl : List (Str × Addr)) (fp : List Addr), DI (X.blk s H scope (compEnvC scope cl C X.env) fp) W0 tg1 iter1 Wi1)
    (hg1 : ∀ (s : Shared) (H : Hp) (C : Addr) (cl : List (Str × Addr)) (fp : List Addr), DG (X.blk s H scope (compEnvC scope cl C X.env) fp) tg1 vs1 g1)
    (ht1 : ∀ (s : Shared) (H : Hp) (C : Addr) (cl : List (Str × Addr)) (fp : List Addr), DTs (X.blk s H scope (compEnvC scope cl C X.env) fp) ifs1 Wt1)
    (he : ∀ (s : Shared) (H : Hp) (C : Addr) (cl : List (Str × Addr)) (fp : List Addr), DE (X.blk s H scope (compEnvC scope cl C X.env) fp) W0 elt We)
    (hk : X.env.scope.kind = .function := by rfl) (hyl : X.env.scope.names.lookup y = some .local := by rfl)
    (hsw : swapsWith (.ListComp elt [⟨tg, iter, ifs, 0⟩, ⟨tg1, iter1, ifs1, 0⟩] scope pos) (some (.Name y py)) spos.line X.env = pure true := by rfl)
    (hy : X.N[i]? = some y := by rfl) (hs : ∀ x, foldedSetIterable iter X.env x = pure x := by intro _; rfl) (hs1 : ∀ env x, foldedSetIterable iter1 env x = pure x := by intro _ _; rfl) : DS X Wx (.Assign [.Name y py] (.ListComp elt [⟨tg, iter, ifs, 0⟩, ⟨tg1, iter1, ifs1, 0⟩] scope pos) spos) (wNew i (wLc2 Wi g Wt Wi1 g1 Wt1 We (own.map (·.2)) vs1)) := by
  obtain ⟨wi, pi, qi⟩ := hi.ex
  refine ⟨⟨_, ps_setLc2 (g := canG X.K ws g) (tt := canT X.K Wt) (wi1 := canI X.K Wi1) (g1 := canG X.K vs1 g1) (tt1 := canT X.K Wt1) (te := canE X.K W0 We) hc hN hy hyl hsw pi ok hv (fun s H C cl fp => (hg s H C cl fp).can) (fun s H C cl fp => (ht s H C cl fp).can) (fun s H C cl fp => (hi1 s H C cl fp).can) (fun s H C cl fp => (hg1 s H C cl fp).can) (fun s H C cl fp => (ht1 s H C cl fp).can) (fun s H C cl fp => (he s H C cl fp).can) hs hs1, ?_⟩⟩
  exact own_go (lc2_go hsub hv qi)
theorem ds_setLc2 (i : Nat) (hc : X.calm = true) (hN : X.N.Nodup) (hi : DIL X Wx tg iter Wi) (ok : BlkOk X.N X.env.scope scope own) (hsub : ∀ v ∈ ws, v ∈ own.map (·.2)) (hv : ∀ i ∈ vs1, i ∈ own.map (·.2))
    (hg : ∀ (s : Shared) (H : Hp) (C : Addr) (cl : List (Str × Addr)) (fp : List Addr), DG (X.blk s H scope (compEnvC scope cl C X.env) fp) tg ws g)
    (ht : ∀ (s : Shared) (H : Hp) (C : Addr) (cl : List (Str × Addr)) (fp : List Addr), DTs (X.blk s H scope (compEnvC scope cl C X.env) fp) ifs Wt)
    (hi1 : ∀ (s : Shared) (H : Hp) (C : Addr) (cl : List (Str × Addr)) (fp : List Addr), DI (X.blk s H scope (compEnvC scope cl C X.env) fp) W0 tg1 iter1 Wi1)
    (hg1 : ∀ (s : Shared) (H : Hp) (C : Addr) (cl : List (Str × Addr)) (fp : List Addr), DG (X.blk s H scope (compEnvC scope cl C X.env) fp) tg1 vs1 g1)
    (ht1 : ∀ (s : Shared) (H : Hp) (C : Addr) (cl : List (Str × Addr)) (fp : List Addr), DTs (X.blk s H scope (compEnvC scope cl C X.env) fp) ifs1 Wt1)
    (he : ∀ (s : Shared) (H : Hp) (C : Addr) (cl : List (Str × Addr)) (fp : List Addr), DE (X.blk s H scope (compEnvC scope cl C X.env) fp) W0 elt We)
    (hk : X.env.scope.kind = .function := by rfl) (hyl : X.env.scope.names.lookup y = some .local := by rfl)
    (hsw : swapsWith (.ListComp elt [⟨tg, iter, ifs, 0⟩, ⟨tg1, iter1, ifs1, 0⟩] scope pos) (some (.Name y py)) spos.line X.env = pure true := by rfl)
    (hy : X.N[i]? = some y := by rfl) (hs : ∀ x, foldedSetIterable iter X.env x = pure x := by intro _; rfl) (hs1 : ∀ env x, foldedSetIterable iter1 env x = pure x := by intro _ _; rfl) : DS X Wx (.Assign [.Name y py] (.ListComp elt [⟨tg, iter, ifs, 0⟩, ⟨tg1, iter1, ifs1, 0⟩] scope pos) spos) (wSet i (wLc2 Wi g Wt Wi1 g1 Wt1 We (own.map (·.2)) vs1)) := by
  obtain ⟨wi, pi, qi⟩ := hi.ex
  refine ⟨⟨_, ps_setLc2 (g := canG X.K ws g) (tt := canT X.K Wt) (wi1 := canI X.K Wi1) (g1 := canG X.K vs1 g1) (tt1 := canT X.K Wt1) (te := canE X.K W0 We) hc hN hy hyl hsw pi ok hv (fun s H C cl fp => (hg s H C cl fp).can) (fun s H C cl fp => (ht s H C cl fp).can) (fun s H C cl fp => (hi1 s H C cl fp).can) (fun s H C cl fp => (hg1 s H C cl fp).can) (fun s H C cl fp => (ht1 s H C cl fp).can) (fun s H C cl fp => (he s H C cl fp).can) hs hs1, ?_⟩⟩
  exact val_go (lc2_go hsub hv qi)
end
/-! rules -/
class KC2 where
  g : WG
  Wt : WT
  Wi1 : WI
  vs1 : List Nat
  g1 : WG
  Wt1 : WT
  We : WE
  QL : List D → Prop
def comp2K (ρ : Rho) (ds acc : List D) [K : KC2] : Prop := compW2 K.g K.Wt K.Wi1 K.vs1 K.g1 K.Wt1 K.We ρ ds acc K.QL
def innK (ρ : Rho) (es acc : List D) [K : KC] : Prop := innW K.g K.Wt K.We ρ es acc K.QL
section
variable {ρ : Rho} {Wi Wi1 : WI} {g g1 : WG} {Wt Wt1 : WT} {We : WE} {vs vs1 : List Nat} {R : EX → Prop} {Q : D → Prop} {QL : List D → Prop}
@[simp ↓] theorem wLc2_ : wLc2 Wi g Wt Wi1 g1 Wt1 We vs vs1 R ρ Q = (noMut ρ vs ∧ Wi R ρ fun ds => @comp2K (wipeR ρ vs) ds [] ⟨g, Wt, Wi1, vs1, g1, Wt1, We, fun ys => Q (.lst ys)⟩) := (rfl)
@[simp ↓] theorem comp2K_nil {acc : List D} : @comp2K ρ [] acc ⟨g, Wt, Wi1, vs1, g1, Wt1, We, QL⟩ = QL acc := (rfl)
theorem comp2K_cons {d : D} {ds acc : List D} : @comp2K ρ (d :: ds) acc ⟨g, Wt, Wi1, vs1, g1, Wt1, We, QL⟩ = g d ρ fun ρ' => Wt (fun _ => False) ρ' fun k => if k = true then noMut ρ' vs1 ∧ Wi1 (fun _ => False) ρ' fun es => @innK (wipeR ρ' vs1) es acc ⟨g1, Wt1, We, fun acc' => @comp2K ρ ds acc' ⟨g, Wt, Wi1, vs1, g1, Wt1, We, QL⟩⟩ else @comp2K ρ ds acc ⟨g, Wt, Wi1, vs1, g1, Wt1, We, QL⟩ := (rfl)
@[simp ↓] theorem innK_nil {acc : List D} : @innK ρ [] acc ⟨g1, Wt1, We, QL⟩ = QL acc := (rfl)
theorem innK_cons {e : D} {es acc : List D} : @innK ρ (e :: es) acc ⟨g1, Wt1, We, QL⟩ = g1 e ρ fun ρ' => Wt1 (fun _ => False) ρ' fun k => if k = true then We (fun _ => False) ρ' fun y => acc.length < 16777216 ∧ @innK ρ es (acc ++ [y]) ⟨g1, Wt1, We, QL⟩ else @innK ρ es acc ⟨g1, Wt1, We, QL⟩ := (rfl)
/-- the outer clause: for each item a list of answers -/
theorem comp2_enc {α : Type} (enc : α → D) (f : α → List D) {xs : List α} {QL : List D → Prop} : ∀ {acc : List D}, (∀ a ∈ xs, ∀ (acc : List D) (K : List D → Prop), acc.length + (f a).length ≤ 16777216 → K (acc ++ f a) → g (enc a) ρ fun ρ' => Wt (fun _ => False) ρ' fun k => if k = true then noMut ρ' vs1 ∧ Wi1 (fun _ => False) ρ' fun es => @innK (wipeR ρ' vs1) es acc ⟨g1, Wt1, We, K⟩ else K acc) → acc.length + (xs.flatMap f).length ≤ 16777216 → QL (acc ++ xs.flatMap f) → @comp2K ρ (xs.map enc) acc ⟨g, Wt, Wi1, vs1, g1, Wt1, We, QL⟩ := by
  induction xs with
  | nil => intro acc _ _ q; simpa using q
  | cons a xs ih =>
    intro acc h hl q
    rw [List.map_cons, comp2K_cons]
    rw [List.flatMap_cons] at hl q
    refine h a (List.mem_cons_self ..) acc (fun acc' => @comp2K ρ (xs.map enc) acc' ⟨g, Wt, Wi1, vs1, g1, Wt1, We, QL⟩) (by rw [List.length_append] at hl; omega) ?_
    refine ih (fun b hb => h b (List.mem_cons_of_mem _ hb)) ?_ ?_
    · rw [List.length_append] at hl ⊢; omega
    · rw [List.append_assoc]; exact q
/-- the inner clause -/
theorem inn_enc {α : Type} (enc : α → D) (p : α → Bool) (f : α → D) {xs : List α} {QL : List D → Prop} : ∀ {acc : List D}, (∀ a ∈ xs, ∀ (K1 : D → Prop) (K0 : Prop), (p a = true → K1 (f a)) → (p a = false → K0) → g1 (enc a) ρ fun ρ' => Wt1 (fun _ => False) ρ' fun k => if k = true then We (fun _ => False) ρ' K1 else K0) → acc.length + ((xs.filter p).map f).length ≤ 16777216 → QL (acc ++ (xs.filter p).map f) → @innK ρ (xs.map enc) acc ⟨g1, Wt1, We, QL⟩ := by
  induction xs with
  | nil => intro acc _ _ q; simpa using q
  | cons a xs ih =>
    intro acc h hl q
    rw [List.map_cons, innK_cons]
    refine h a (List.mem_cons_self ..) (fun y => acc.length < 16777216 ∧ @innK ρ (xs.map enc) (acc ++ [y]) ⟨g1, Wt1, We, QL⟩) (@innK ρ (xs.map enc) acc ⟨g1, Wt1, We, QL⟩) (fun e => ?_) (fun e => ?_)
    · rw [List.filter_cons, if_pos e] at hl q
      rw [List.map_cons, List.length_cons] at hl
      refine ⟨by omega, ih (fun b hb => h b (List.mem_cons_of_mem _ hb)) (by rw [List.length_append]; simp at hl ⊢; omega) ?_⟩
      simpa using q
    · rw [List.filter_cons, if_neg (by simp [e])] at hl q
      exact ih (fun b hb => h b (List.mem_cons_of_mem _ hb)) hl q
theorem inn_map {α : Type} (enc : α → D) (f : α → D) {xs : List α} {QL : List D → Prop} {acc : List D} (h : ∀ a ∈ xs, ∀ (K1 : D → Prop), K1 (f a) → g1 (enc a) ρ fun ρ' => We (fun _ => False) ρ' K1) (hl : acc.length + xs.length ≤ 16777216) (q : QL (acc ++ xs.map f)) : @innK ρ (xs.map enc) acc ⟨g1, wYes, We, QL⟩ := by
  have e : xs.filter (fun _ => true) = xs := List.filter_eq_self.mpr (by simp)
  refine inn_enc enc (fun _ => true) f (fun a ha K1 K0 h1 _ => ?_) (by rw [e, List.length_map]; exact hl) (by rw [e]; exact q)
  simp only [wYes_, if_true]
  exact h a ha K1 (h1 rfl)
end
end AV

set_option maxRecDepth 100000
set_option maxHeartbeats 1000000
/-! t[::-1] of a tuple; t * 0, t * 1 -/
namespace HT
open PySem PySem.Spec PyProof.Rows
section
variable {prog : Program} {w : World} {A : Around} {E : Value → Shared → Prop} {s : Shared}
theorem adjust_rev (n : Nat) : Builtin.Slice.sliceAdjust none none (-1) (n : Int) = ((n : Int) - 1, -1) := rfl
theorem places_rev (n : Nat) : Builtin.Slice.slicePlaces ((n : Int) - 1) (-1) (-1) = n := by
  unfold Builtin.Slice.slicePlaces
  have h1 : ¬ ((-1 : Int) > 0) := by omega
  simp only [h1, if_false, Int.neg_neg, Int.ediv_one]
  split <;> omega
theorem sliceApplied_rev {sl : Addr} {vl vu vs : Value} {n : Nat} {Q : Int × Int × Nat → Shared → Prop} (hs : s.heap.IsSliceOf sl vl vu vs) (pl : IsPart vl none) (pu : IsPart vu none) (ps : IsPart vs (some (-1)))
    (h : Q ((n : Int) - 1, -1, n) s) : wpAny (model prog w) A (Builtin.Slice.sliceApplied (.ref sl) (pure (n : Int))) Q E s := by
  obtain ⟨os, hos, hcs, hds⟩ := id hs
  unfold Builtin.Slice.sliceApplied Builtin.Slice.sliceFields
  refine wpAny_bind (wpAny_bind (wpAny_field hos hds (x := vl) rfl (wpAny_bind (wpAny_field hos hds (x := vu) rfl (wpAny_bind (wpAny_field hos hds (x := vs) rfl (wpAny_pure ?_)))))))
  refine wpAny_bind (slicePart_ ps ?_)
  show wpAny _ _ (if ((-1 : Int) == 0) = true then _ else _) _ _ s
  rw [if_neg (by decide)]
  refine wpAny_bind (slicePart_ pl (wpAny_bind (slicePart_ pu (wpAny_bind (wpAny_pure ?_)))))
  show wpAny _ _ (match Builtin.Slice.sliceAdjust none none (-1) (n : Int) with | (lo, hi) => pure (lo, (-1 : Int), Builtin.Slice.slicePlaces lo hi (-1))) _ _ s
  rw [adjust_rev n]
  show wpAny _ _ (pure ((n : Int) - 1, (-1 : Int), Builtin.Slice.slicePlaces ((n : Int) - 1) (-1) (-1))) _ _ s
  rw [places_rev]
  exact wpAny_pure h
theorem pick_rev (xs : Array Value) : ((List.range xs.size).filterMap fun (k : Nat) => xs[((xs.size : Int) - 1 + (k : Int) * (-1)).toNat]?).toArray = xs.toList.reverse.toArray := by
  have h := pick_gen xs.toList.reverse.toArray 0 xs.size
  have e : ((List.range xs.size).filterMap fun (k : Nat) => xs[((xs.size : Int) - 1 + (k : Int) * (-1)).toNat]?) = ((List.range xs.size).filterMap fun (m : Nat) => xs.toList.reverse.toArray[(((0 : Nat) : Int) + (m : Int) * 1).toNat]?) := by
    have cg : ∀ (f g : Nat → Option Value) (l : List Nat), (∀ k ∈ l, f k = g k) → l.filterMap f = l.filterMap g := fun f g l hl => by
      induction l with
      | nil => rfl
      | cons a l ih => rw [List.filterMap_cons, List.filterMap_cons, hl a (List.mem_cons_self ..), ih fun k hk => hl k (List.mem_cons_of_mem _ hk)]
    refine cg _ _ _ fun k hk => ?_
    have hk := List.mem_range.mp hk
    have e1 : (((0 : Nat) : Int) + (k : Int) * 1).toNat = k := by omega
    have e2 : ((xs.size : Int) - 1 + (k : Int) * (-1)).toNat = xs.size - 1 - k := by omega
    have e3 : xs.toList.reverse.toArray[k]? = xs.toList.reverse[k]? := List.getElem?_toArray
    have hk2 : k < xs.toList.length := by rw [Array.length_toList]; exact hk
    rw [e1, e2, e3, List.getElem?_reverse hk2, Array.length_toList, Array.getElem?_toList]
  rw [e, h]
  simp
  rw [List.take_of_length_le (by simp)]
theorem getItem_tuple_rev {t sl : Addr} {items : Array Value} {vl vu vs : Value} {Q : Value → Shared → Prop} (ht : IsTup s.heap t items) (hs : s.heap.IsSliceOf sl vl vu vs) (pl : IsPart vl none) (pu : IsPart vu none) (ps : IsPart vs (some (-1)))
    (h : Q (.ref s.heap.objs.size) { s with heap := s.heap.push { cls := .type "tuple", data := .seq items.toList.reverse.toArray } })
    (hsz : items.size ≤ sizeLine) : wpAny (model prog w) A (getItem (.ref t) (.ref sl)) Q E s := by
  have htake : sizeOk (.seq items.toList.reverse.toArray) := by
    show items.toList.reverse.toArray.size ≤ sizeLine
    simpa using hsz
  obtain ⟨os, hos, hcs, hds⟩ := id hs
  have hTs : s.TypeIs (.ref sl) "slice" := ⟨os, hos, hcs⟩
  unfold getItem
  try with_reducible refine wpAny_holding ?_
  first | refine wpAny_bind (wpAny_pure ?_) | skip
  refine wpAny_bind (wpAny_sequenceKey ht.typeIs (by decide) ?_)
  refine wpAny_bind (wpAny_callSpecial?_slot (name := Str.ofString "__getitem__") ht.typeIs PyProof.Rows.slot_tuple_getitem
    (wpAny_call_entry PyProof.Rows.slot_tuple_getitem ht.typeIs entry_tuple_getitem ?_ (args_tuple_getitem _ _)))
  show wpAny _ _ (Builtin.Tuple.tupleItemsOf (.ref t) >>= _) _ _ s
  refine wpAny_bind (tupleItemsOf_ ht ?_)
  refine wpAny_bind (wpAny_typeOf hTs ?_)
  rw [if_pos (by decide)]
  refine wpAny_bind (sliceApplied_rev hs pl pu ps ?_)
  have hno : ¬ ((((items.size : Int) - 1) == 0 && (-1 : Int) == 1 && items.size == items.size) = true) := by
    intro q
    rw [Bool.and_eq_true, Bool.and_eq_true] at q
    exact absurd q.1.2 (by decide)
  show wpAny _ _ (if (((items.size : Int) - 1) == 0 && (-1 : Int) == 1 && items.size == items.size) = true then _ else _) _ _ s
  rw [if_neg hno, pick_rev]
  first
    | exact wpAny_bind (m := Builtin.Tuple.tupleExact _) (wpAny_newObj_type (wpAny_pure ⟨_, rfl, wpAny_pure h⟩) htake)
    | exact wpAny_bind (m := Builtin.Tuple.tupleExact _) (wpAny_newObj_type (wpAny_bind (wpAny_pure (wpAny_pure ⟨_, rfl, wpAny_pure h⟩))) htake)
    | exact wpAny_bind (wpAny_bind (m := Builtin.Tuple.tupleExact _) (wpAny_newObj_type (wpAny_pure (wpAny_pure ⟨_, rfl, wpAny_pure h⟩)) htake))
    | exact wpAny_bind (wpAny_bind (m := Builtin.Tuple.tupleExact _) (wpAny_newObj_type (wpAny_pure ⟨_, rfl, wpAny_pure h⟩) htake))
end
end HT
namespace L2
open PySem PySem.Spec PyProof.Rows HT
section
variable {X : Cx}
def tRevA (K : PySem.W.Frag) (te : TE) : TE := fun σ H Q => te σ H fun x H1 => ∃ a xs, x = .ref a ∧ ((SqT K H1 a xs ∧ ∀ p, H1 p = none → Q (.ref p) (upd H1 p (.tup xs.reverse))) ∨ (SqL K H1 a xs ∧ ∀ p, H1 p = none → Q (.ref p) (upd H1 p (.lst xs.reverse))))
theorem pe_revA {e : Expr} {te : TE} {k : Nat} {p1 p2 p3 pos : Pos} (he : PE X e te) : PE X (.Subscript e (.Slice none none (some (.UnaryOp .USub (.Constant (.int 1) k p1) p2)) p3) pos) (tRevA X.K te) := by
  refine ⟨fun pins s σ H Q I h => ?_⟩
  refine Subscript_ (thn (he.run pins s σ H _ I h) fun v s1 ⟨x, H1, I1, r1, q1⟩ => ?_)
  obtain ⟨a, xs, ex, hq⟩ := q1
  subst ex
  cases r1
  have hst : PO X (some (.UnaryOp .USub (.Constant (.int 1) k p1) p2)) (tPart (tUn (rU fun i => .int (-i)) (tC (.int 1)))) := po_some (pe_un un_neg pe_int)
  refine wpAny_Slice (thn (po_none.run pins s1 σ H1 (fun o H2 => o = none ∧ H2 = H1) I1 ⟨rfl, rfl⟩) fun vl s2 ⟨l, H2, I2, pl, el, e2⟩ => ?_)
  subst el e2
  refine thn (po_none.run pins s2 σ H2 (fun o H3 => o = none ∧ H3 = H2) I2 ⟨rfl, rfl⟩) fun vu s3 ⟨u, H3, I3, pu, eu, e3⟩ => ?_
  subst eu e3
  refine thn (hst.run pins s3 σ H3 (fun o H4 => o = some (-1) ∧ H4 = H3) I3 ⟨1, rfl, -1, rfl, rfl, rfl⟩) fun vs s4 ⟨o, H4, I4, ps, eo, e4⟩ => ?_
  subst eo e4
  have I5 : Inv X pins σ H4 { s4 with heap := s4.heap.push { cls := .type "slice", data := .fields #[vl, vu, vs] } } := I4.kept (t' := s4.toks) fun b ob q => Heap.get?_push_of_some _ q
  rcases hq with hq | hq
  · obtain ⟨hx, q⟩ := hq
    obtain ⟨its, r, ht, hz⟩ := I5.tuple hx
    have hlen := r.length
    show wpAny (model X.prog X.w) X.A (subscriptTail e (.Slice none none (some (.UnaryOp .USub (.Constant (.int 1) k p1) p2)) p3) (.ref a) (.ref s4.heap.objs.size)) (EP X pins σ Q) X.xe { s4 with heap := s4.heap.push { cls := .type "slice", data := .fields #[vl, vu, vs] } }
    refine tail_any (ops := [.ref a, .ref s4.heap.objs.size]) ht.typeIs (PyProof.Rows.slot_tuple_getitem.lookup) ?_ (by with_unfolding_all rfl)
    refine getItem_tuple_rev ht (Heap.IsSliceOf.new _ vl vu vs) pl pu ps ?_ (by rw [List.size_toArray]; omega)
    refine ⟨.ref _, _, I5.laid (t' := s4.toks) (o := .tup xs.reverse) (fun b ob q => Heap.get?_push_of_some _ q) (Nat.le_refl _) ?_, rfl, q _ (I5.hok.fresh (Nat.le_refl _))⟩
    exact ⟨by rw [List.length_reverse]; omega, _, r.reverse, IsTup.new _ _⟩
  · obtain ⟨hx, q⟩ := hq
    obtain ⟨its, r, ht, hz⟩ := I5.list hx
    have hlen := r.length
    show wpAny (model X.prog X.w) X.A (subscriptTail e (.Slice none none (some (.UnaryOp .USub (.Constant (.int 1) k p1) p2)) p3) (.ref a) (.ref s4.heap.objs.size)) (EP X pins σ Q) X.xe { s4 with heap := s4.heap.push { cls := .type "slice", data := .fields #[vl, vu, vs] } }
    refine tail_any (ops := [.ref a, .ref s4.heap.objs.size]) ht.isList.typeIs (PySem.slot_list_getitem.lookup) ?_ (by with_unfolding_all rfl)
    refine wpAny_getItem_list_slice ht.isList (Heap.IsSliceOf.new _ vl vu vs) pl pu ps (by decide) ?_ (by rw [List.size_toArray]; omega)
    rw [PySem.W.krv_pick]
    refine ⟨.ref _, _, I5.laid (t' := s4.toks) (o := .lst xs.reverse) (fun b ob q => Heap.get?_push_of_some _ q) (Nat.le_refl _) ?_, rfl, q _ (I5.hok.fresh (Nat.le_refl _))⟩
    exact ⟨by rw [List.length_reverse]; exact hz, _, 0, r.reverse, Heap.get?_push_size _ rfl⟩
end
end L2
namespace AV
open PySem PySem.Spec PyProof.Rows L2
variable [TabC]
def seqRevK (d : D) [K : Kn D] : Prop := match d with
  | .tup xs => K.r (.tup xs.reverse)
  | .lst xs => K.r (.lst xs.reverse)
  | _ => False
@[simp ↓] theorem seqRevK_tup (xs : List D) (Q : D → Prop) : @seqRevK (.tup xs) ⟨Q⟩ = Q (.tup xs.reverse) := (rfl)
@[simp ↓] theorem seqRevK_lst (xs : List D) (Q : D → Prop) : @seqRevK (.lst xs) ⟨Q⟩ = Q (.lst xs.reverse) := (rfl)
def wRevA (We : WE) : WE := fun R ρ Q => We R ρ fun d => @seqRevK d ⟨Q⟩
@[simp ↓] theorem wRevA_ {We : WE} {R : EX → Prop} {ρ : Rho} {Q : D → Prop} : wRevA We R ρ Q = We R ρ fun d => @seqRevK d ⟨Q⟩ := (rfl)
section
variable {X : Cx} {Wx : WX} {e : Expr} {We : WE} {k : Nat} {p1 p2 p3 pos : Pos}
theorem de_revA (h : DL X Wx e We) : DE X Wx (.Subscript e (.Slice none none (some (.UnaryOp .USub (.Constant (.int 1) k p1) p2)) p3) pos) (wRevA We) := by
  obtain ⟨t, p, q⟩ := h.ex
  refine ⟨⟨_, pe_revA p, fun fr G ρ σ H R Qa Q rl hr w k => ?_⟩⟩
  refine q fr G ρ σ H R _ _ rl hr w fun v d G1 H1 s1 r1 w1 => ?_
  cases d <;> try exact w1.elim
  · rename_i ds
    obtain ⟨a, xs, rfl, sq, rs⟩ := r1.tup
    refine ⟨a, xs, rfl, .inl ⟨sq, fun q nq => ?_⟩⟩
    have s3 := Step.new (o := .tup xs.reverse) s1.rel nq
    exact k _ (.tup ds.reverse) _ _ (s1.trans s3) ⟨q, _, rfl, .of upd_same, s3.reps rs.reverse⟩ w1
  · rename_i ds
    obtain ⟨a, xs, rfl, sq, rs⟩ := r1.lst s1.rel
    refine ⟨a, xs, rfl, .inr ⟨.of sq, fun q nq => ?_⟩⟩
    have s3 := Step.newG (o := .lst xs.reverse) s1.rel nq
    exact k _ (.lst ds.reverse) _ _ (s1.trans s3) ⟨q, _, rfl, .inr rfl, upd_same, s3.reps rs.reverse⟩ w1
end
end AV

set_option maxRecDepth 100000
set_option maxHeartbeats 4000000
/-! t * 0, t * 1 -/
namespace L2
open PySem PySem.Spec PyProof.Rows
theorem tuple_mulW1 (l : Addr) (items : Array Value) (n : Nat) (dd : Option Addr) (sl : Array (Option Value)) (u : Tok) :
    Meets (Builtin.«tuple.__mul__» ⟨[.ref l, .int 1 u], []⟩) (fun _ R s => s.heap.get? l = some { cls := .type "tuple", dict := dd, data := .seq items n, slots := sl } ∧
      R (.ok (.ret (Value.ref l))) s) :=
  .of_wp fun prog w A R s h => by
    obtain ⟨hp, g, d, tk, os⟩ := s
    obtain ⟨hl, h⟩ := h
    have f1 := AutoSeq1.idx_int
    have c0 : (decide ((1 : Int) < -(2 ^ 63)) || decide ((1 : Int) ≥ 2 ^ 63)) = false := by decide
    have c1 : (items.isEmpty || (1 : Int) == 1) = true := by simp
    wp_walk using wpAny_loadPart' hl
    repeat (first
      | (refine wpAny_ite_false (decide_eq_false (by rw [c0]; exact Bool.false_ne_true)) ?_; wp_walk using wpAny_loadPart' hl)
      | (refine wpAny_ite_true (decide_eq_true c1) ?_; wp_walk using wpAny_loadPart' hl))
    exact ⟨_, rfl, h⟩
theorem tuple_mulW0 (l : Addr) (items : Array Value) (n : Nat) (dd : Option Addr) (sl : Array (Option Value)) (u : Tok) (c1 : (items.isEmpty || (0 : Int) == 1) = false) :
    Meets (Builtin.«tuple.__mul__» ⟨[.ref l, .int 0 u], []⟩) (fun _ R s => s.heap.get? l = some { cls := .type "tuple", dict := dd, data := .seq items n, slots := sl } ∧
      R (.ok (.ret (Value.ref s.heap.objs.size))) { s with heap := s.heap.push { cls := Value.type "tuple", data := Data.seq #[] }, toks := s.toks }) :=
  .of_wp fun prog w A R s h => by
    obtain ⟨hp, g, d, tk, os⟩ := s
    obtain ⟨hl, h⟩ := h
    have f1 := AutoSeq1.idx_int
    have c0 : (decide ((0 : Int) < -(2 ^ 63)) || decide ((0 : Int) ≥ 2 ^ 63)) = false := by decide
    have c2 : (decide ((0 : Int) ≤ 0) || items.isEmpty) = true := by simp
    wp_walk using wpAny_loadPart' hl
    repeat (first
      | (refine wpAny_ite_false (decide_eq_false (by rw [c0]; exact Bool.false_ne_true)) ?_; wp_walk using wpAny_loadPart' hl)
      | (refine wpAny_ite_false (decide_eq_false (by rw [c1]; exact Bool.false_ne_true)) ?_; wp_walk using wpAny_loadPart' hl)
      | (refine wpAny_ite_true (decide_eq_true c2) ?_; wp_walk using wpAny_loadPart' hl))
    exact ⟨_, rfl, h⟩
end L2
namespace L2
open PySem PySem.Spec PyProof.Rows
def rRepT2 (K : PySem.W.Frag) : R2 := fun x y H Q => ∃ l k xs, x = .ref l ∧ y = .int k ∧ SqT K H l xs ∧ xs ≠ [] ∧ 0 ≤ k ∧ k ≤ 1000 ∧ xs.length ≤ 1000 ∧ (k = 1 → Q (.ref l) H) ∧ (k ≠ 1 → ∀ p, H p = none → Q (.ref p) (upd H p (.tup (List.replicate k.toNat xs).flatten)))
section
variable {X : Cx}
theorem op_repT2 : OpR X (binaryOp .Mult) (rRepT2 X.K) := by
  intro pins s σ H x y v u Q I rx ry h
  obtain ⟨l, k, xs, rfl, rfl, hT, hne, h1, h2, hz, q1, q2⟩ := h
  by_cases k2 : 2 ≤ k
  · exact op_repT pins s σ H _ _ v u Q I rx ry ⟨l, k, xs, rfl, rfl, hT, hne, k2, h2, hz, q2 (by omega)⟩
  cases rx
  obtain ⟨t, rfl⟩ := ry
  obtain ⟨its, r, ⟨⟨cls, dd, data, sl⟩, ho, hc, n, hd⟩, hs⟩ := I.tuple hT
  simp only at hc hd
  subst hc hd
  have hle : its.length = xs.length := r.length.symm
  have hn : its ≠ [] := fun e => hne (by
    rw [e] at hle
    exact List.eq_nil_of_length_eq_zero hle.symm)
  have hi : its.toArray.isEmpty = false := by
    cases its with
    | nil => exact absurd rfl hn
    | cons a b => rfl
  by_cases e1 : k = 1
  · subst e1
    refine wpAny_binaryOp_repeat_ref (T := "tuple") (U := "int") (by decide) ⟨_, ho, rfl⟩ (fun s' => typeIs_int s' 1 t) noFill_tuple_mul F.fills_int_mul F.slot_int_rmul repeat_tuple F.slot_int_index.lookup
      (call_meets F.slot_int_rmul (typeIs_int s 1 t) F.entry_int_rmul (F.args_int_rmul_2 _ _) (int_rmul_tuple 1 t l its.toArray n dd sl)
        ⟨ho, rfl, ⟨_, ho, rfl⟩, call_meets F.slot_tuple_mul ⟨_, ho, rfl⟩ F.entry_tuple_mul (F.args_tuple_mul_2 _ _) (tuple_mulW1 l its.toArray n dd sl t) ⟨ho, ?_⟩⟩)
    exact ⟨.ref l, H, I, rfl, q1 rfl⟩
  · have e0 : k = 0 := by omega
    subst e0
    refine wpAny_binaryOp_repeat_ref (T := "tuple") (U := "int") (by decide) ⟨_, ho, rfl⟩ (fun s' => typeIs_int s' 0 t) noFill_tuple_mul F.fills_int_mul F.slot_int_rmul repeat_tuple F.slot_int_index.lookup
      (call_meets F.slot_int_rmul (typeIs_int s 0 t) F.entry_int_rmul (F.args_int_rmul_2 _ _) (int_rmul_tuple 0 t l its.toArray n dd sl)
        ⟨ho, rfl, ⟨_, ho, rfl⟩, call_meets F.slot_tuple_mul ⟨_, ho, rfl⟩ F.entry_tuple_mul (F.args_tuple_mul_2 _ _) (tuple_mulW0 l its.toArray n dd sl t (by rw [hi]; rfl)) ⟨ho, ?_⟩⟩)
    refine ⟨.ref s.heap.objs.size, _, I.laid (t' := s.toks) (o := .tup (List.replicate (0 : Int).toNat xs).flatten) (fun b ob q => Heap.get?_push_of_some _ q) (Nat.le_refl _) ?_, rfl, q2 (by omega) _ (I.hok.fresh (Nat.le_refl _))⟩
    exact ⟨by simp, [], .nil, IsTup.new _ _⟩
end
end L2
namespace AV
open PySem PySem.Spec PyProof.Rows L2
variable [TabC]
def oMulT : D → D → (D → Prop) → Prop
  | .tup xs, .int k, Q => xs ≠ [] ∧ 0 ≤ k ∧ k ≤ 1000 ∧ xs.length ≤ 1000 ∧ Q (.tup (List.replicate k.toNat xs).flatten)
  | _, _, _ => False
@[simp ↓] theorem oMulT_tup {xs : List D} {k : Int} {Q : D → Prop} : @opK oMulT (.tup xs) (.int k) ⟨Q⟩ = (xs ≠ [] ∧ 0 ≤ k ∧ k ≤ 1000 ∧ xs.length ≤ 1000 ∧ Q (.tup (List.replicate k.toNat xs).flatten)) := (rfl)
section
variable {X : Cx} {Wx : WX} {a b : Expr} {Wa Wb : WE} {pos : Pos}
theorem de_mulT (ha : DL X Wx a Wa) (hb : DL X Wx b Wb) : DE X Wx (.BinOp a .Mult b pos) (wOp oMulT Wa Wb) := de_op (r := rRepT2 X.K) (fun fr G ρ σ H x y d e Qa Q rl rx ry w k => by
  cases d <;> cases e <;> simp only [oMulT] at w
  · rename_i ds i
    obtain ⟨p, xs, rfl, q1, r1⟩ := rx.tup
    rw [ry.int]
    refine ⟨p, i, xs, rfl, rfl, q1, fun z => w.1 ?_, w.2.1, w.2.2.1, by rw [r1.length]; exact w.2.2.2.1, fun e1 => ?_, fun e1 q np => ?_⟩
    · have := r1.length
      rw [z] at this
      exact List.eq_nil_of_length_eq_zero this.symm
    · subst e1
      have e2 : (List.replicate (1 : Int).toNat ds).flatten = ds := by simp
      exact k _ (.tup ds) G H (.refl rl) ⟨p, xs, rfl, q1, r1⟩ (by rw [← e2]; exact w.2.2.2.2)
    · have s2 := Step.new (o := .tup (List.replicate i.toNat xs).flatten) rl np
      exact k _ (.tup (List.replicate i.toNat ds).flatten) _ _ s2 ⟨q, _, rfl, .of upd_same, s2.reps (r1.rep _)⟩ w.2.2.2.2) op_repT2 ha hb
end
end AV

set_option maxRecDepth 100000
set_option maxHeartbeats 1000000
/-! exceptions with an own __init__ and fields -/
namespace AV
open PySem PySem.Spec PyProof.Rows L2
variable [TabC]
omit [TabC] in
/-- the class object, as it must be -/
def oexB (C : Addr) (cd : ClassData) (sl : Array (Option Value)) : Bool :=
  match cd.mro, sl.toList with
  | .ref D :: bm, [_, _, _, _, some (.builtin n), _] => (D == C) && (n == "ValueError.__new__") && (!cd.hasDel) && cd.hasDict && PySem.HandSPX.refsVE bm
  | _, _ => false
omit [TabC] in
theorem oexB_of {K : PySem.W.Frag} {C : Addr} {dd : Option Addr} {cd : ClassData} {sl : Array (Option Value)} (ho : K.lookup C = some ⟨.type "type", dd, .cls cd, sl⟩) (h : oexB C cd sl = true) : ∃ nm q N bs bm sn sub ab col dd k0 k1 k2 k3 k5, K.lookup C = some (excClassObj nm q C N bs bm true sn sub ab col dd k0 k1 k2 k3 k5 "ValueError.__new__") ∧ PySem.HandSPX.refsVE bm = true := by
  unfold oexB at h
  split at h
  · rename_i D bm k0 k1 k2 k3 n k5 hm hs
    simp only [Bool.and_eq_true, beq_iff_eq, Bool.not_eq_true'] at h
    obtain ⟨⟨⟨⟨e1, e2⟩, e3⟩, e4⟩, e5⟩ := h
    subst e1 e2
    cases cd with
    | mk nm bs mro ns qn hd sn sub ab col del =>
      simp only at hm e3 e4
      subst hm e3 e4
      cases sl with
      | mk l =>
        simp only at hs
        subst hs
        exact ⟨nm, qn, ns, bs, bm, sn, sub, ab, col, dd, k0, k1, k2, k3, k5, ho, e5⟩
  · cases h
omit [TabC] in
/-- an own exception class B whose __init__ is ValueError's -/
structure BaseX (K : PySem.W.Frag) (mg : Str → Option Value) (B : Str) (cB : Addr) : Prop where
  m : mg B = some (.ref cB)
  sp : PySem.W.specialIn K (.ref cB) "__getattribute__" = some (some (.builtin "type.__getattribute__"))
  rd : PySem.W.readsIn K cB (.type "type") = true
  fd : PySem.W.findCls K (.ref cB) (.type "type") "__init__" = some (.val (.builtin "ValueError.__init__"))
section
variable {X : Cx} {e : Expr} {es : List Expr} {ta : TA} {p1 p2 pos : Pos} {B : Str} {cB : Addr}
theorem pe_bxinit {pl : Sem Bool} (hg : Gl X B) (bx : BaseX X.K X.mg B cB) (ha : PA X (e :: es) ta) (hd : (B == ("__debug__" : Str)) = false := by decide)
    (hc : eval (.Call (.Attribute (.Name B p1) "__init__" p2) (e :: es) [] pos) X.env = (do
      let ov ← eval (.Name B p1) X.env
      standAt p2.atName
      let (f, first) ← holding [ov] (getMethod ov "__init__" pl)
      callWith pos f first (backTo pos (starEach (e :: es) X.env)) (backToKw pos (keywordEach [] X.env))) := by rfl)
    (he : starEach (e :: es) X.env = (false, eval e X.env) :: starEach es X.env := by rfl) (hpl : (backTo pos (starEach es X.env)).any (·.1) = false := by rfl) :
    PE X (.Call (.Attribute (.Name B p1) "__init__" p2) (e :: es) [] pos) (tVeI X.K ta) := by
  constructor
  intro pins s σ H Q I h
  refine PySem.W.methodCall_KW ?_ hc
  apply ld_glob I hg bx.m _ hd
  apply PySem.W.method_cls I.kIn bx.sp
  apply PySem.W.cls_value I.kIn bx.rd bx.fd (by decide +kernel)
  show wpAny _ _ (callWith pos (Value.builtin "ValueError.__init__") [] (backTo pos (starEach (e :: es) X.env)) []) _ _ _
  refine PyProof.Rows.callWith_method1 ?_ he hpl
  apply thn (ha.run pos pins _ σ H _ (I.tok _) h)
  rintro us s1 ⟨vs, H1, I1, r1, a, C, ws, rfl, hl, T, ea, q⟩
  cases r1 with
  | @cons _ u0 _ ur ra rw' =>
    cases ra
    have hz : ur.length ≤ sizeLine := by
      rw [← Paired.length rw', sizeLine_eq]; omega
    exact oinit_ok T I1 ea hz fun s' J => ⟨.non, H1, J, rfl, q⟩
end
/-- an exception class of one field, of two -/
def spX1 (C : Addr) (f : Str) : Sp := fun vs H Q _ => ∃ a y, vs = [.ref a, y] ∧ H a = some (exo a C none) ∧ ∀ dx, H dx = none → dx ≠ a → Q .non (upd (upd H dx (exd dx [(f, y)])) a (exo a C (some dx)))
def spX2 (C : Addr) (f g : Str) : Sp := fun vs H Q _ => ∃ a y z, vs = [.ref a, y, z] ∧ H a = some (exo a C none) ∧ ∀ dx, H dx = none → dx ≠ a → Q .non (upd (upd (upd H dx (exd dx [(f, y)])) a (exo a C (some dx))) dx (exd dx [(g, z), (f, y)]))
omit [TabC] in
structure XAt (K : PySem.W.Frag) (C : Addr) (qual : Str) (st : Stmt) (ps : List Str) (fs : List Str) : Prop where
  ex : ∃ f fd, Fun K "__init__" qual st f fd ∧ PySem.W.findIn K (.ref C) "__init__" = some (some (.ref f)) ∧ PySem.W.typeIn K (.ref f) = some (.type "function") ∧ Binds K fd ps []
  o : OexC K C
  no : ∀ f ∈ fs, PySem.W.findIn K (.ref C) f = some none
structure GoodX (P : Program) (w : World) (K : PySem.W.Frag) (mg : Str → Option Value) (base : Heap) (C : Addr) (ps : List Str) (sp : Sp) : Prop where
  ex : ∃ f fd, PySem.W.findIn K (.ref C) "__init__" = some (some (.ref f)) ∧ PySem.W.typeIn K (.ref f) = some (.type "function") ∧ Binds K fd ps [] ∧ FnOk P w K mg base (L2.CX P w) 1 f fd ps sp
  o : OexC K C
omit [TabC] in
theorem xAt_mk {K : PySem.W.Frag} {C : Addr} {qual : Str} {st : Stmt} {ps fs : List Str} {f : Addr} {oc : Value} {od an : Option Addr} {osl : Array (Option Value)} {kV doc pm cdv ct : Value} {dd : Option Addr} {cd : ClassData} {sl : Array (Option Value)}
    (hb : ∀ (kV doc pm : Value) (an : Option Addr) (cdv ct : Value) (us : List Value), us.length = ps.length → bindArgs (PySem.W.fnOf "__init__" qual (defArgs st) (defBody st) (defScope st) .none kV doc pm an cdv ct) ⟨us, []⟩ = pure (ps.zip us))
    (a : PySem.W.findIn K (.ref C) "__init__" = some (some (.ref f))) (l : K.lookup f = some ⟨oc, od, .func (PySem.W.fnOf "__init__" qual (defArgs st) (defBody st) (defScope st) .none kV doc pm an cdv ct), osl⟩) (c : PySem.W.codeIn K cdv qual = true) (k : PySem.W.keepIn K (.ref f) = true)
    (t : PySem.W.typeIn K (.ref f) = some (.type "function")) (o1 : K.lookup C = some ⟨.type "type", dd, .cls cd, sl⟩) (o2 : oexB C cd sl = true) (o3 : PySem.W.findIn K (.ref C) "__setattr__" = some (some (.builtin "object.__setattr__"))) (o4 : PySem.W.subIn K (.ref C) (.type "BaseException") = some true)
    (o5 : PySem.W.typeIn K (.ref C) = some (.type "type")) (o6 : PySem.W.keepIn K (.ref C) = true) (no : ∀ f ∈ fs, PySem.W.findIn K (.ref C) f = some none) : XAt K C qual st ps fs :=
  ⟨⟨f, _, fun_mk l c k, a, t, (fun_mk l c k).binds hb⟩, ⟨oexB_of o1 o2, o3, o4, o5, o6⟩, no⟩
omit [TabC] in
theorem all1 {p : Str → Prop} {f : Str} (h : p f) : ∀ x ∈ [f], p x := fun x hx => by cases List.mem_singleton.mp hx; exact h
omit [TabC] in
theorem all2 {p : Str → Prop} {f g : Str} (h : p f) (h' : p g) : ∀ x ∈ [f, g], p x := fun x hx => by
  rcases List.mem_cons.mp hx with rfl | hx
  · exact h
  · cases List.mem_singleton.mp hx; exact h'
section
variable {P : Program} {w : World} {K : PySem.W.Frag} {mg : Str → Option Value} {base : Heap} {C cB : Addr} {B qual s x z f g t : Str} {st : Stmt} {j : Nat} {p1 p2 p3 p4 p5 p6 p7 p8 p9 pa pb pc pd pe pf pg : Pos}
theorem goodX1 (A : XAt K C qual st ["self", x] [f]) (S : FnScope ["self", x] ["self", x] (defScope st)) (bx : BaseX K mg "FadeError" cB)
    (hb : defBody st = [.Expr (.Call (.Attribute (.Name "FadeError" p1) "__init__" p2) [.Name "self" p3, .Constant (.str t) j p4] [] p5) p6, .Assign [.Attribute (.Name "self" p7) f p8] (.Name x p9) pa] := by rfl)
    (hg : (defScope st).names.lookup ("FadeError" : Str) = some .globalImplicit := by rfl)
    (hc : ∀ env : Env, eval (.Call (.Attribute (.Name "FadeError" p1) "__init__" p2) [.Name "self" p3, .Constant (.str t) j p4] [] p5) env = (do
      let ov ← eval (.Name "FadeError" p1) env
      standAt p2.atName
      let (f, first) ← holding [ov] (getMethod ov "__init__" (do return (← importBound (.Name "FadeError" p1) env).getD true))
      callWith p5 f first (backTo p5 (starEach [.Name "self" p3, .Constant (.str t) j p4] env)) (backToKw p5 (keywordEach [] env))) := by intro _; rfl)
    (v1 : Vis (defScope st) "self" := by exact Or.inl rfl) (v2 : Vis (defScope st) x := by exact Or.inl rfl) (d2 : (x == ("__debug__" : Str)) = false := by decide) (c2 : (x == ("__classdict__" : Str)) = false := by decide) : GoodX P w K mg base C ["self", x] (spX1 C f) := by
  obtain ⟨fi, fd, F, h1, h2, b⟩ := A.ex
  refine ⟨⟨fi, fd, h1, h2, b, F.okX S (fun vs H Q E h => ?_) (fun cdv A' outer s' H vs Q E hr h => ?_)⟩, A.o⟩
  · obtain ⟨a, y, rfl, _⟩ := h; rfl
  · obtain ⟨a, y, rfl, ha, q⟩ := h
    rw [hb]
    have ns : PE (cxOf (L2.CX P w) P w K mg base ["self", x] qual (defScope st) fi cdv A' outer s' H E) (.Name "self" p3) _ := pe_var (i := 0) rfl v1
    have ns2 : PE (cxOf (L2.CX P w) P w K mg base ["self", x] qual (defScope st) fi cdv A' outer s' H E) (.Name "self" p7) _ := pe_var (i := 0) rfl v1
    have nx : PE (cxOf (L2.CX P w) P w K mg base ["self", x] qual (defScope st) fi cdv A' outer s' H E) (.Name x p9) _ := pe_var (i := 1) rfl v2 d2 c2
    refine ⟨_, pss_cons (ps_expr (pe_bxinit hg bx (pa_cons ns (pa_cons pe_str pa_nil)) (by decide) (hc _))) (pss_one (ps_ost ns2 nx)), ?_⟩
    refine ⟨.ref a, rfl, a, C, [.str t], rfl, by simp, A.o, ha, ?_⟩
    refine ⟨y, rfl, .ref a, rfl, a, C, rfl, A.o, A.no f (by simp), .inl ⟨ha, fun dx n ne => q dx n ne⟩⟩
theorem goodX2 (A : XAt K C qual st ["self", x, z] [f, g]) (S : FnScope ["self", x, z] ["self", x, z] (defScope st)) (bx : BaseX K mg "FadeError" cB)
    (hb : defBody st = [.Expr (.Call (.Attribute (.Name "FadeError" p1) "__init__" p2) [.Name "self" p3, .Constant (.str t) j p4] [] p5) p6, .Assign [.Attribute (.Name "self" p7) f p8] (.Name x p9) pa, .Assign [.Attribute (.Name "self" pb) g pc] (.Name z pd) pe] := by rfl)
    (hg : (defScope st).names.lookup ("FadeError" : Str) = some .globalImplicit := by rfl)
    (hc : ∀ env : Env, eval (.Call (.Attribute (.Name "FadeError" p1) "__init__" p2) [.Name "self" p3, .Constant (.str t) j p4] [] p5) env = (do
      let ov ← eval (.Name "FadeError" p1) env
      standAt p2.atName
      let (f, first) ← holding [ov] (getMethod ov "__init__" (do return (← importBound (.Name "FadeError" p1) env).getD true))
      callWith p5 f first (backTo p5 (starEach [.Name "self" p3, .Constant (.str t) j p4] env)) (backToKw p5 (keywordEach [] env))) := by intro _; rfl)
    (v1 : Vis (defScope st) "self" := by exact Or.inl rfl) (v2 : Vis (defScope st) x := by exact Or.inl rfl) (v3 : Vis (defScope st) z := by exact Or.inl rfl) (d2 : (x == ("__debug__" : Str)) = false := by decide) (c2 : (x == ("__classdict__" : Str)) = false := by decide)
    (d3 : (z == ("__debug__" : Str)) = false := by decide) (c3 : (z == ("__classdict__" : Str)) = false := by decide) : GoodX P w K mg base C ["self", x, z] (spX2 C f g) := by
  obtain ⟨fi, fd, F, h1, h2, b⟩ := A.ex
  refine ⟨⟨fi, fd, h1, h2, b, F.okX S (fun vs H Q E h => ?_) (fun cdv A' outer s' H vs Q E hr h => ?_)⟩, A.o⟩
  · obtain ⟨a, y, y2, rfl, _⟩ := h; rfl
  · obtain ⟨a, y, y2, rfl, ha, q⟩ := h
    rw [hb]
    have ns : PE (cxOf (L2.CX P w) P w K mg base ["self", x, z] qual (defScope st) fi cdv A' outer s' H E) (.Name "self" p3) _ := pe_var (i := 0) rfl v1
    have ns2 : PE (cxOf (L2.CX P w) P w K mg base ["self", x, z] qual (defScope st) fi cdv A' outer s' H E) (.Name "self" p7) _ := pe_var (i := 0) rfl v1
    have ns3 : PE (cxOf (L2.CX P w) P w K mg base ["self", x, z] qual (defScope st) fi cdv A' outer s' H E) (.Name "self" pb) _ := pe_var (i := 0) rfl v1
    have nx : PE (cxOf (L2.CX P w) P w K mg base ["self", x, z] qual (defScope st) fi cdv A' outer s' H E) (.Name x p9) _ := pe_var (i := 1) rfl v2 d2 c2
    have nz : PE (cxOf (L2.CX P w) P w K mg base ["self", x, z] qual (defScope st) fi cdv A' outer s' H E) (.Name z pd) _ := pe_var (i := 2) rfl v3 d3 c3
    refine ⟨_, pss_cons (ps_expr (pe_bxinit hg bx (pa_cons ns (pa_cons pe_str pa_nil)) (by decide) (hc _))) (pss_cons (ps_ost ns2 nx) (pss_one (ps_ost ns3 nz))), ?_⟩
    refine ⟨.ref a, rfl, a, C, [.str t], rfl, by simp, A.o, ha, ?_⟩
    refine ⟨y, rfl, .ref a, rfl, a, C, rfl, A.o, A.no f (by simp), .inl ⟨ha, fun dx n ne => ?_⟩⟩
    refine ⟨y2, rfl, .ref a, rfl, a, C, rfl, A.o, A.no g (by simp), .inr ⟨dx, [(f, y)], upd_same, by rw [upd_ne ne, upd_same], by simp, q dx n ne⟩⟩
end
def wRai1 (C : Addr) (f : Str) (We : WE) : WS := fun RR _ ρ => We (fun ex => RR ex ρ) ρ fun d => RR ⟨C, [f], [d]⟩ ρ
def wRai2 (C : Addr) (f g : Str) (We Wg : WE) : WS := fun RR _ ρ => We (fun ex => RR ex ρ) ρ fun d => Wg (fun ex => RR ex ρ) ρ fun e => RR ⟨C, [g, f], [e, d]⟩ ρ
@[simp ↓] theorem wRai1_ {C : Addr} {f : Str} {We : WE} {RR : RS} {E : EndsA} {ρ : Rho} : wRai1 C f We RR E ρ = We (fun ex => RR ex ρ) ρ fun d => RR ⟨C, [f], [d]⟩ ρ := (rfl)
@[simp ↓] theorem wRai2_ {C : Addr} {f g : Str} {We Wg : WE} {RR : RS} {E : EndsA} {ρ : Rho} : wRai2 C f g We Wg RR E ρ = We (fun ex => RR ex ρ) ρ fun d => Wg (fun ex => RR ex ρ) ρ fun e => RR ⟨C, [g, f], [e, d]⟩ ρ := (rfl)
theorem del_made {H : Hp} {a d : Addr} {o o2 : HO} {fs gs : List (Str × V)} (na : H a = none) (ne : d ≠ a) : upd (del (upd (upd (upd H a o) d (exd d gs)) a o2) a) d (.xd fs) = upd H d (.xd fs) := by
  funext b
  by_cases h : b = d
  · rw [h, upd_same, upd_same]
  · rw [upd_ne h, upd_ne h]
    by_cases h2 : b = a
    · rw [h2, del_same, na]
    · rw [del_ne h2, upd_ne h2, upd_ne h, upd_ne h2]
section
variable {X : Cx} {Wx : WX} {x f g : Str} {C : Addr} {ps : List Str} {e e2 : Expr} {p pos spos : Pos} {We Wg : WE} {k : Nat}
theorem ds_raise1 (hc : X.calm = true) (tk : Takes X Wx) (F : GoodX X.prog X.w X.K X.mg X.base C ps (spX1 C f)) (fc : XcF X.K X.mg x C) (hr : Room k X.A) (hk : 2 ≤ k) (h : DE X Wx e We) (hg : Gl X x := by rfl) (hdb : (x == ("__debug__" : Str)) = false := by decide)
    (he : starEach [e] X.env = (false, eval e X.env) :: starEach [] X.env := by rfl) : DS X Wx (.Raise (some (.Call (.Name x p) [e] [] pos)) none spos) (wRai1 C f We) := by
  obtain ⟨t, pe, q⟩ := h.ex
  obtain ⟨fi, fd, h1, h2, b, F1⟩ := F.ex
  refine ⟨⟨_, ps_raise hc tk (pmk_oex F.o h1 h2 F1 (hr.mono hk) b .nil (passes_call tk fun _ _ _ _ h => h.elim) hg fc.g (pa_cons pe pa_nil he) hdb he rfl), fun fr G ρ σ H R E FF r hR ok w => ?_⟩⟩
  refine q fr G ρ σ H _ _ _ r hR.e w fun v d G1 H1 s1 rv qd => ?_
  refine ⟨by simp, fun a na => ⟨a, v, rfl, upd_same, fun dx nd ne => ⟨rfl, dx, [(f, v)], upd_same, by rw [upd_ne ne, upd_same], by rw [upd_ne ne] at nd; exact nd, ?_⟩⟩⟩
  rw [upd_ne ne] at nd
  rw [del_made na ne]
  have s2 := Step.newG (o := .xd [(f, v)]) s1.rel nd
  exact hR ⟨C, [f], [d]⟩ (.ref C) (some dx) _ _ _ _ qd (.with (xs := [v]) (by simp) (.inr rfl) upd_same rfl ⟨v, [], rfl, s2.rep rv, rfl⟩) s2.rel
theorem ds_raise2 (hc : X.calm = true) (tk : Takes X Wx) (F : GoodX X.prog X.w X.K X.mg X.base C ps (spX2 C f g)) (fc : XcF X.K X.mg x C) (hr : Room k X.A) (hk : 2 ≤ k) (h : DE X Wx e We) (h' : DE X Wx e2 Wg) (hg : Gl X x := by rfl) (hdb : (x == ("__debug__" : Str)) = false := by decide)
    (he : starEach [e, e2] X.env = (false, eval e X.env) :: starEach [e2] X.env := by rfl) (he2 : starEach [e2] X.env = (false, eval e2 X.env) :: starEach [] X.env := by rfl) (hpl : (backTo pos (starEach [e2] X.env)).any (·.1) = false := by rfl) : DS X Wx (.Raise (some (.Call (.Name x p) [e, e2] [] pos)) none spos) (wRai2 C f g We Wg) := by
  obtain ⟨t, pe, q⟩ := h.ex
  obtain ⟨t', pe', q'⟩ := h'.ex
  obtain ⟨fi, fd, h1, h2, b, F1⟩ := F.ex
  refine ⟨⟨_, ps_raise hc tk (pmk_oex F.o h1 h2 F1 (hr.mono hk) b .nil (passes_call tk fun _ _ _ _ h => h.elim) hg fc.g (pa_cons pe (pa_cons pe' pa_nil he2) he) hdb he hpl), fun fr G ρ σ H R E FF r hR ok w => ?_⟩⟩
  refine q fr G ρ σ H _ _ _ r hR.e w fun v d G0 H0 s0 rv0 qd0 => ?_
  refine q' fr G0 ρ σ H0 _ _ _ s0.rel hR.e qd0 fun v2 d2 G1 H1 s1 rv qd => ?_
  refine ⟨by simp, fun a na => ⟨a, v, v2, rfl, upd_same, fun dx nd ne => ⟨rfl, dx, [(g, v2), (f, v)], by rw [upd_ne ne.symm, upd_same], upd_same, by rw [upd_ne ne] at nd; exact nd, ?_⟩⟩⟩
  rw [upd_ne ne] at nd
  have e0 : upd (del (upd (upd (upd (upd H1 a (exo a C none)) dx (exd dx [(f, v)])) a (exo a C (some dx))) dx (exd dx [(g, v2), (f, v)])) a) dx (.xd [(g, v2), (f, v)]) = upd H1 dx (.xd [(g, v2), (f, v)]) := by
    funext b
    by_cases h : b = dx
    · rw [h, upd_same, upd_same]
    · rw [upd_ne h, upd_ne h]
      by_cases h2 : b = a
      · rw [h2, del_same, na]
      · rw [del_ne h2, upd_ne h, upd_ne h2, upd_ne h, upd_ne h2]
  rw [e0]
  have s2 := Step.newG (o := .xd [(g, v2), (f, v)]) s1.rel nd
  exact hR ⟨C, [g, f], [d2, d]⟩ (.ref C) (some dx) _ _ _ _ qd (.with (xs := [v2, v]) (by simp) (.inr rfl) upd_same rfl ⟨v2, [v], rfl, s2.rep rv, v, [], rfl, s2.rep (s1.rep rv0), rfl⟩) s2.rel
end
end AV

set_option maxRecDepth 100000
set_option maxHeartbeats 2000000
/-! a lambda without parameters handed to a def of this text -/
namespace AV
open PySem PySem.Spec PyProof.Rows L2
variable [TabC]
/-- what comes of asking: its answer, what it raises -/
abbrev AskT := (D → Prop) → (EX → Prop) → Prop
class Ka where
  A : AskT
def askK (Q : D → Prop) (R : EX → Prop) [K : Ka] : Prop := ∃ Qz Rz, K.A Qz Rz ∧ (∀ d, Qz d → Q d) ∧ ∀ ex, Rz ex → R ex
def wAsk (i : Nat) (f c' : Addr) (q : Str) (Gl : GS) (Hl : Hp) (A : AskT) : WE := fun R ρ Q => gt ρ i = .clo f c' q Gl Hl ∧ ∃ Qz Rz, A Qz Rz ∧ (∀ d, Qz d → Q d) ∧ ∀ ex, Rz ex → R ex
@[simp ↓] theorem wAsk_ {i : Nat} {f c' : Addr} {q : Str} {Gl : GS} {Hl : Hp} {A : AskT} {R : EX → Prop} {ρ : Rho} {Q : D → Prop} : wAsk i f c' q Gl Hl A R ρ Q = (gt ρ i = .clo f c' q Gl Hl ∧ ∃ Qz Rz, A Qz Rz ∧ (∀ d, Qz d → Q d) ∧ ∀ ex, Rz ex → R ex) := (rfl)
/-- the reading tl of the lambda's body keeps A -/
def AskOk (K : PySem.W.Frag) (G : GS) (H : Hp) (A : AskT) (tl : XK → Hp → VK → Prop) : Prop :=
  ∀ HZ G' Qz Rz E Q', Stab G H HZ → (∀ b, G b → G' b) → GOk G' HZ → A Qz Rz → (∀ v d G2 H2, Post K none G' HZ G2 H2 → Rep K G2 H2 d v → Qz d → Q' v H2) →
    (∀ ex cls dd G2 H2, Post K none G' HZ G2 H2 → ExRep K G2 H2 ex cls dd → Rz ex → E cls dd H2) → tl E HZ Q'
/-- a call of the lambda, in the def that was handed it -/
def tAsk (f c' : Addr) (q : Str) (tl : XK → Hp → VK → Prop) (W : WX) : TE := fun σZ HZ Q => σZ[0]? = some (some (.ref f)) ∧ HZ c' = some (LamX.CodeO c' q) ∧ tl (fun cls d H' => W cls d σZ H') HZ Q
theorem de_ask {X : Cx} {W : WX} {e : Expr} {f c' : Addr} {q : Str} {Gl : GS} {Hl : Hp} {A : AskT} {tl : XK → Hp → VK → Prop} (hp : PE X e (tAsk f c' q tl W)) (ok : AskOk X.K Gl Hl A tl) : DE X W e (wAsk 0 f c' q Gl Hl A) := by
  refine ⟨⟨_, hp, fun fr G ρ σ H R Qa Q rl hR w k => ?_⟩⟩
  obtain ⟨hi, Qz, Rz, ha, hq, hr⟩ := w
  have s := rl.slot 0
  rw [hi] at s
  obtain ⟨e1, e2, ⟨e3, e4⟩, st, gg⟩ := s
  refine ⟨sv_some.mp e1, rl.same c' _ e3 e4 e2, ok H G Qz Rz _ _ st gg rl.gok ha (fun v d G2 H2 po rv qd => ?_) fun ex cls dd G2 H2 po er rz => ?_⟩
  · exact k v d G2 H2 (po.step rl) rv (hq d qd)
  · exact hR ex cls dd G2 H2 (hr ex rz) er (po.step rl).rel
/-- what a def that is handed a lambda tells -/
def TTa (K : PySem.W.Frag) (φ : AskT → (D → Prop) → Prop) (tl : XK → Hp → VK → Prop) (H : Hp) (Q : VK) : Prop :=
  ∃ G A Qa, GOk G H ∧ φ A Qa ∧ AskOk K G H A tl ∧ ∀ v d G' H', Post K none G H G' H' → Rep K G' H' d v → Qa d → Q v H'
abbrev saidC (P : Program) (w : World) (K : PySem.W.Frag) (mg : Str → Option Value) (base : Heap) (N : List Str) (x : Str) (sc : Scope) (g : Addr) (cdv : Value) (A : Around) (outer : List Env) (s : Shared) (H : Hp) : Cx := cxOf C8.CX0 P w K mg base N x sc g cdv A outer s H C8.E0
structure GoodL (P : Program) (w : World) (K : PySem.W.Frag) (mg : Str → Option Value) (base : Heap) (k : Nat) (x a : Str) (φ : AskT → (D → Prop) → Prop) : Prop where
  ex : ∃ g fd cdv N sc, mg x = some (.ref g) ∧ PySem.W.keepIn K (.ref g) = true ∧ Binds K fd [a] [] ∧ N[0]? = some a ∧ Vis sc a ∧ ∀ (A : Around) (outer : List Env) (s : Shared) (H : Hp) (Q : VK) (f c' : Addr) (q : Str) (tl : XK → Hp → VK → Prop), Room (k + 1) A → Env0 P w K mg base A outer s H →
    (∀ (W : WX) (pn : List (Addr × Obj)) (xe : Value → Shared → Prop) (p1 p2 : Pos), Takes ((saidC P w K mg base N x sc g cdv A outer s H).tr pn xe) W → PE ((saidC P w K mg base N x sc g cdv A outer s H).tr pn xe) (.Call (.Name a p1) [] [] p2) (tAsk f c' q tl W)) →
    H c' = some (LamX.CodeO c' q) → TTa K φ tl H Q → codeAny (model P w) A (.call (.ref g) ⟨[.ref f], []⟩) (CR C8.CX0 outer P w H s Q C8.E0) s
abbrev HBL (P : Program) (w : World) (K : PySem.W.Frag) (mg : Str → Option Value) (base : Heap) (k : Nat) (x a : Str) (st : Stmt) (N : List Str) (Wb : Addr → Addr → Str → GS → Hp → AskT → WS) : Prop :=
  ∀ (g : Addr) (cdv : Value) (A : Around) (outer : List Env) (s : Shared) (H : Hp) (f c' : Addr) (q : Str) (Gl : GS) (Hl : Hp) (AA : AskT), Room k (A.deeper (envOfC x (defScope st) s.heap.objs.size g cdv)) →
    (∀ (W : WX) (pn : List (Addr × Obj)) (xe : Value → Shared → Prop) (p1 p2 : Pos), Takes ((saidC P w K mg base N x (defScope st) g cdv A outer s H).tr pn xe) W → DE ((saidC P w K mg base N x (defScope st) g cdv A outer s H).tr pn xe) W (.Call (.Name a p1) [] [] p2) (wAsk 0 f c' q Gl Hl AA)) →
    DSs (saidC P w K mg base N x (defScope st) g cdv A outer s H) (fun _ _ _ _ => False) (defBody st) (Wb f c' q Gl Hl AA)
theorem goodL {P : Program} {w : World} {K : PySem.W.Frag} {mg : Str → Option Value} {base : Heap} {x a : Str} {st : Stmt} {N : List Str} {k : Nat} {φ : AskT → (D → Prop) → Prop} {Wb : Addr → Addr → Str → GS → Hp → AskT → WS} (A0 : FnAt K mg x st [a]) (S : FnScope N [a] (defScope st)) (hb : HBL P w K mg base k x a st N Wb) (hN : N[0]? = some a) (hv : Vis (defScope st) a)
    (hφ : ∀ f c' q Gl Hl AA Q, φ AA Q → Wb f c' q Gl Hl AA (fun _ _ => False) ⟨fun _ => Q .non, fun _ => Q, fun _ => False, fun _ => False⟩ (.clo f c' q Gl Hl :: List.replicate (N.length - 1) .un)) : GoodL P w K mg base k x a φ := by
  obtain ⟨g, fd, F, hm, b⟩ := A0.ex
  obtain ⟨oc, od, kV, doc, pm, an, cdv, ct, osl, rfl, lk, hcd⟩ := F.ex
  refine ⟨g, _, cdv, N, defScope st, hm, F.kp, b, hN, hv, fun A outer s H Q f c' q tl hr e0 act hco tt => ?_⟩
  have kin : K.In s.heap := e0.mod.kin.keeps fun b o e => (e0.bs b o e).1
  refine LamX.run_ofS (N := N) (ps := [a]) (us := [.ref f]) (vs := [.ref f]) lk hcd S hr e0 (b s [.ref f] kin rfl) (.cons rfl .nil) rfl fun hr' => ?_
  obtain ⟨G, AA, Qa, gok, ph, ask, kv⟩ := tt
  obtain ⟨t, p, rd⟩ := (hb g cdv A outer s H f c' q G H AA hr' fun W pn xe p1 p2 tk => de_ask (act W pn xe p1 p2 tk) ask).ex
  refine ⟨t, p, rd ⟨H, none, G, H, fun _ => False, fun _ => False, by simp, gok.ht⟩ G _ (start N [.ref f]) H _ _ _ ?_ (fun ex cls d G' ρ' σ' H' z er rl => z) ⟨fun G' ρ' σ' H' rl z => kv .non .non G' H' rl.post rfl z, fun v d G' ρ' σ' H' rl rv z => kv v d G' H' rl.post rv z, fun _ _ _ _ _ z => z, fun _ _ _ _ _ z => z, fun v es G' ρ' σ' H' rl _ rv z => kv v _ G' H' rl.post rv z⟩ (hφ f c' q G H AA Qa ph)⟩
  have est : start N [.ref f] = some (.ref f) :: List.replicate (N.length - 1) none := by
    unfold L2.start
    simp
  have nl : N.length = (N.length - 1) + 1 := by
    cases N with
    | nil => simp at hN
    | cons _ _ => simp
  have gu : ∀ {m j : Nat}, gt (List.replicate m Slot.un) j = .un := fun {m j} => by
    induction m generalizing j with
    | zero => rfl
    | succ m ih =>
      cases j with
      | zero => rfl
      | succ j => exact ih
  refine ⟨fun _ h => h, fun _ h => .inl h, gok.gi, fun _ _ _ _ h => h, fun _ h => (by cases h), fun i => ?_, fun i j b _ m => ?_, ?_, .refl, fun _ h => h.elim, fun _ h => h.elim, gok.tb, gok.tbs⟩
  · rw [est]
    cases i with
    | zero => exact ⟨rfl, hco, ⟨by simp, notT gok.tbs hco LamX.codeO_ne⟩, .refl, fun _ h => h⟩
    | succ i =>
      show SlotOk _ _ _ _ (gt (List.replicate (N.length - 1) Slot.un) i) _
      rw [gu]; trivial
  · cases i with
    | zero => exact (show False from m).elim
    | succ i =>
      have m : isMut (gt (List.replicate (N.length - 1) Slot.un) i) := m
      rw [gu] at m; exact m.elim
  · rw [est]; simp
/-! ### where the lambda is made -/
section
variable {X : Cx} {pins : List (Addr × Obj)} {σ : L2.St} {H HZ : Hp} {s : Shared}
/-- the lambda is made: its code object is new, or found in the table; nothing but the table is touched -/
theorem lam_new {c P : Addr} {q : Str} {params : Arguments} {body : Expr} {scope : Scope} {pos : Pos} {E : Value → Shared → Prop} {Q : Value → Shared → Prop} (hq : q = X.env.qual ++ "<lambda>") (I : Inv X pins σ H s) (TB : LamX.TabB X.base X.mg c P) (hcode : X.env.code = .ref c)
    (hm : (P, q) ∈ TabC.T) (hu : ∀ p ∈ TabC.T, p.1 = P → p.2 = q) (hT : LamX.Tabs TabC.T H) (hdef : defaultsOf params X.env = ([], [])) (hfree : ∀ y ∈ scope.names, y.2 = .free → ∃ c, X.env.cells.lookup y.1 = some c)
    (h : ∀ (f c' : Addr) (pm ctv : Value) (H1 : Hp) (s' : Shared), Inv X pins σ H1 s' → (∀ b o, b ≠ P → H b = some o → H1 b = some o) → (∀ b, H1 b = none → H b = none) → LamX.Tabs TabC.T H1 →
      s'.heap.get? f = some (PySem.W.kla_obj "<lambda>" q params body scope (cloFrom X.env.cells scope.names []) pm c' ctv) → H1 f = none → f ∉ frs X.stack → H1 c' = some (LamX.CodeO c' q) → Q (.ref f) s') :
    wpAny (model X.prog X.w) X.A (eval (.Lambda params body scope pos) X.env) Q E s := by
  subst hq
  obtain ⟨tps, hPt, htr, hal⟩ := hT _ hm
  have blt : s.heap.BuiltinsAt X.mg P := TB.bm.keeps I.bk
  have atP : s.heap.get? P = some { cls := .none, data := .fields tps } := I.hok P _ hPt
  have far : ∀ f, s.heap.objs.size ≤ f → f ∉ frs X.stack := fun f hf z => (List.mem_cons.mp (I.stkSub _ z)).elim (fun e => by
    have hh := I.lt
    rw [← e] at hh
    exact Nat.lt_irrefl _ (Nat.lt_of_lt_of_le hh hf)) (I.nofs hf)
  refine PySem.W.kla_eval hdef ?_
  cases hc : codeAmong pos tps.toList with
  | some cv =>
    obtain ⟨c', rfl, hco⟩ := hal pos cv hc
    refine PySem.W.kla_makeFunctionHit (mg := X.mg) (c := c) (P := P) (ps := tps) (closure_ok hfree) I.ok.glob (I.mod.glob.keeps I.bk) hcode (TB.code.keeps I.bk) atP htr hc blt ?_
    intro ctv h' tk hx hsz
    refine h h'.objs.size c' _ ctv H _ (I.kept (t' := tk) fun b o e => Heap.get?_push_of_some _ (hx b o e)) (fun _ _ _ e => e) (fun _ e => e) hT (Heap.get?_push_size _ rfl) (I.hok.fresh hsz) (far _ hsz) hco
  | none =>
    refine PySem.W.kla_makeFunction (mg := X.mg) (c := c) (P := P) (ps := tps) (closure_ok hfree) I.ok.glob (I.mod.glob.keeps I.bk) hcode (TB.code.keeps I.bk) atP htr hc TB.gP blt ?_
    intro c' ctv h' tk hx hge hlt hrec htb
    obtain ⟨c2, oc, vs, t, e2, hoc, hd, hv⟩ := hrec
    cases e2
    have freeC : H c' = none := I.hok.fresh hge
    have sz2 : s.heap.objs.size ≤ h'.objs.size := by omega
    have J := LamX.inv_table (t' := tk) (q := X.env.qual ++ "<lambda>") (more := #[rawInt pos.line, rawInt pos.col, .ref c']) (h' := h'.push (PySem.W.kla_obj "<lambda>" (X.env.qual ++ "<lambda>") params body scope (cloFrom X.env.cells scope.names []) ((X.mg "__name__").getD .none) c' ctv)) I hPt
      (fun b o hb e => Heap.get?_push_of_some _ (hx b o hb e)) (Heap.get?_push_of_some _ htb) hge ⟨oc, vs, t, Heap.get?_push_of_some _ hoc, hd, hv⟩
    have ext : ∀ b o, b ≠ P → H b = some o → upd (upd H P (.tbl (tps ++ #[rawInt pos.line, rawInt pos.col, .ref c']))) c' (LamX.CodeO c' (X.env.qual ++ "<lambda>")) b = some o := fun b o n e => by
      rw [upd_ne (ne_of_none e freeC), upd_ne n]; exact e
    have sn : (tps ++ #[rawInt pos.line, rawInt pos.col, .ref c']).toList = tps.toList ++ [rawInt pos.line, rawInt pos.col, .ref c'] := by simp
    refine h h'.objs.size c' _ ctv _ _ J ext (fun b e => ?_) (fun p hp => ?_) (Heap.get?_push_size _ rfl) ?_ (far _ sz2) upd_same
    · by_cases h1 : b = c'
      · subst h1; exact freeC
      · rw [upd_ne h1] at e
        by_cases h2 : b = P
        · subst h2; rw [upd_same] at e; cases e
        · rw [upd_ne h2] at e; exact e
    · by_cases hb : p.1 = P
      · rw [hu p hp hb, hb]
        refine ⟨_, by rw [upd_ne (ne_of_none hPt freeC), upd_same], by rw [sn]; exact PySem.TriplesOk_snoc _ _ _ _ htr, fun p' cv hcv => ?_⟩
        rw [sn] at hcv
        rcases LamX.among_app _ htr hcv with z | z
        · obtain ⟨c0, e1, e2⟩ := hal p' cv z
          exact ⟨c0, e1, ext _ _ (fun n => by rw [n, hPt] at e2; exact LamX.codeO_ne _ (Option.some.inj e2).symm) e2⟩
        · exact ⟨c', z, upd_same⟩
      · obtain ⟨tp2, a1, a2, a3⟩ := hT p hp
        refine ⟨tp2, ext _ _ hb a1, a2, fun p' cv hcv => ?_⟩
        obtain ⟨c0, e1, e2⟩ := a3 p' cv hcv
        exact ⟨c0, e1, ext _ _ (fun n => by rw [n, hPt] at e2; exact LamX.codeO_ne _ (Option.some.inj e2).symm) e2⟩
    · have n1 : h'.objs.size ≠ c' := fun z => Nat.lt_irrefl _ (z ▸ hlt)
      have n2 : h'.objs.size ≠ P := (Nat.ne_of_lt (Nat.lt_of_lt_of_le (Heap.lt_size atP) sz2)).symm
      rw [upd_ne n1, upd_ne n2]
      exact I.hok.fresh sz2
/-- a() in the def that was handed it; what is raised is told at that def's slots -/
theorem pe_asked {CXg : CXT} {Eg : XK} {Ng : List Str} {qg : Str} {sg : Scope} {g f c' : Addr} {cdg pm ctv : Value} {params : Arguments} {body : Expr} {scope : Scope} {k : Nat} {a q : Str} {pn : List (Addr × Obj)} {xe : Value → Shared → Prop} {W : WX} {tb : XK → TE} {p1 p2 : Pos} (hq : q = X.env.qual ++ "<lambda>")
    (I : Inv X pins σ H s) (L : LamX.LamS X.env.scope scope) (hf : s.heap.get? f = some (PySem.W.kla_obj "<lambda>" q params body scope (cloFrom X.env.cells scope.names []) pm c' ctv)) (hfn : H f = none) (hfr : f ∉ frs X.stack)
    (hbind : bindArgs (PySem.W.kla_fn "<lambda>" q params body scope (cloFrom X.env.cells scope.names []) pm (.ref c') ctv) ⟨[], []⟩ = pure [])
    (tk : Takes ((cxOf CXg X.prog X.w X.K X.mg X.base Ng qg sg g cdg X.A X.stack s H Eg).tr pn xe) W) (hr : Room (k + 1) (X.A.deeper (envOfC qg sg s.heap.objs.size g cdg)))
    (hbody : ∀ (A : Around) (outer : List Env) (s : Shared) (H : Hp) (E : XK), Room k (A.deeper (LamX.lamEnv X scope s.heap.objs.size f c')) → PE (LamX.lamCx X A outer s H E scope f c') body (tb E))
    (hN : Ng[0]? = some a) (hv : Vis sg a) (hd : (a == ("__debug__" : Str)) = false) (hcd : (a == ("__classdict__" : Str)) = false) :
    PE ((cxOf CXg X.prog X.w X.K X.mg X.base Ng qg sg g cdg X.A X.stack s H Eg).tr pn xe) (.Call (.Name a p1) [] [] p2) (tAsk f c' q (fun E HZ Q => tb E σ HZ Q) W) := by
  subst hq
  constructor
  rintro pz sz σz Hz Q Iz ⟨is_f, is_c, rd⟩
  apply wpAny_Call_Name_kw
  apply thn ((pe_var (pos := p1) (i := 0) hN hv hd hcd).run pz sz σz Hz (fun v H1 => v = .ref f ∧ H1 = Hz) Iz ⟨.ref f, is_f, rfl, rfl⟩)
  rintro u s1 ⟨v, H1, I1, r1, rfl, e1⟩
  subst e1
  cases r1
  have at_f := I1.base.keep f _ hf hfn hfr (fun z => nomatch (show f ∈ ([] : List Addr) from z))
  apply PySem.W.callWith_F0 ⟨_, _, _, _, at_f⟩
  have un : Un (frs X.stack) [] H H1 s.heap s1.heap := I1.base
  obtain ⟨⟨oc, vs, t, hoc, hdc, hvc⟩, _, _⟩ := I1.hok c' _ is_c
  have run : codeAny (model X.prog X.w) (X.A.deeper (envOfC qg sg s.heap.objs.size g cdg)) (.call (.ref f) ⟨[], []⟩) (CR (L2.CX X.prog X.w) (envOfC qg sg s.heap.objs.size g cdg :: X.stack) X.prog X.w H1 s1 Q (fun cls d H' => W cls d σz H')) s1 := by
    apply PySem.W.kla_callFunE hr.depth at_f rfl L.co L.gen rfl ⟨c', oc, vs, t, rfl, hoc, hdc, hvc⟩
    rw [hbind]
    apply wpAny_pure
    apply wpAny_newFunctionEnv (fun y hy => (L.own y hy).2) (fun y hy => absurd hy (by simp)) _ L.kind
    intro h₁ hns hsb
    refine ⟨I1.nolimit.fresh _ hsb, ?_⟩
    have kept : ∀ b o, s1.heap.get? b = some o → h₁.get? b = some o := fun b o e => hsb.extBut b o (Nat.ne_of_lt (Heap.lt_size e)) (Heap.get?_push_of_some _ e)
    have J := LamX.lam_start2 (E := fun cls d H' => W cls d σz H') (f := f) (c' := c') (tk := s1.toks + ([] : List (Str × Value)).length) I L I1.env0 hr.hd un hns kept
    refine PySem.W.kla_codeExpr (wpAny_mono ((hbody _ _ s1 H1 _ (hr.deeper _)).run [] _ _ H1 Q J rd) ?_ fun e s' he => he)
    rintro v s' ⟨w', H', J', rv, q2⟩
    exact ⟨w', H', J'.os, J'.bare, J'.base, J'.hok, rv, q2⟩
  apply wpAny_call
  apply codeAny_mono run
  rintro (e | fl) s' h2
  · exact passAt tk σz pz H1 s1 e s' I1 h2
  · cases fl with
    | ret u => exact I1.after h2
    | _ => exact h2.elim
end
/-- the values that the lambda sees -/
def valsR (ρ : Rho) : Rho := ρ.map fun s => match s with | .val d => .val d | .exc ex a d => .exc ex a d | _ => .un
@[simp] theorem valsR_nil : valsR [] = [] := (rfl)
@[simp] theorem valsR_val {d : D} {r : Rho} : valsR (.val d :: r) = .val d :: valsR r := (rfl)
@[simp] theorem valsR_un {r : Rho} : valsR (.un :: r) = .un :: valsR r := (rfl)
@[simp] theorem valsR_stt {r : Rho} : valsR (.stt :: r) = .un :: valsR r := (rfl)
@[simp] theorem valsR_own {oa : Option Addr} {ds : List D} {r : Rho} : valsR (.own oa ds :: r) = .un :: valsR r := (rfl)
@[simp] theorem valsR_exc {ex : EX} {a : Addr} {d : Option Addr} {r : Rho} : valsR (.exc ex a d :: r) = .exc ex a d :: valsR r := (rfl)
theorem gt_valsR : ∀ {ρ : Rho} {i : Nat}, gt (valsR ρ) i = match gt ρ i with | .val d => .val d | .exc ex a d => .exc ex a d | _ => .un
  | [], i => rfl
  | s :: r, 0 => rfl
  | s :: r, i + 1 => gt_valsR (ρ := r) (i := i)
def wLam (φ : AskT → (D → Prop) → Prop) (Wb : WE) : WE := fun R ρ Q => φ (fun Qz Rz => Wb Rz (valsR ρ) Qz) Q
class KW where
  W : (D → Prop) → (EX → Prop) → Prop
def laK (φ : AskT → (D → Prop) → Prop) [K : KW] [Q : Kn D] : Prop := φ K.W Q.r
@[simp ↓] theorem wLam_ {φ : AskT → (D → Prop) → Prop} {Wb : WE} {R : EX → Prop} {ρ : Rho} {Q : D → Prop} : wLam φ Wb R ρ Q = @laK φ ⟨fun Qz Rz => Wb Rz (valsR ρ) Qz⟩ ⟨Q⟩ := (rfl)
section
variable {X : Cx} {Wx : WX} {c P : Addr} {k kb n : Nat} {x a : Str} {φ : AskT → (D → Prop) → Prop} {params : Arguments} {body : Expr} {scope : Scope} {lpos p pos : Pos} {Wb : WE}
theorem de_lam (F : GoodL X.prog X.w X.K X.mg X.base k x a φ) (hr : Room n X.A) (hk : k + 1 ≤ n) (hkb : kb + 2 ≤ n) (TB : LamX.TabB X.base X.mg c P) (hcode : X.env.code = .ref c) (hm : (P, X.env.qual ++ "<lambda>") ∈ TabC.T) (hu : ∀ p ∈ TabC.T, p.1 = P → p.2 = X.env.qual ++ "<lambda>")
    (hb : ∀ (A : Around) (outer : List Env) (s : Shared) (H : Hp) (E : XK) (f c' : Addr), Room kb (A.deeper (LamX.lamEnv X scope s.heap.objs.size f c')) → Takes (LamX.lamCx X A outer s H E scope f c') (fun cls d _ H => E cls d H) → DE (LamX.lamCx X A outer s H E scope f c') (fun cls d _ H => E cls d H) body Wb)
    (L : LamX.LamS X.env.scope scope) (hdef : defaultsOf params X.env = ([], []) := by rfl)
    (hbind : ∀ (q : Str) (cl : List (Str × Addr)) (pm cv ctv : Value), bindArgs (PySem.W.kla_fn "<lambda>" q params body scope cl pm cv ctv) ⟨[], []⟩ = pure [] := by intro _ _ _ _ _; rfl)
    (hg : Gl X x := by rfl) (hdb : (x == ("__debug__" : Str)) = false := by decide) (hd : (a == ("__debug__" : Str)) = false := by decide) (hcd : (a == ("__classdict__" : Str)) = false := by decide) :
    DE X Wx (.Call (.Name x p) [.Lambda params body scope lpos] [] pos) (wLam φ Wb) := by
  obtain ⟨g, fd, cdv, N, sc, hmg, hkp, hbi, hN, hv, run⟩ := F.ex
  let tb : XK → TE := fun E => canE X.K (fun cls d _ H => E cls d H) Wb
  refine ⟨⟨fun σ H Q => LamX.Tabs TabC.T H ∧ ∀ H1, (∀ b o, b ≠ P → H b = some o → H1 b = some o) → (∀ b, H1 b = none → H b = none) → LamX.Tabs TabC.T H1 → TTa X.K φ (fun E HZ Q' => tb E σ HZ Q') H1 Q, ?_, fun fr G ρ σ H R Qa Q rl hR w kk => ?_⟩⟩
  · constructor
    intro pins s σ H Q I h
    obtain ⟨hT, h⟩ := h
    apply wpAny_Call_Name_kw
    apply ld_glob I hg hmg _ hdb
    refine PySem.W.callWith_K (h₀ := X.base) I.ok.mod.kin hkp ?_ (by rfl) (by rfl)
    show wpAny _ _ (spliced ((false, eval (.Lambda params body scope lpos) X.env) :: backTo pos (starEach [] X.env))) _ _ s
    refine Calls.spliced_cons (lam_new rfl I TB hcode hm hu hT hdef (L.has I.ok) ?_)
    intro f c' pm ctv H1 s' I1 e1 e2 T1 hf hfn hfr hco
    refine Calls.spliced_nil ⟨I1.kIn, ?_⟩
    have rc := run X.A X.stack s' H1 Q f c' (X.env.qual ++ "<lambda>") (fun E HZ Q' => tb E σ HZ Q') (hr.mono hk) I1.env0 (fun W pn xe p1 p2 tk => ?_) hco (h H1 e1 e2 T1)
    · apply wpAny_call
      apply codeAny_mono rc
      rintro (er | fl) s2 hq
      · exact (show False from hq).elim
      · cases fl with
        | ret u => exact I1.after hq
        | _ => exact hq.elim
    · refine pe_asked (tb := tb) (k := kb) rfl I1 L hf hfn hfr (hbind _ _ _ _ _) tk ((hr.mono hkb).deeper _) (fun A outer s H E hr2 => ?_) hN hv hd hcd
      exact (hb A outer s H E f c' hr2 (takes_of rfl rfl rfl rfl)).can
  · refine ⟨rl.tbs, fun H1 e1 e2 T1 => ?_⟩
    have nP : ∀ b, ¬ isT b → b ≠ P := fun b h z => h ⟨_, z ▸ hm⟩
    have tP : isT P := ⟨_, hm⟩
    have po : Post X.K none G H G H1 := ⟨fun b o _ ht e => e1 b o (nP b ht) e, fun _ h => h, fun _ h => .inl h, fun b g => by
      obtain ⟨o, e⟩ := rl.gi b g
      exact ⟨o, e1 b o (fun z => rl.tb P tP (z ▸ g)) e⟩, (fun _ z => by cases z), rl.tb, T1⟩
    have s1 := po.step rl
    refine ⟨G, _, Qa, s1.rel.gok, w, ?_, fun v d G' H' po2 rv qd => kk v d G' H' (s1.trans (po2.step s1.rel)) rv qd⟩
    intro HZ G' Qz Rz E Q' st gg gok wb k1 k2
    refine ⟨⟨HZ, none, G', HZ, fun _ => False, fun _ => False, by simp, gok.ht⟩, G', valsR ρ, Rz, Qz, ?_, fun ex cls d G2 H2 hr2 er rel => k2 ex cls d G2 H2 rel.post er hr2, wb, fun v d G2 H2 s2 rv qd => k1 v d G2 H2 s2.rel.post rv qd⟩
    refine ⟨fun _ h => h, fun _ h => .inl h, gok.gi, fun _ _ _ _ h => h, fun _ h => (by cases h), fun i => ?_, fun i j b _ m => ?_, ?_, .refl, fun _ h => h.elim, fun _ h => h.elim, gok.tb, gok.tbs⟩
    · have sl := s1.rel.slot i
      rw [gt_valsR]
      cases e : gt ρ i with
      | val d =>
        rw [e] at sl
        obtain ⟨v, ev, rv⟩ := sl
        exact ⟨v, ev, Rep.stab st gg d v rv⟩
      | exc ex a d =>
        rw [e] at sl
        exact ⟨sl.1, sl.2.stab st gg⟩
      | _ => trivial
    · rw [gt_valsR] at m
      cases e : gt ρ i <;> rw [e] at m <;> exact m.elim
    · rw [rl.len]; simp [valsR]
end
end AV
namespace AV
open PySem PySem.Spec PyProof.Rows L2
variable [TabC]
/-! ### defs whose code object is known -/
omit [TabC] in
structure FunC (K : PySem.W.Frag) (x : Str) (st : Stmt) (f : Addr) (fd : FuncData) (cd : Addr) : Prop where
  ex : ∃ (oc : Value) (od : Option Addr) (kV doc pm : Value) (an : Option Addr) (ct : Value) (osl : Array (Option Value)),
    fd = PySem.W.fnOf x x (defArgs st) (defBody st) (defScope st) .none kV doc pm an (.ref cd) ct ∧ K.lookup f = some ⟨oc, od, .func fd, osl⟩ ∧ PySem.W.codeIn K (.ref cd) x = true
  kp : PySem.W.keepIn K (.ref f) = true
omit [TabC] in
structure FnAtC (K : PySem.W.Frag) (mg : Str → Option Value) (x : Str) (st : Stmt) (ps : List Str) (cd : Addr) : Prop where
  ex : ∃ f fd, FunC K x st f fd cd ∧ mg x = some (.ref f) ∧ Binds K fd ps []
omit [TabC] in
theorem fnAtC_mk {K : PySem.W.Frag} {h : Heap} {mg : Str → Option Value} {x : Str} {st : Stmt} {ps : List Str} {f cd : Addr} {oc : Value} {od an : Option Addr} {osl : Array (Option Value)} {kV doc pm ct : Value} (X : K.In h) (G : h.Ns mainGlobals mg)
    (hb : ∀ (kV doc pm : Value) (an : Option Addr) (cdv ct : Value) (us : List Value), us.length = ps.length → bindArgs (PySem.W.fnOf x x (defArgs st) (defBody st) (defScope st) .none kV doc pm an cdv ct) ⟨us, []⟩ = pure (ps.zip us))
    (a : PySem.W.nsIn K mainGlobals x = some (some (.ref f))) (l : K.lookup f = some ⟨oc, od, .func (PySem.W.fnOf x x (defArgs st) (defBody st) (defScope st) .none kV doc pm an (.ref cd) ct), osl⟩) (c : PySem.W.codeIn K (.ref cd) x = true) (k : PySem.W.keepIn K (.ref f) = true) : FnAtC K mg x st ps cd :=
  ⟨f, _, ⟨⟨oc, od, kV, doc, pm, an, ct, osl, rfl, l, c⟩, k⟩, PySem.W.mg_of X G a, (fun_mk l c k).binds hb⟩
section
variable {P : Program} {w : World} {K : PySem.W.Frag} {mg : Str → Option Value} {base : Heap} {x : Str} {st : Stmt} {N ps : List Str} {k : Nat} {φ : AS} {Wb : WS} {cd : Addr}
abbrev HBC (P : Program) (w : World) (K : PySem.W.Frag) (mg : Str → Option Value) (base : Heap) (k : Nat) (x : Str) (st : Stmt) (N : List Str) (cd : Addr) (Wb : WS) : Prop :=
  ∀ (f : Addr) (A : Around) (outer : List Env) (s : Shared) (H : Hp) (E : XK), Room k (A.deeper (envOfC x (defScope st) s.heap.objs.size f (.ref cd))) → Takes (cxOf (L2.CX P w) P w K mg base N x (defScope st) f (.ref cd) A outer s H E) (fun cls d _ H => E cls d H) →
    PassesOwn (model P w) (A.deeper (envOfC x (defScope st) s.heap.objs.size f (.ref cd))) (envOfC x (defScope st) s.heap.objs.size f (.ref cd)) (cxOf (L2.CX P w) P w K mg base N x (defScope st) f (.ref cd) A outer s H E).xe →
    DSs (cxOf (L2.CX P w) P w K mg base N x (defScope st) f (.ref cd) A outer s H E) (fun cls d _ H => E cls d H) (defBody st) Wb
theorem okC {f : Addr} {fd : FuncData} (F : FunC K x st f fd cd) (S : FnScope N ps (defScope st)) : ∀ sp : Sp, (∀ vs H Q E, sp vs H Q E → vs.length = ps.length) → (∀ cdv, cdv = Value.ref cd → ∀ (A : Around) (outer : List Env) (s : Shared) (H : Hp) (vs : List V) (Q : VK) (E : XK), Room k (A.deeper (envOfC x (defScope st) s.heap.objs.size f cdv)) → sp vs H Q E →
      ∃ t, PSs (cxOf (L2.CX P w) P w K mg base N x (defScope st) f cdv A outer s H E) (defBody st) t ∧ t { nx := fun _ H' => Q .non H', rt := Q } (start N vs) H) → FnOk P w K mg base (L2.CX P w) (k + 1) f fd ps sp := fun sp len hbody => by
  obtain ⟨oc, od, kV, doc, pm, an, ct, osl, rfl, lk, hcd⟩ := F.ex
  exact fn_of lk hcd S len fun A outer s H vs Q E hr hsp => hbody _ rfl A outer s H vs Q E hr hsp
theorem FunC.kp' {f : Addr} {fd : FuncData} (F : FunC K x st f fd cd) : PySem.W.keepIn K (.ref f) = true := F.kp
theorem goodVC (A : FnAtC K mg x st ps cd) (S : FnScope N ps (defScope st)) (hb : HBC P w K mg base k x st N cd Wb)
    (hφ : ∀ ds Q R, φ ds Q R → ds.length = ps.length ∧ Wb (fun ex _ => R ex) ⟨fun _ => Q .non, fun _ => Q, fun _ => False, fun _ => False⟩ (slots0 N ps ds)) : Good P w K mg base (k + 1) x ps (spV K φ) := by
  obtain ⟨f, fd, F, hm, b⟩ := A.ex
  exact ⟨f, fd, hm, F.kp, b, fnVg (okC F S) S (fun cdv e A outer s H E hr => by subst e; exact hb f A outer s H E hr (takes_of rfl rfl rfl rfl) (passes_of rfl)) hφ⟩
theorem goodSC (A : FnAtC K mg x st ps cd) (S : FnScope N ps (defScope st)) (hb : HBC P w K mg base k x st N cd Wb)
    (hφ : ∀ ds Q R, φ ds Q R → ds.length + 1 = ps.length ∧ Wb (fun ex _ => R ex) ⟨fun _ => Q .non, fun _ => Q, fun _ => False, fun _ => False⟩ (slotsS N ps ds)) : Good P w K mg base (k + 1) x ps (spS K φ) := by
  obtain ⟨f, fd, F, hm, b⟩ := A.ex
  exact ⟨f, fd, hm, F.kp, b, fnSg (okC F S) S (fun cdv e A outer s H E hr => by subst e; exact hb f A outer s H E hr (takes_of rfl rfl rfl rfl) (passes_of rfl)) hφ⟩
theorem law_mkC {sc : Str} (A : FnAtC K mg "law" st [sc] cd) (S : FnScope N [sc] (defScope st))
    (hbind : ∀ (kV doc pm : Value) (an : Option Addr) (cdv ct : Value) (s : Shared) (u : Value), BindsTo s (PySem.W.fnOf "law" "law" (defArgs st) (defBody st) (defScope st) .none kV doc pm an cdv ct) ⟨[u], []⟩ [(sc, u)]) {B : Heap → Prop}
    (hb : ∀ base : Heap, B base → HBC P w K mg base k "law" st N cd Wb)
    (hφ : ∀ ds Q R, φLaw ds Q R → ds.length = [sc].length ∧ Wb (fun ex _ => R ex) ⟨fun _ => Q .non, fun _ => Q, fun _ => False, fun _ => False⟩ (slots0 N [sc] ds)) {fa : Addr} (hmg : mg "law" = some (.ref fa)) :
    ∃ fd : FuncData, (∀ (s : Shared) (u : Value), BindsTo s fd ⟨[u], []⟩ [(sc, u)]) ∧ ∀ base : Heap, K.In base → base.Ns mainGlobals mg → B base → FnOk P w K mg base (L2.CX P w) (k + 1) fa fd [sc] (spV K φLaw) := by
  obtain ⟨f, fd, F, hm, b⟩ := A.ex
  rw [hmg] at hm
  cases hm
  refine ⟨fd, ?_, fun base _ _ hB => fnVg (okC F S) S (fun cdv e A outer s H E hr => by subst e; exact hb base hB fa A outer s H E hr (takes_of rfl rfl rfl rfl) (passes_of rfl)) hφ⟩
  obtain ⟨oc, od, kV, doc, pm, an, ct, osl, rfl, lk, hcd⟩ := F.ex
  exact hbind kV doc pm an (.ref cd) ct
theorem law_mkB {sc : Str} (A : FnAt K mg "law" st [sc]) (S : FnScope N [sc] (defScope st))
    (hbind : ∀ (kV doc pm : Value) (an : Option Addr) (cdv ct : Value) (s : Shared) (u : Value), BindsTo s (PySem.W.fnOf "law" "law" (defArgs st) (defBody st) (defScope st) .none kV doc pm an cdv ct) ⟨[u], []⟩ [(sc, u)]) {B : Heap → Prop}
    (hb : ∀ base : Heap, B base → HB P w K mg base k "law" st N Wb)
    (hφ : ∀ ds Q R, φLaw ds Q R → ds.length = [sc].length ∧ Wb (fun ex _ => R ex) ⟨fun _ => Q .non, fun _ => Q, fun _ => False, fun _ => False⟩ (slots0 N [sc] ds)) {fa : Addr} (hmg : mg "law" = some (.ref fa)) :
    ∃ fd : FuncData, (∀ (s : Shared) (u : Value), BindsTo s fd ⟨[u], []⟩ [(sc, u)]) ∧ ∀ base : Heap, K.In base → base.Ns mainGlobals mg → B base → FnOk P w K mg base (L2.CX P w) (k + 1) fa fd [sc] (spV K φLaw) := by
  obtain ⟨f, fd, F, hm, b⟩ := A.ex
  rw [hmg] at hm
  cases hm
  refine ⟨fd, ?_, fun base _ _ hB => fnV F S ((hb base hB).use fa) hφ⟩
  obtain ⟨oc, od, kV, doc, pm, an, cdv, ct, osl, rfl, lk, hcd⟩ := F.ex
  exact hbind kV doc pm an cdv ct
end
end AV
namespace AV
open PySem PySem.Spec PyProof.Rows L2
theorem tabIn_mk {K : PySem.W.Frag} {x : Str} {f cd P : Addr} {oc oc2 : Value} {od od2 : Option Addr} {osl os2 : Array (Option Value)} {fd : FuncData} {vs : Array Value}
    (a : PySem.W.nsIn K mainGlobals x = some (some (.ref f))) (l : K.lookup f = some ⟨oc, od, .func fd, osl⟩) (e0 : fd.code = .ref cd)
    (l2 : K.lookup cd = some ⟨oc2, od2, .fields vs, os2⟩) (e : vs[11]? = some (.ref P)) : PySem.W.tabIn K x = some (cd, P) := by
  unfold PySem.W.tabIn
  rw [a]; dsimp only
  rw [l]; dsimp only
  rw [e0]; dsimp only
  rw [l2]; dsimp only
  rw [e]
theorem walk_ofL {l : PySem.W.OpenLaw} {n k : Nat} {q : Program} {loose : List Str} {XP : (Str → Option Value) → Heap → Prop} {YP : World → Heap → Prop} {d : DefRec} {K : Params → PySem.W.Frag} {CX : World → CXT} {x : Str}
    (hn : l.most = some n) (hn2 : n ≤ sizeLine) (hdf : d.params.defaults = []) (hr : Room k callerA) (hY : ∀ (w : World) (h : Heap), YP w h → (K w.params).In h)
    (F : ∀ (w : World) (mg : Str → Option Value) (fa : Addr) (h : Heap), (K w.params).In h → h.Ns mainGlobals mg → mg d.name = some (.ref fa) →
      (∀ (y : Str) (e : DefRec) (c P : Addr), (recsOf q).find? (fun z => z.name == y) = some e → PySem.W.tabIn (K w.params) y = some (c, P) → PySem.W.CodeHd h c P ∧ h.get? P = some { cls := .none, data := .fields #[] }) → LamX.LawAtS l w (K w.params) (CX w) k n x mg fa h)
    (hCX : ∀ (w : World) (H : Hp) (s : Shared) (e : Value) (s' : Shared), CX w [] H s (fun _ _ _ => False) e s' → False) :
    PySem.W.WalkO q loose XP YP l.row.toRowW d [] (fun f vs => PySem.call f vs) := by
  refine Att.attach_callB hn hdf ?_
  intro w s₀ s₁ mg mb fa o pm cd doc a vs ns G Y ho hd hcd hmg hobj hints hlen hbits hg
  have KX := hY w _ Y
  obtain ⟨fd, cs, sp, hT, nT, C, hb, hsp, hF⟩ := F w mg fa _ KX G.T.g hmg fun y e c P e1 e2 => PySem.W.tab_of G.T KX e1 e2
  exact LamX.law_callTs KX G.T.g G.T.b G.T.builtins G.T.nolimit hg hT nT C G.T.bmain hobj hints (by omega) hr hF hb (fun H hH hS => hsp H a ns hlen hbits hH hS) fun H e s' => hCX w H s₁ e s'
theorem tabs_nil {T : List (Addr × Str)} {H : Hp} (h : ∀ p ∈ T, H p.1 = some (.tbl #[])) : LamX.Tabs T H := fun p hp => LamX.TabS.nil (h p hp)
end AV

set_option maxRecDepth 100000
set_option maxHeartbeats 2000000
/-! dicts whose keys are nested tuples -/
namespace AV
open PySem PySem.Spec PyProof.Rows L2
variable [TabC]
theorem depth_nkD : ∀ n : Nat, (∀ d : D, okK n d = true → (nkD d).depth ≤ n) ∧ ∀ ds : List D, okKs n ds = true → NestedKey.depthAll (nkDs ds) ≤ n := by
  intro n
  induction n with
  | zero =>
    have h0 : ∀ d : D, okK 0 d = true → (nkD d).depth ≤ 0 := fun d h => by
      cases d <;> simp [okK] at h <;> simp [nkD, NestedKey.depth]
    refine ⟨h0, fun ds => ?_⟩
    induction ds with
    | nil => intro _; simp [nkDs, NestedKey.depthAll]
    | cons d ds ih =>
      intro h
      simp only [okKs, Bool.and_eq_true] at h
      have := h0 d h.1
      have := ih h.2
      simp only [nkDs, NestedKey.depthAll]
      omega
  | succ n ihn =>
    have h1 : ∀ d : D, okK (n + 1) d = true → (nkD d).depth ≤ n + 1 := fun d h => by
      cases d <;> simp [okK] at h <;> simp [nkD, NestedKey.depth]
      have := ihn.2 _ h
      omega
    refine ⟨h1, fun ds => ?_⟩
    induction ds with
    | nil => intro _; simp [nkDs, NestedKey.depthAll]
    | cons d ds ih =>
      intro h
      simp only [okKs, Bool.and_eq_true] at h
      have := h1 d h.1
      have := ih h.2
      simp only [nkDs, NestedKey.depthAll]
      omega
theorem nkDs_len : ∀ ks : List D, (nkDs ks).length = ks.length
  | [] => rfl
  | k :: ks => by simp [nkDs, nkDs_len ks]
theorem nkDs_append : ∀ ks js : List D, nkDs (ks ++ js) = nkDs ks ++ nkDs js
  | [], _ => rfl
  | k :: ks, js => by simp [nkDs, nkDs_append ks js]
theorem okKs_append {n : Nat} : ∀ ks js : List D, okKs n (ks ++ js) = (okKs n ks && okKs n js)
  | [], _ => by simp [okKs]
  | k :: ks, js => by simp [okKs, okKs_append ks js, Bool.and_assoc]
/-- what a dict has for a key -/
def dGet : List D → List D → D → Option D
  | k :: ks, d :: ds, q => if nkD k = nkD q then some d else dGet ks ds q
  | _, _, _ => none
section
variable {X : Cx} {pins : List (Addr × Obj)} {σ : L2.St} {H : Hp} {s : Shared} {G : GS}
theorem key_is (I : Inv X pins σ H s) : ∀ n : Nat, (∀ (d : D) (v : V) (u : Value), okK n d = true → Rep X.K G H d v → RelV v u → NestedIs s.heap (nkD d) u) ∧
    ∀ (ds : List D) (vs : List V) (us : List Value), okKs n ds = true → Reps X.K G H ds vs → Vals vs us → NestedAll s.heap (nkDs ds) us := by
  intro n
  induction n with
  | zero =>
    have h0 : ∀ (d : D) (v : V) (u : Value), okK 0 d = true → Rep X.K G H d v → RelV v u → NestedIs s.heap (nkD d) u := fun d v u h r rv => by
      cases d <;> simp [okK] at h <;> cases r
      · cases rv; exact .none
      · cases rv; exact .bool rfl
      · obtain ⟨t, rfl⟩ := rv; exact .int _ t
      · obtain ⟨t, rfl⟩ := rv; exact .text _ t
    refine ⟨h0, fun ds => ?_⟩
    induction ds with
    | nil => intro vs us _ r rv; cases r; cases rv; exact .nil
    | cons d ds ih =>
      intro vs us h r rv
      simp only [okKs, Bool.and_eq_true] at h
      obtain ⟨v, vr, rfl, r1, r2⟩ := r
      cases rv with
      | cons a b => exact .cons (h0 d v _ h.1 r1 a) (ih _ _ h.2 r2 b)
  | succ n ihn =>
    have h1 : ∀ (d : D) (v : V) (u : Value), okK (n + 1) d = true → Rep X.K G H d v → RelV v u → NestedIs s.heap (nkD d) u := fun d v u h r rv => by
      cases d <;> simp [okK] at h
      · cases r; cases rv; exact .none
      · cases r; cases rv; exact .bool rfl
      · cases r; obtain ⟨t, rfl⟩ := rv; exact .int _ t
      · cases r; obtain ⟨t, rfl⟩ := rv; exact .text _ t
      · obtain ⟨a, xs, rfl, q, rs⟩ := r
        obtain rfl : u = Value.ref a := rv
        obtain ⟨its, rvs, ⟨o, ho, hc, m, hd⟩, _⟩ := I.tuple q
        exact .tup ho hc hd (ihn.2 _ _ _ h rs (by simpa using rvs))
    refine ⟨h1, fun ds => ?_⟩
    induction ds with
    | nil => intro vs us _ r rv; cases r; cases rv; exact .nil
    | cons d ds ih =>
      intro vs us h r rv
      simp only [okKs, Bool.and_eq_true] at h
      obtain ⟨v, vr, rfl, r1, r2⟩ := r
      cases rv with
      | cons a b => exact .cons (h1 d v _ h.1 r1 a) (ih _ _ h.2 r2 b)
theorem key_ok (I : Inv X pins σ H s) {d : D} {a : Addr} (h : okK 8 d = true) (r : Rep X.K G H d (.ref a)) : (nestedKind X.prog X.w).is s.heap (nkD d) a :=
  ⟨(key_is I 8).1 d _ _ h r rfl, (depth_nkD 8).1 d h⟩
/-- the dict, as the library has it -/
theorem dic_at (hw : X.w = TabC.w) (I : Inv X pins σ H s) {a : Addr} {ks ds : List D} {xs vs : List V} (rk : Reps X.K G H ks xs) (rd : Reps X.K G H ds vs) (h : DicH H a ks ds xs vs) (ht : ks.all isTup = true) :
    (a == sysModules) = false ∧ ks.length = ds.length ∧ ks.length ≤ sizeLine ∧ okKs 8 ks = true ∧ (nkDs ks).Nodup ∧ ∃ (as : List Addr) (us : List Value), xs = as.map .ref ∧ Vals vs us ∧ s.heap.DictOfH (nestedKind X.prog X.w) a ((nkDs ks).zip (as.zip us)) := by
  obtain ⟨l1, l2, h⟩ := h
  rcases h with ⟨is, rfl, _, e3⟩ | ⟨as, rfl, e2, e3, e4, e5, e6⟩
  · cases is with
    | cons i is => simp [isTup] at ht
    | nil =>
      simp at l1
      have : ds = [] := by cases ds with
        | nil => rfl
        | cons _ _ => simp at l1
      subst this
      cases rk; cases rd
      obtain ⟨_, hd, us, rel, o, es, ep, ho, hex, hdd, _, hp, _⟩ := dk_of I.hok e3
      refine ⟨hd, rfl, by simp, rfl, by simp [nkDs], [], [], rfl, .nil, o, es, ep, ho, hex, hdd, ?_, by simp [nkDs], by simp [nkDs]⟩
      cases rel
      cases hes : es.toList with
      | nil => simp [nkDs]
      | cons e r => rw [hes] at hp; cases hp
  · obtain ⟨⟨us, o, es, ep, rv, ho, hex, hdd, hes⟩, _⟩ := I.hok a _ e6
    refine ⟨e5, l1, l2, e3, e4, as, us, rfl, rv, o, es, ep, ho, hex, hdd, ?_, ?_, ?_⟩
    · rw [hes]
      refine List.map_congr_left fun x hx => ?_
      unfold entryOfKey
      rw [hw]; rfl
    · have key : ∀ (ks : List D) (as : List Addr) (us : List Value), okKs 8 ks = true → Reps X.K G H ks (as.map .ref) → ∀ x ∈ (nkDs ks).zip (as.zip us), (nestedKind X.prog X.w).is s.heap x.1 x.2.1 := by
        intro ks
        induction ks with
        | nil => intro as us _ _ x hx; simp [nkDs] at hx
        | cons k ks ih =>
          intro as us h1 h2 x hx
          simp only [okKs, Bool.and_eq_true] at h1
          obtain ⟨v, vr, e, r1, r2⟩ := h2
          cases as with
          | nil => cases e
          | cons b as =>
            cases us with
            | nil => simp at hx
            | cons u us =>
              simp only [List.map_cons, List.cons.injEq] at e
              obtain ⟨rfl, rfl⟩ := e
              simp only [nkDs, List.zip_cons_cons, List.mem_cons] at hx
              rcases hx with rfl | hx
              · exact key_ok I h1.1 r1
              · exact ih as us h1.2 r2 x hx
      exact key ks as us e3 rk
    · have hl := nkDs_len ks
      have la : as.length = ks.length := by have := rk.length; simpa using this
      have lu : us.length = ds.length := by rw [← rd.length, rv.length]
      have : ((nkDs ks).zip (as.zip us)).map (·.1) = nkDs ks := by
        rw [List.map_fst_zip]
        rw [List.length_zip]; omega
      rw [this]; exact e4
theorem at_dGet {K : PySem.W.Frag} {q : D} : ∀ {ks ds : List D} {as : List Addr} {vs : List V} {us : List Value}, ks.length = as.length → ks.length = ds.length → Reps K G H ds vs → Vals vs us →
    match dGet ks ds q with
    | none => atKey ((nkDs ks).zip (as.zip us)) (nkD q) = none
    | some d => ∃ p v, atKey ((nkDs ks).zip (as.zip us)) (nkD q) = some p ∧ Rep K G H d v ∧ RelV v p.2
  | [], _, _, _, _, _, _, _, _ => by simp [dGet, nkDs, atKey]
  | k :: ks, [], _, _, _, _, h, _, _ => by simp at h
  | k :: ks, d :: ds, [], _, _, h, _, _, _ => by simp at h
  | k :: ks, d :: ds, a :: as, vs, us, h1, h2, rd, rv => by
    obtain ⟨v, vr, rfl, r1, r2⟩ := rd
    cases rv with
    | @cons _ u _ ur rv1 rv2 =>
      have ih := at_dGet (q := q) (ks := ks) (ds := ds) (as := as) (vs := vr) (us := ur) (by simpa using h1) (by simpa using h2) r2 rv2
      unfold dGet
      by_cases e : nkD k = nkD q
      · rw [if_pos e]
        exact ⟨(a, u), v, by simp [nkDs, atKey, e], r1, rv1⟩
      · rw [if_neg e]
        have e2 : atKey ((nkDs (k :: ks)).zip ((a :: as).zip (u :: ur))) (nkD q) = atKey ((nkDs ks).zip (as.zip ur)) (nkD q) := by
          simp [nkDs, atKey, e]
        rw [e2]; exact ih
end
/-! ### an expression that is a dict -/
def DicR (K : PySem.W.Frag) (G : GS) (ρ : Rho) (σ : L2.St) (H : Hp) (ks ds : List D) (v : V) : Prop := Rep K G H (.dic ks ds) v ∨ ∃ i, gt ρ i = .dow ks ds ∧ sv σ i = some v
theorem DicR.step {K : PySem.W.Frag} {fr : Fr} {G G' : GS} {ρ : Rho} {σ : L2.St} {H H' : Hp} (s : Step K fr G ρ σ H G' H') {ks ds : List D} {v : V} (h : DicR K G ρ σ H ks ds v) : DicR K G' ρ σ H' ks ds v := h.imp (fun r => s.rep r) id
theorem DicR.get {K : PySem.W.Frag} {fr : Fr} {G : GS} {ρ : Rho} {σ : L2.St} {H : Hp} (r : Rel K fr G ρ σ H) {ks ds : List D} {v : V} (h : DicR K G ρ σ H ks ds v) : ∃ a xs vs, v = .ref a ∧ Reps K G H ks xs ∧ Reps K G H ds vs ∧ DicH H a ks ds xs vs := by
  rcases h with ⟨a, xs, vs, e, _, r1, r2, q⟩ | ⟨i, e, ev⟩
  · exact ⟨a, xs, vs, e, r1, r2, q⟩
  · have sl := r.slot i
    rw [e] at sl
    obtain ⟨a, xs, vs, e1, r1, r2, q, _⟩ := sl
    rw [ev] at e1
    exact ⟨a, xs, vs, Option.some.inj e1, r1, r2, q⟩
structure DD (X : Cx) (Wx : WX) (e : Expr) (W : WE) : Prop where
  ex : ∃ t, PE X e t ∧ ∀ fr G ρ σ H R Qa Q, Rel X.K fr G ρ σ H → RaiseE X.K Wx fr ρ σ R → W R ρ Qa → (∀ v ks ds G' H', Step X.K fr G ρ σ H G' H' → DicR X.K G' ρ σ H' ks ds v → Qa (.dic ks ds) → Q v H') → t σ H Q
class Kdd where
  r : List D → List D → Prop
def dicK (d : D) [K : Kdd] : Prop := match d with | .dic ks ds => K.r ks ds | _ => False
@[simp ↓] theorem dicK_ {ks ds : List D} {Q : List D → List D → Prop} : @dicK (.dic ks ds) ⟨Q⟩ = Q ks ds := (rfl)
def dowS (s : Slot) [K : Kdd] : Prop := match s with | .dow ks ds => K.r ks ds | _ => False
@[simp ↓] theorem dowS_ {ks ds : List D} {Q : List D → List D → Prop} : @dowS (.dow ks ds) ⟨Q⟩ = Q ks ds := (rfl)
@[simp] theorem isMut_dow {ks ds : List D} : isMut (.dow ks ds) = True := (rfl)
@[simp] theorem valsR_dow {ks ds : List D} {r : Rho} : valsR (.dow ks ds :: r) = .un :: valsR r := (rfl)
def wDow (i : Nat) : WE := fun _ ρ Q => @dowS (gt ρ i) ⟨fun ks ds => Q (.dic ks ds)⟩
@[simp ↓] theorem wDow_ {i : Nat} {R : EX → Prop} {ρ : Rho} {Q : D → Prop} : wDow i R ρ Q = @dowS (gt ρ i) ⟨fun ks ds => Q (.dic ks ds)⟩ := (rfl)
def wDv (W : WE) : WE := fun R ρ Q => W R ρ fun d => @dicK d ⟨fun ks ds => Q (.dic ks ds)⟩
@[simp ↓] theorem wDv_ {W : WE} {R : EX → Prop} {ρ : Rho} {Q : D → Prop} : wDv W R ρ Q = W R ρ fun d => @dicK d ⟨fun ks ds => Q (.dic ks ds)⟩ := (rfl)
section
variable {X : Cx} {Wx : WX} {a b e o : Expr} {Wa Wb We : WE} {pos : Pos}
theorem dd_own (i : Nat) {x : Str} (hN : X.N[i]? = some x := by rfl) (hv : Vis X.env.scope x := by first | exact Or.inl rfl | exact Or.inr (Or.inl rfl) | exact Or.inr (Or.inr rfl)) (hd : (x == ("__debug__" : Str)) = false := by decide)
    (hcd : (x == ("__classdict__" : Str)) = false := by decide) : DD X Wx (.Name x pos) (wDow i) := ⟨⟨_, pe_var hN hv hd hcd, fun fr G ρ σ H R Qa Q r hr w k => by
  have s := r.slot i
  unfold wDow at w
  cases e : gt ρ i with
  | dow ks ds =>
    rw [e] at w s
    obtain ⟨a, xs, vs, e1, _⟩ := s
    exact ⟨_, sv_some.mp e1, k _ ks ds G H (.refl r) (.inr ⟨i, e, e1⟩) w⟩
  | _ => rw [e] at w; exact w.elim⟩⟩
theorem dd_val (h : DE X Wx e We) : DD X Wx e (wDv We) := by
  obtain ⟨t, p, q⟩ := h.ex
  refine ⟨⟨t, p, fun fr G ρ σ H R Qa Q r hr w k => q fr G ρ σ H R _ _ r hr w fun v d G' H' s rv w1 => ?_⟩⟩
  cases d with
  | dic ks ds => exact k v ks ds G' H' s (.inl rv) w1
  | _ => exact w1.elim
/-- a key at hand, a dict at hand -/
def AtD (K : PySem.W.Frag) (G : GS) (H : Hp) (x y : V) (q : D) (ks ds : List D) : Prop := ∃ (b a : Addr) (xs vs : List V), x = .ref b ∧ y = .ref a ∧ okK 8 q = true ∧ ks.all isTup = true ∧ Rep K G H q (.ref b) ∧ Reps K G H ks xs ∧ Reps K G H ds vs ∧ DicH H a ks ds xs vs
theorem atD_of {K : PySem.W.Frag} {fr : Fr} {G : GS} {ρ : Rho} {σ : L2.St} {H : Hp} (r : Rel K fr G ρ σ H) {q : D} {ks ds : List D} {x y : V} (hx : Rep K G H q x) (hy : DicR K G ρ σ H ks ds y) (h1 : isTup q = true) (h2 : okK 8 q = true) (h3 : ks.all isTup = true) : AtD K G H x y q ks ds := by
  obtain ⟨a, xs, vs, rfl, r1, r2, h⟩ := hy.get r
  cases q <;> simp [isTup] at h1
  obtain ⟨b, zs, rfl, q, rs⟩ := hx
  exact ⟨b, a, xs, vs, rfl, rfl, h2, h3, ⟨b, zs, rfl, q, rs⟩, r1, r2, h⟩
def oInD (neg : Bool) (q : D) (ks ds : List D) (Q : D → Prop) : Prop := isTup q = true ∧ okK 8 q = true ∧ ks.all isTup = true ∧ Q (.bl (if neg then !(dGet ks ds q).isSome else (dGet ks ds q).isSome))
def wInD (neg : Bool) (Wa Wb : WE) : WE := fun R ρ Q => Wa R ρ fun q => Wb R ρ fun d => @dicK d ⟨fun ks ds => oInD neg q ks ds Q⟩
@[simp ↓] theorem wInD_ {neg : Bool} {R : EX → Prop} {ρ : Rho} {Q : D → Prop} : wInD neg Wa Wb R ρ Q = Wa R ρ fun q => Wb R ρ fun d => @dicK d ⟨fun ks ds => isTup q = true ∧ okK 8 q = true ∧ ks.all isTup = true ∧ Q (.bl (if neg then !(dGet ks ds q).isSome else (dGet ks ds q).isSome))⟩ := (rfl)
def tInD (K : PySem.W.Frag) (neg : Bool) (ta tb : TE) : TE := fun σ H Q => ta σ H fun x H1 => tb σ H1 fun y H2 => ∃ G q ks ds, AtD K G H2 x y q ks ds ∧ Q (.bl (if neg then !(dGet ks ds q).isSome else (dGet ks ds q).isSome)) H2
theorem atD_some {pins : List (Addr × Obj)} {σ : L2.St} {H : Hp} {s : Shared} (hw : X.w = TabC.w) (I : Inv X pins σ H s) {G : GS} {x y : V} {q : D} {ks ds : List D} (h : AtD X.K G H x y q ks ds) :
    ∃ (b a : Addr) (zs : List (NestedKey × Addr × Value)), x = .ref b ∧ y = .ref a ∧ (nestedKind X.prog X.w).is s.heap (nkD q) b ∧ (a == sysModules) = false ∧ s.heap.DictOfH (nestedKind X.prog X.w) a zs ∧ zs.length ≤ sizeLine ∧
      match dGet ks ds q with
      | none => atKey zs (nkD q) = none
      | some d => ∃ p v, atKey zs (nkD q) = some p ∧ Rep X.K G H d v ∧ RelV v p.2 := by
  obtain ⟨b, a, xs, vs, rfl, rfl, h1, h2, r0, r1, r2, h⟩ := h
  obtain ⟨hd, l1, l2, _, _, as, us, rfl, rv, hm⟩ := dic_at hw I r1 r2 h h2
  have la : ks.length = as.length := by have := r1.length; simpa using this.symm
  refine ⟨b, a, _, rfl, rfl, key_ok I h1 r0, hd, hm, ?_, ?_⟩
  · rw [List.length_zip, nkDs_len]; omega
  · have := at_dGet (q := q) la l1 r2 rv
    cases e : dGet ks ds q with
    | none => rw [e] at this; exact this
    | some d =>
      rw [e] at this
      exact this
theorem room8 {A : Around} (hu : A.units + 64 < cLine) : A.in1.units + 8 < cLine := by show A.units + 1 + 8 < cLine; omega
theorem pc_inD (hw : X.w = TabC.w) (hu : X.A.units + 64 < cLine) {ta tb : TE} (pa : PE X a ta) (pb : PE X b tb) : PC X .In a b (tInD X.K false ta tb) ∧ PC X .NotIn a b (tInD X.K true ta tb) := by
  constructor
  · constructor
    intro pins s σ H Q I h
    apply thn (pa.run pins s σ H _ I h)
    rintro u s1 ⟨x, H1, I1, rx, h1⟩
    apply thn (pb.run pins s1 σ H1 _ I1 h1)
    rintro u2 s2 ⟨y, H2, I2, ry, G, q, ks, ds, hat, hQ⟩
    obtain ⟨k, d, zs, rfl, rfl, ik, hd, hm, _, hg⟩ := atD_some hw I2 hat
    cases rx; cases ry
    apply wpAny_in_heap (room8 hu) ik hd hm
    refine ⟨_, H2, I2.tok _, ?_, hQ⟩
    cases e : dGet ks ds q with
    | none => rw [e] at hg; rw [hg]; rfl
    | some d => rw [e] at hg; obtain ⟨p, _, hp, _⟩ := hg; rw [hp]; rfl
  · constructor
    intro pins s σ H Q I h
    apply thn (pa.run pins s σ H _ I h)
    rintro u s1 ⟨x, H1, I1, rx, h1⟩
    apply thn (pb.run pins s1 σ H1 _ I1 h1)
    rintro u2 s2 ⟨y, H2, I2, ry, G, q, ks, ds, hat, hQ⟩
    obtain ⟨k, d, zs, rfl, rfl, ik, hd, hm, _, hg⟩ := atD_some hw I2 hat
    cases rx; cases ry
    apply wpAny_notIn_heap (room8 hu) ik hd hm
    refine ⟨_, H2, I2.tok _, ?_, hQ⟩
    cases e : dGet ks ds q with
    | none => rw [e] at hg; rw [hg]; rfl
    | some d => rw [e] at hg; obtain ⟨p, _, hp, _⟩ := hg; rw [hp]; rfl
theorem inD_go {neg : Bool} {ta tb : TE} (qa : ∀ fr G ρ σ H R Qa Q, Rel X.K fr G ρ σ H → RaiseE X.K Wx fr ρ σ R → Wa R ρ Qa → (∀ v d G' H', Step X.K fr G ρ σ H G' H' → Rep X.K G' H' d v → Qa d → Q v H') → ta σ H Q)
    (qb : ∀ fr G ρ σ H R Qa Q, Rel X.K fr G ρ σ H → RaiseE X.K Wx fr ρ σ R → Wb R ρ Qa → (∀ v ks ds G' H', Step X.K fr G ρ σ H G' H' → DicR X.K G' ρ σ H' ks ds v → Qa (.dic ks ds) → Q v H') → tb σ H Q) :
    ∀ fr G ρ σ H R Qa Q, Rel X.K fr G ρ σ H → RaiseE X.K Wx fr ρ σ R → wInD neg Wa Wb R ρ Qa → (∀ (k : Bool) G' H', Step X.K fr G ρ σ H G' H' → Qa (.bl k) → Q (.bl k) H') → tInD X.K neg ta tb σ H Q := fun fr G ρ σ H R Qa Q rl hr w k => by
  refine qa fr G ρ σ H R _ _ rl hr w fun v d G1 H1 s1 r1 w1 => ?_
  refine qb fr G1 ρ σ H1 R _ _ s1.rel hr w1 fun v2 ks ds G2 H2 s2 r2 w2 => ?_
  obtain ⟨t1, t2, t3, w2⟩ := w2
  exact ⟨G2, d, ks, ds, atD_of s2.rel (s2.rep r1) r2 t1 t2 t3, k _ G2 H2 (s1.trans s2) w2⟩
theorem de_inD (neg : Bool) (op : CmpOp) (ho : (neg = false ∧ op = .In) ∨ (neg = true ∧ op = .NotIn)) (hw : X.w = TabC.w) (hu : X.A.units + 64 < cLine) (ha : DE X Wx a Wa) (hb : DD X Wx b Wb) (hm : behindInMarks op b = false := by first | exact nomark _ | rfl) : DE X Wx (.Compare a [op] [b] pos) (wInD neg Wa Wb) := by
  obtain ⟨ta, pa, qa⟩ := ha.ex
  obtain ⟨tb, pb, qb⟩ := hb.ex
  have pc := pc_inD hw hu pa pb
  refine ⟨⟨tInD X.K neg ta tb, ?_, fun fr G ρ σ H R Qa Q rl hr w k => inD_go qa qb fr G ρ σ H R Qa Q rl hr w fun z G' H' s qz => k _ (.bl z) G' H' s rfl qz⟩⟩
  rcases ho with ⟨rfl, rfl⟩ | ⟨rfl, rfl⟩
  · exact pe_cmp pc.1 hm
  · exact pe_cmp pc.2 hm
theorem dt_inD (neg : Bool) (op : CmpOp) (ho : (neg = false ∧ op = .In) ∨ (neg = true ∧ op = .NotIn)) (hw : X.w = TabC.w) (hu : X.A.units + 64 < cLine) (ha : DE X Wx a Wa) (hb : DD X Wx b Wb) (hm : behindInMarks op b = false := by first | exact nomark _ | rfl) : DT X Wx (.Compare a [op] [b] pos) (wTest (wInD neg Wa Wb)) := by
  obtain ⟨ta, pa, qa⟩ := ha.ex
  obtain ⟨tb, pb, qb⟩ := hb.ex
  have pc := pc_inD hw hu pa pb
  have key : ∀ fr G ρ σ H R Qa (Q : Bool → Hp → Prop), Rel X.K fr G ρ σ H → RaiseE X.K Wx fr ρ σ R → wTest (wInD neg Wa Wb) R ρ Qa → (∀ k G' H', Step X.K fr G ρ σ H G' H' → Qa k → Q k H') → tB (tInD X.K neg ta tb) σ H Q := fun fr G ρ σ H R Qa Q rl hr w k =>
    inD_go qa qb fr G ρ σ H R _ _ rl hr w fun z G' H' s qz => ⟨z, rfl, k z G' H' s qz⟩
  rcases ho with ⟨rfl, rfl⟩ | ⟨rfl, rfl⟩
  · exact ⟨⟨_, pt_cmp pc.1 hm, key⟩⟩
  · exact ⟨⟨_, pt_cmp pc.2 hm, key⟩⟩
/-! d.get(k), d[k] -/
def oGetD (q : D) (ks ds : List D) (Q : D → Prop) : Prop := isTup q = true ∧ okK 8 q = true ∧ ks.all isTup = true ∧ Q ((dGet ks ds q).getD .non)
def wGetD (Wa Wb : WE) : WE := fun R ρ Q => Wa R ρ fun d => @dicK d ⟨fun ks ds => ks.all isTup = true ∧ Wb R ρ fun q => oGetD q ks ds Q⟩
@[simp ↓] theorem wGetD_ {R : EX → Prop} {ρ : Rho} {Q : D → Prop} : wGetD Wa Wb R ρ Q = Wa R ρ fun d => @dicK d ⟨fun ks ds => ks.all isTup = true ∧ Wb R ρ fun q => isTup q = true ∧ okK 8 q = true ∧ ks.all isTup = true ∧ Q ((dGet ks ds q).getD .non)⟩ := (rfl)
def wIxD (Wa Wb : WE) : WE := fun R ρ Q => Wa R ρ fun d => @dicK d ⟨fun ks ds => Wb R ρ fun q => isTup q = true ∧ okK 8 q = true ∧ ks.all isTup = true ∧ @optK _ (dGet ks ds q) ⟨Q⟩⟩
@[simp ↓] theorem wIxD_ {R : EX → Prop} {ρ : Rho} {Q : D → Prop} : wIxD Wa Wb R ρ Q = Wa R ρ fun d => @dicK d ⟨fun ks ds => Wb R ρ fun q => isTup q = true ∧ okK 8 q = true ∧ ks.all isTup = true ∧ @optK _ (dGet ks ds q) ⟨Q⟩⟩ := (rfl)
def IsDic (K : PySem.W.Frag) (H : Hp) (y : V) : Prop := ∃ (a : Addr) (ks ds : List D) (xs vs : List V) (G : GS), y = .ref a ∧ Reps K G H ks xs ∧ Reps K G H ds vs ∧ DicH H a ks ds xs vs ∧ ks.all isTup = true
def tGetD (K : PySem.W.Frag) (tb ta : TE) : TE := fun σ H Q => tb σ H fun y H1 => IsDic K H1 y ∧ ta σ H1 fun x H2 => ∃ G q ks ds, AtD K G H2 x y q ks ds ∧ ∀ v, Rep K G H2 ((dGet ks ds q).getD .non) v → Q v H2
theorem isDic_at {pins : List (Addr × Obj)} {σ : L2.St} {H : Hp} {s : Shared} (hw : X.w = TabC.w) (I : Inv X pins σ H s) {y : V} (h : IsDic X.K H y) : ∃ a, y = .ref a ∧ s.TypeIs (.ref a) "dict" ∧ ∀ b, Value.ref a = .ref b → ∃ ob, s.heap.get? b = some ob ∧ ob.dict = none := by
  obtain ⟨a, ks, ds, xs, vs, G, rfl, r1, r2, h, h2⟩ := h
  obtain ⟨_, _, _, _, _, as, us, _, _, hm⟩ := dic_at hw I r1 r2 h h2
  refine ⟨a, rfl, hm.typeIs, fun b e => ?_⟩
  cases e
  obtain ⟨ob, _, _, h1, h2, _⟩ := hm
  exact ⟨ob, h1, h2.2.1⟩
theorem pe_getD (hw : X.w = TabC.w) (hu : X.A.units + 64 < cLine) {ta tb : TE} {apos cpos : Pos} (pb : PE X o tb) (pa : PE X e ta) (m : M1 X o "get" apos e cpos) : PE X (.Call (.Attribute o "get" apos) [e] [] cpos) (tGetD X.K tb ta) := by
  constructor
  intro pins s σ H Q I h
  apply wpAny_Call_method m.base m.few m.line PySem.F.plainAttrs_dict PySem.F.slot_dict_get PySem.F.type_dict_get
  apply thn (pb.run pins s σ H _ I h)
  rintro u s1 ⟨y, H1, I1, ry, hd, h1⟩
  obtain ⟨a, rfl, t1, t2⟩ := isDic_at hw I1 hd
  cases ry
  refine ⟨t1, t2, ?_⟩
  rw [m.trees]
  apply Calls.callWith_builtin rfl
  apply Calls.evalArgs_plain
  apply Calls.spliced_cons
  apply thn (pa.run pins s1 σ H1 _ I1 h1)
  rintro u2 s2 ⟨x, H2, I2, rx, G, q, ks, ds, hat, hQ⟩
  apply Calls.spliced_nil
  obtain ⟨k, a2, zs, rfl, e2, ik, hsys, hm, _, hg⟩ := atD_some hw I2 hat
  cases e2; cases rx
  refine call_meetsIn PySem.F.slot_dict_get hm.typeIs PySem.F.entry_dict_get (PySem.F.args_dict_get_2 _ _) (meetsH_dict_get (nestedKind X.prog X.w) a k hsys) ⟨room8 hu, nkD q, zs, ik, hm, ?_⟩
  cases e : dGet ks ds q with
  | none =>
    rw [e] at hg hQ
    rw [hg]
    exact ⟨.non, H2, I2.tok _, rfl, hQ .non rfl⟩
  | some d =>
    rw [e] at hg hQ
    obtain ⟨p, v, hp, rv, rp⟩ := hg
    rw [hp]
    exact ⟨v, H2, I2.tok _, rp, hQ v rv⟩
theorem DicR.isDic {K : PySem.W.Frag} {fr : Fr} {G : GS} {ρ : Rho} {σ : L2.St} {H : Hp} (r : Rel K fr G ρ σ H) {ks ds : List D} {v : V} (h : DicR K G ρ σ H ks ds v) (ht : ks.all isTup = true) : IsDic K H v := by
  obtain ⟨a, xs, vs, e, r1, r2, q⟩ := h.get r
  exact ⟨a, ks, ds, xs, vs, G, e, r1, r2, q, ht⟩
theorem de_getD (hw : X.w = TabC.w) (hu : X.A.units + 64 < cLine) {apos cpos : Pos} (hb : DD X Wx o Wb) (ha : DE X Wx e Wa) (m : M1 X o "get" apos e cpos := by exact ⟨rfl, rfl, rfl, rfl⟩) : DE X Wx (.Call (.Attribute o "get" apos) [e] [] cpos) (wGetD Wb Wa) := by
  obtain ⟨ta, pa, qa⟩ := ha.ex
  obtain ⟨tb, pb, qb⟩ := hb.ex
  refine ⟨⟨_, pe_getD hw hu pb pa m, fun fr G ρ σ H R Qa Q rl hr w k => ?_⟩⟩
  refine qb fr G ρ σ H R _ _ rl hr w fun v ks ds G1 H1 s1 r1 w1 => ?_
  · obtain ⟨ht, w1⟩ := w1
    refine ⟨r1.isDic s1.rel ht, ?_⟩
    refine qa fr G1 ρ σ H1 R _ _ s1.rel hr w1 fun v2 q G2 H2 s2 r2 w2 => ?_
    obtain ⟨t1, t2, t3, w2⟩ := w2
    exact ⟨G2, q, ks, ds, atD_of s2.rel r2 (r1.step s2) t1 t2 t3, fun v3 r3 => k v3 _ G2 H2 (s1.trans s2) r3 w2⟩
/-! d[k] = v, a new key -/
theorem dicO_ok {P : Program} {w : World} {H : Hp} {h : Heap} {a : Addr} {ks : List NestedKey} {as : List Addr} {vs : List V} {us : List Value} (hw : w = TabC.w) (rv : Vals vs us) (hm : h.DictOfH (nestedKind P w) a (ks.zip (as.zip us))) : ObjOk P w H h a (DicO a ks as vs) := by
  obtain ⟨o, es, ep, h1, h2, h3, h4, _⟩ := hm
  refine ⟨⟨us, o, es, ep, rv, h1, h2, h3, ?_⟩, ⟨o, h1⟩, fun g1 g2 ⟨us, o, es, ep, rv, e1, e2, e3, e4⟩ k => ⟨us, o, es, ep, rv, k _ e1, e2, e3, e4⟩⟩
  rw [h4]
  refine List.map_congr_left fun x hx => ?_
  unfold entryOfKey
  rw [← hw]; rfl
def tPutD (K : PySem.W.Frag) (tv td tk : TE) : TS := fun F σ H => tv σ H fun y H1 => td σ H1 fun x H2 => tk σ H2 fun z H3 => ∃ (G : GS) (q : D) (ks ds : List D) (b a : Addr) (as : List Addr) (vs : List V), z = .ref b ∧ x = .ref a ∧ okK 8 q = true ∧ ks.all isTup = true ∧ Rep K G H3 q (.ref b) ∧ Reps K G H3 ks (as.map .ref) ∧ Reps K G H3 ds vs ∧
  DicH H3 a ks ds (as.map .ref) vs ∧ dGet ks ds q = none ∧ ks.length < sizeLine ∧ Mut (H3 a) ∧ ((a == sysModules) = false → F.nx σ (upd H3 a (DicO a (nkDs (ks ++ [q])) (as ++ [b]) (vs ++ [y]))))
theorem zip_snoc {α β : Type} : ∀ {xs : List α} {ys : List β} {x : α} {y : β}, xs.length = ys.length → (xs ++ [x]).zip (ys ++ [y]) = xs.zip ys ++ [(x, y)]
  | [], [], x, y, _ => rfl
  | a :: xs, b :: ys, x, y, h => by simp [zip_snoc (xs := xs) (ys := ys) (x := x) (y := y) (by simpa using h)]
theorem vals_snoc : ∀ {vs : List V} {us : List Value} {v : V} {u : Value}, Vals vs us → RelV v u → Vals (vs ++ [v]) (us ++ [u])
  | _, _, _, _, .nil, r => .cons r .nil
  | _, _, _, _, .cons a b, r => .cons a (vals_snoc b r)
theorem ps_putD {value k : Expr} {pos' : Pos} {tv td tk : TE} (hw : X.w = TabC.w) (hu : X.A.units + 64 < cLine) (pv : PE X value tv) (pd : PE X o td) (pk : PE X k tk) (hs : swapsWith value (some (.Subscript o k pos')) pos.line X.env = pure false) :
    PS X (.Assign [.Subscript o k pos'] value pos) (tPutD X.K tv td tk) := by
  constructor
  intro pins s σ H D I h
  refine wpAny_Assign_Subscript ?_ hs
  apply thn (pv.run pins s σ H _ I h)
  rintro r s1 ⟨y, H1, I1, ry, h1⟩
  apply thn (pd.run pins s1 σ H1 _ I1 h1)
  rintro u s2 ⟨x, H2, I2, rx, h2⟩
  apply thn (pk.run pins s2 σ H2 _ I2 h2)
  rintro u3 s3 ⟨z, H3, I3, rz, G, q, ks, ds, b, a, as, vs, rfl, rfl, okq, ht, rq, rk, rd, hd, hn, hl, mu, hQ⟩
  cases rx; cases rz
  obtain ⟨hsys, l1, l2, okk, nd, as2, us, e2, rv, hm⟩ := dic_at hw I3 rk rd hd ht
  have e2 : as = as2 := by
    exact (List.map_inj_right (fun a b h => by injection h)).mp e2
  subst e2
  have la : ks.length = as.length := by have := rk.length; simpa using this.symm
  have lu : us.length = ds.length := by rw [← rd.length, rv.length]
  have hg := at_dGet (q := q) la l1 rd rv
  rw [hn] at hg
  have ik := key_ok I3 okq rq
  refine wpAny_setItem_heap (hsz := by rw [List.length_zip, nkDs_len]; omega) (room8 hu) ik hm fun h' hm' hsame => ?_
  rw [storedH_new hg] at hm'
  have ez : (nkDs ks).zip (as.zip us) ++ [(nkD q, b, r)] = (nkDs (ks ++ [q])).zip ((as ++ [b]).zip (us ++ [r])) := by
    rw [nkDs_append, zip_snoc (xs := as) (ys := us) (by omega)]
    have : nkDs [q] = [nkD q] := rfl
    rw [this, zip_snoc (by rw [nkDs_len, List.length_zip]; omega)]
  rw [ez] at hm'
  have he : ∃ u, h'.get? a = some u := by obtain ⟨o, _, _, h1, _⟩ := hm'; exact ⟨o, h1⟩
  refine ⟨σ, _, I3.write (x := a) (e := a) mu (.inl rfl) (fun c u hc z => (hsame.2 c hc).trans z) he (dicO_ok hw (vals_snoc rv ry) hm'), hQ hsys⟩
end
section
variable {K : PySem.W.Frag} {fr : Fr} {G : GS} {ρ : Rho} {σ : L2.St} {H : Hp}
theorem dic_code {a : Addr} {q : Str} {vs0 : List V} {f : List Value → List DictEntry} (h : (fun h : Heap => ∃ (us : List Value) (o : Obj) (es : Array DictEntry) (ep : Nat), Vals vs0 us ∧ h.get? a = some o ∧ o.ExactDict ∧ o.data = .dict es ep ∧ es.toList = f us) = fun h => ∃ (oc : Obj) (vs : Array Value) (t : Tok), h.get? a = some oc ∧ oc.data = .fields vs ∧ vs[1]? = some (.str q t)) : False := by
  let co : Obj := { cls := .none, data := .fields #[.none, .str q default] }
  let h0 : Heap := { objs := Array.replicate a co }
  have hs : h0.objs.size = a := by simp [h0]
  have hg : (h0.push co).get? a = some co := by rw [← hs]; exact Heap.get?_push_size _ rfl
  have hp := congrFun h (h0.push co)
  obtain ⟨us, o, es, ep, _, e1, _, e2, _⟩ := hp.mpr ⟨co, _, _, hg, rfl, rfl⟩
  rw [hg] at e1
  cases e1
  cases e2
/-- the dict of slot i is changed -/
theorem Rel.updD {i : Nat} {ks ds ks' ds' : List D} {a : Addr} {xs vs : List V} {o : HO} (r : Rel K fr G ρ σ H) (hi : gt ρ i = .dow ks ds) (ha : sv σ i = some (.ref a)) (hk : Stab G H (L2.upd H a o) → Reps K G (L2.upd H a o) ks' xs) (hv : Stab G H (L2.upd H a o) → Reps K G (L2.upd H a o) ds' vs) (hd : DicH (L2.upd H a o) a ks' ds' xs vs) : Rel K fr G (ρ.set i (.dow ks' ds')) σ (L2.upd H a o) ∧ Stab G H (L2.upd H a o) := by
  have s := r.slot i
  rw [hi] at s
  obtain ⟨a', xs', vs', e1, rs, rv, e2, ng, h0⟩ := s
  rw [ha] at e1
  cases e1
  obtain ⟨u, hu, n1, n2, n3⟩ := e2.there
  have n4 : ∀ q, u ≠ LamX.CodeO a q := fun q z => by
    obtain ⟨_, _, hx⟩ := e2
    rcases hx with ⟨is, _, _, e⟩ | ⟨as, _, _, _, _, _, e⟩
    · rw [hu] at e; have := (Option.some.inj e).symm.trans z; cases this
    · rw [hu] at e
      have e5 := (Option.some.inj e).symm.trans z
      unfold DicO LamX.CodeO at e5
      injection e5 with e5
      exact dic_code e5
  have mi : isMut (gt ρ i) := by rw [hi]; trivial
  have hlt : i < ρ.length := gt_lt (by rw [hi]; intro z; cases z)
  have g1 : ∀ j, gt (ρ.set i .un) j = if j = i ∧ i < ρ.length then .un else gt ρ j := fun j => gt_set
  have nm : ∀ j, isMut (gt (ρ.set i .un) j) → sv σ j ≠ some (.ref a) := fun j m e3 => by
    rw [g1] at m
    by_cases hj : j = i ∧ i < ρ.length
    · rw [if_pos hj] at m; exact m
    · rw [if_neg hj] at m
      exact r.apart i j a (fun z => hj ⟨z.symm, hlt⟩) mi m ha e3
  have r1 := (r.setU i).chgO (u' := o) hu n2 n3 n4 ng h0 (fun hs => fr.hs a hs h0) nm
  have np : ¬ fr.Pv a := fun hp => (r.prv a hp).2.2.2 i mi ha
  have st : Stab G H (L2.upd H a o) := ⟨fun b zs q => by
      rw [upd_ne (fun z => by rw [z, hu] at q; exact n2 _ (Option.some.inj q))]; exact q, fun b o u' q => by
      rw [upd_ne (fun z => by rw [z, hu] at q; exact n3 _ _ (Option.some.inj q))]; exact q, fun b g => by
      have nb : b ≠ a := fun z => ng (by rw [← z]; exact g)
      rw [upd_ne nb]⟩
  have r2 := r1.set i (s := .dow ks' ds') (o := some (.ref a)) ⟨a, xs, vs, rfl, hk st, hv st, hd, ng, h0⟩ fun _ b eb => by
    cases eb
    exact ⟨fun j hj m => nm j m, np⟩
  rw [List.set_set, σ_same ha] at r2
  exact ⟨r2, st⟩
end
def wNewD (i : Nat) : WS := fun _ E ρ => E.nx (ρ.set i (.dow [] []))
@[simp ↓] theorem wNewD_ {i : Nat} {RR : RS} {E : EndsA} {ρ : Rho} : wNewD i RR E ρ = E.nx (ρ.set i (.dow [] [])) := (rfl)
def wPutD (i : Nat) (Wk Wv : WE) : WS := fun RR E ρ => @dowS (gt ρ i) ⟨fun ks ds => Wv (fun ex => RR ex ρ) ρ fun v => Wk (fun ex => RR ex ρ) ρ fun q => isTup q = true ∧ okK 8 q = true ∧ ks.all isTup = true ∧ dGet ks ds q = none ∧ ks.length < 16777216 ∧ E.nx (ρ.set i (.dow (ks ++ [q]) (ds ++ [v])))⟩
@[simp ↓] theorem wPutD_ {i : Nat} {Wk Wv : WE} {RR : RS} {E : EndsA} {ρ : Rho} : wPutD i Wk Wv RR E ρ = @dowS (gt ρ i) ⟨fun ks ds => Wv (fun ex => RR ex ρ) ρ fun v => Wk (fun ex => RR ex ρ) ρ fun q => isTup q = true ∧ okK 8 q = true ∧ ks.all isTup = true ∧ dGet ks ds q = none ∧ ks.length < 16777216 ∧ E.nx (ρ.set i (.dow (ks ++ [q]) (ds ++ [v])))⟩ := (rfl)
section
variable {X : Cx} {Wx : WX} {k value : Expr} {Wk Wv : WE} {pos pos' pd : Pos} {x : Str}
theorem ds_newD (i : Nat) (hN : X.N.Nodup) (hi : X.N[i]? = some x := by rfl) (hx : Loc X.env.scope x := by first | exact .inl rfl | exact .inr rfl) (hs : swapsWith (.Dict [] [] pd) (some (.Name x pos')) pos.line X.env = pure false := by rfl)
    (hf : X.fn x = true ∨ X.env.scope.names.lookup x = some .local := by first | exact .inl rfl | exact .inr rfl) : DS X Wx (.Assign [.Name x pos'] (.Dict [] [] pd) pos) (wNewD i) := by
  refine ⟨⟨_, ps_set hN hi hx pe_dnewK hs hf, fun fr G ρ σ H R E F r hr ok w => ?_⟩⟩
  intro a na
  have st := Step.new (o := .dK []) r na
  have ng : ¬ G a := fun g => by
    obtain ⟨o, e⟩ := r.gi a g
    rw [na] at e; cases e
  refine ok.nx G _ _ _ (st.rel.set i (s := .dow [] []) ⟨a, [], [], rfl, rfl, rfl, ⟨rfl, by simp, .inl ⟨[], rfl, .nil, upd_same⟩⟩, ng, r.h0 na⟩ fun _ b eb => ?_) w
  cases eb
  refine ⟨fun j _ m ej => r.not_mut na j m ej, fun hp => ?_⟩
  obtain ⟨_, ⟨o, q⟩, _⟩ := r.prv a hp
  rw [na] at q; cases q
theorem nodup_new {q : D} : ∀ {ks ds : List D}, ks.length = ds.length → dGet ks ds q = none → nkD q ∉ nkDs ks
  | [], _, _, _ => by simp [nkDs]
  | k :: ks, [], h, _ => by simp at h
  | k :: ks, d :: ds, h, hg => by
    unfold dGet at hg
    split at hg
    · cases hg
    · rename_i hne
      simp only [nkDs, List.mem_cons, not_or]
      exact ⟨fun z => hne z.symm, nodup_new (by simpa using h) hg⟩
theorem ds_putD (i : Nat) (hw : X.w = TabC.w) (hu : X.A.units + 64 < cLine) (hv : DE X Wx value Wv) (hk : DE X Wx k Wk) (hN : X.N[i]? = some x := by rfl) (hvs : Vis X.env.scope x := by first | exact Or.inl rfl | exact Or.inr (Or.inl rfl) | exact Or.inr (Or.inr rfl)) (hd : (x == ("__debug__" : Str)) = false := by decide)
    (hcd : (x == ("__classdict__" : Str)) = false := by decide) (hs : swapsWith value (some (.Subscript (.Name x pd) k pos')) pos.line X.env = pure false := by rfl) : DS X Wx (.Assign [.Subscript (.Name x pd) k pos'] value pos) (wPutD i Wk Wv) := by
  obtain ⟨tv, pv, qv⟩ := hv.ex
  obtain ⟨tk, pk, qk⟩ := hk.ex
  refine ⟨⟨_, ps_putD hw hu pv (pe_var hN hvs hd hcd) pk hs, fun fr G ρ σ H R E F r hr ok w => ?_⟩⟩
  unfold wPutD at w
  cases e : gt ρ i with
  | dow ks ds =>
    rw [e] at w
    refine qv fr G ρ σ H _ _ _ r hr.e w fun y d G1 H1 s1 ry w1 => ?_
    have sl := s1.rel.slot i
    rw [e] at sl
    obtain ⟨a, xs, vs, e1, _⟩ := sl
    refine ⟨.ref a, sv_some.mp e1, ?_⟩
    refine qk fr G1 ρ σ H1 _ _ _ s1.rel hr.e w1 fun z q G2 H2 s2 rq w2 => ?_
    obtain ⟨t1, t2, t3, t4, t5, w2⟩ := w2
    have sl := s2.rel.slot i
    rw [e] at sl
    obtain ⟨a', xs, vs, e1', rk, rd, hdic, ng, h0⟩ := sl
    rw [e1] at e1'
    cases e1'
    cases q <;> simp [isTup] at t1
    rename_i zs
    have rq' := rq
    obtain ⟨b, bs, rfl, qb, rb⟩ := rq
    obtain ⟨l1, l2, hcase⟩ := id hdic
    have hkeys : ∃ as : List Addr, xs = as.map .ref ∧ okKs 8 ks = true ∧ (nkDs ks).Nodup ∧ Mut (H2 a) := by
      rcases hcase with ⟨is, rfl, _, e3⟩ | ⟨as, e1, _, e3, e4, _, e6⟩
      · cases is with
        | cons i is => simp [isTup] at t3
        | nil => cases rk; exact ⟨[], rfl, rfl, by simp [nkDs], by rw [e3]; exact True.intro⟩
      · exact ⟨as, e1, e3, e4, by rw [e6]; exact True.intro⟩
    obtain ⟨as, rfl, ok3, nd, mu⟩ := hkeys
    refine ⟨G2, .tup zs, ks, ds, b, a, as, vs, rfl, rfl, t2, t3, rq', rk, rd, hdic, t4, by rw [sizeLine_eq]; exact t5, mu, fun hsys => ?_⟩
    have rl2 := s2.rel
    have up := rl2.updD (ks' := ks ++ [.tup zs]) (ds' := ds ++ [d]) (xs := (as ++ [b]).map .ref) (vs := vs ++ [y]) e e1
      (fun st => by rw [List.map_append]; exact (Reps.stab st (fun _ h => h) ks _ rk).append (.one (Rep.stab st (fun _ h => h) _ _ rq')))
      (fun st => (Reps.stab st (fun _ h => h) ds vs rd).append (.one (Rep.stab st (fun _ h => h) d y (s2.rep ry))))
      ⟨by simp [l1], by rw [List.length_append, sizeLine_eq]; simp; omega, .inr ⟨as ++ [b], rfl, by rw [List.all_append, t3]; rfl, by rw [okKs_append, ok3]; simp [okKs, t2], by
        rw [nkDs_append]
        have hn := nodup_new l1 t4
        exact List.nodup_append.mpr ⟨nd, by simp [nkDs], fun x hx y hy z => by
          have hy : y = nkD (.tup zs) := by simpa [nkDs] using hy
          subst hy; subst z; exact hn hx⟩, hsys, upd_same⟩⟩
    exact ok.nx G2 _ _ _ up.1 w2
  | _ => rw [e] at w; exact w.elim
end
end AV

set_option maxRecDepth 100000
set_option maxHeartbeats 2000000
/-! self.f, self.g = e -/
namespace AV
open PySem PySem.Spec PyProof.Rows L2
variable [TabC]
section
variable {X : Cx} {o : Expr} {f : Str} {pos : Pos} {ta : TE}
def gFld (K : PySem.W.Frag) (ta : TE) (f : Str) : TG := fun y σ H Q => ta σ H fun x H2 => ∃ a C dx fs, x = .ref a ∧ H2 a = some (.ins C dx fs) ∧ Cls K C ∧ NoAttr K C f ∧ fs.length < 1000 ∧ Q σ (upd H2 a (.ins C dx (putF f y fs)))
theorem pg_fld (ha : PE X o ta) : PG X (.Attribute o f pos) (gFld X.K ta f) := by
  constructor
  intro pins s σ H v u Q I r h
  rw [PySem.arm_assign_Attribute]
  refine wpAny_bind (wpAny_holding ?_)
  apply thn (ha.run pins s σ H _ I h)
  rintro ov s2 ⟨x, H2, I2, rx, a, C, dx, fs, rfl, ea, c, n, l, q2⟩
  cases rx
  refine wpAny_bind (wpAny_standAt (wpAny_bind (wpAny_holding ?_)))
  exact setattr_ok I2 ea c n l r fun s3 I3 => wpAny_release ⟨σ, _, I3, q2⟩
end
class KsF where
  r : List D → Prop
def twoK (ds : List D) [K : KsF] : Prop := ds.length = 2 ∧ K.r ds
def wAsgF2 (C : Addr) (i : Nat) (f g : Str) (We : WE) : WS := fun R E ρ => We (fun ex => R ex ρ) ρ fun d => match d with
  | .tup [x, y] => @slfK (gt ρ i) ⟨fun b C' ns ds => C' = C ∧ ns.length = ds.length ∧ ns.length < 900 ∧ E.nx (ρ.set i (.slf b C (putN g (putN f ns)) (putX g y (putN f ns) (putX f x ns ds))))⟩
  | _ => False
class Kp2 where
  r : D → D → Prop
def prK (d : D) [K : Kp2] : Prop := match d with | .tup [x, y] => K.r x y | _ => False
@[simp ↓] theorem prK_ {x y : D} {Q : D → D → Prop} : @prK (.tup [x, y]) ⟨Q⟩ = Q x y := (rfl)
@[simp ↓] theorem wAsgF2_ {C : Addr} {i : Nat} {f g : Str} {We : WE} {RR : RS} {E : EndsA} {ρ : Rho} : wAsgF2 C i f g We RR E ρ = We (fun ex => RR ex ρ) ρ fun d => @prK d ⟨fun x y => @slfK (gt ρ i) ⟨fun b C' ns ds => C' = C ∧ ns.length = ds.length ∧ ns.length < 900 ∧ E.nx (ρ.set i (.slf b C (putN g (putN f ns)) (putX g y (putN f ns) (putX f x ns ds))))⟩⟩ := by
  unfold wAsgF2
  congr 1
theorem putN_len {f : Str} : ∀ {ns : List Str} {xs : List V}, ns.length = xs.length → ∀ v, (putN f ns).length = (putX f v ns xs).length ∧ (putN f ns).length ≤ ns.length + 1
  | [], [], _, v => by simp [putN, putX]
  | [], _ :: _, h, _ => by simp at h
  | _ :: _, [], h, _ => by simp at h
  | g :: r, x :: xs, h, v => by
    unfold putN putX
    by_cases e : g = f
    · simp [e]; simpa using h
    · have ih := putN_len (f := f) (ns := r) (xs := xs) (by simpa using h) v
      simp [e]; exact ih
section
variable {X : Cx} {Wx : WX} {C : Addr} {y f g : Str} {e : Expr} {pos p1 p2 p3 p4 p5 : Pos} {We : WE} {k : Nat}
theorem ds_asgF2 (i : Nat) (hc : X.calm = true) (c : Cls X.K C) (nf : NoAttr X.K C f) (ng' : NoAttr X.K C g) (h : DE X Wx e We) (hN : X.N[i]? = some y := by rfl) (hv : Vis X.env.scope y := by first | exact Or.inl rfl | exact Or.inr (Or.inl rfl) | exact Or.inr (Or.inr rfl)) (hd : (y == ("__debug__" : Str)) = false := by decide)
    (hcd : (y == ("__classdict__" : Str)) = false := by decide) (hs : swapsWithSole [.Tuple [.Attribute (.Name y p1) f p2, .Attribute (.Name y p3) g p4] k p5] e pos.line X.env = pure false := by rfl) (hw : swappedStores [.Tuple [.Attribute (.Name y p1) f p2, .Attribute (.Name y p3) g p4] k p5] e X.env = pure none := by rfl)
    (h1 : (assignEach [.Tuple [.Attribute (.Name y p1) f p2, .Attribute (.Name y p3) g p4] k p5] X.env).map (·.2) = [assign (.Tuple [.Attribute (.Name y p1) f p2, .Attribute (.Name y p3) g p4] k p5) X.env] := by rfl)
    (a1 : (assignEach [.Attribute (.Name y p1) f p2, .Attribute (.Name y p3) g p4] X.env).map (·.2) = assign (.Attribute (.Name y p1) f p2) X.env :: (assignEach [.Attribute (.Name y p3) g p4] X.env).map (·.2) := by rfl)
    (a2 : (assignEach [.Attribute (.Name y p3) g p4] X.env).map (·.2) = assign (.Attribute (.Name y p3) g p4) X.env :: (assignEach [] X.env).map (·.2) := by rfl)
    (a3 : (assignEach [.Attribute (.Name y p1) f p2, .Attribute (.Name y p3) g p4] X.env).length = 2 := by rfl) (a4 : (assignEach [.Attribute (.Name y p1) f p2, .Attribute (.Name y p3) g p4] X.env).findIdx? (·.1) = none := by rfl) :
    DS X Wx (.Assign [.Tuple [.Attribute (.Name y p1) f p2, .Attribute (.Name y p3) g p4] k p5] e pos) (wAsgF2 C i f g We) := by
  obtain ⟨t, pe, q⟩ := h.ex
  have v1 : PE X (.Name y p1) _ := pe_var hN hv hd hcd
  have v2 : PE X (.Name y p3) _ := pe_var hN hv hd hcd
  refine ⟨⟨_, ps_asg pe (pg_tup hc (pgs_cons (pg_fld v1) (pgs_cons (pg_fld v2) pgs_nil a2) a1) a3 a4) hs hw h1, fun fr G ρ σ H R E F r hr ok w => ?_⟩⟩
  refine q fr G ρ σ H _ _ _ r hr.e w fun v d G1 H1 s1 rv w1 => ?_
  split at w1
  · rename_i x z
    cases e : gt ρ i with
    | slf b C' ns ds =>
      rw [e] at w1
      obtain ⟨rfl, hl, hn, w1⟩ := w1
      obtain ⟨t, ts, rfl, sq, rs⟩ := rv
      obtain ⟨u1, _, rfl, ru1, u2, _, rfl, ru2, hnil⟩ := rs
      cases hnil
      have s0 := s1.rel.slot i
      rw [e] at s0
      obtain ⟨a, dx, xs, e1, e2, rx, ng, h0, hb⟩ := s0
      have hlx : ns.length = xs.length := by rw [rx.length]; exact hl
      have l1 := putN_len (f := f) hlx u1
      refine ⟨t, [u1, u2], rfl, sq, rfl, u1, [u2], rfl, .ref a, sv_some.mp e1, a, C', dx, _, rfl, e2, c, nf, by rw [List.length_zip]; omega, ?_⟩
      rw [putF_zip hlx]
      have r2 := s1.rel.updF (ms := putN f ns) (es := AV.putX f x ns ds) (ys := AV.putX f u1 ns xs) e e1 e2 (Reps.putX ru1 rx)
      have ilt : i < ρ.length := gt_lt (by rw [e]; intro z; cases z)
      have e' : gt (ρ.set i (.slf b C' (putN f ns) (putX f x ns ds))) i = .slf b C' (putN f ns) (putX f x ns ds) := by rw [gt_set, if_pos ⟨rfl, ilt⟩]
      have s2 := r2.slot i
      rw [e'] at s2
      obtain ⟨a2, dx2, xs2, f1, f2, rx2, _⟩ := s2
      rw [e1] at f1
      cases f1
      rw [upd_same] at f2
      have st : Stab G1 H1 (L2.upd H1 a (.ins C' dx ((putN f ns).zip (putX f u1 ns xs)))) := ⟨fun c zs q => by
          rw [upd_ne (fun z => by rw [z, e2] at q; cases q)]; exact q, fun c o u' q => by
          rw [upd_ne (fun z => by rw [z, e2] at q; cases q)]; exact q, fun c gg => by
          have nb : c ≠ a := fun z => ng (by rw [← z]; exact gg)
          rw [upd_ne nb]⟩
      refine ⟨u2, [], rfl, .ref a, sv_some.mp e1, a, C', dx, _, rfl, upd_same, c, ng', by rw [List.length_zip]; omega, rfl, ?_⟩
      rw [putF_zip l1.1]
      have r3 := r2.updF (ms := putN g (putN f ns)) (es := AV.putX g z (putN f ns) (AV.putX f x ns ds)) (ys := AV.putX g u2 (putN f ns) (AV.putX f u1 ns xs)) e' e1 upd_same (Reps.putX (Rep.stab st (fun _ h => h) _ _ ru2) (Reps.stab st (fun _ h => h) _ _ (Reps.putX ru1 rx)))
      rw [List.set_set] at r3
      exact ok.nx G1 _ σ _ r3 w1
    | _ => rw [e] at w1; exact w1.elim
  · exact w1.elim
end
end AV

set_option maxRecDepth 100000
set_option maxHeartbeats 2000000
/-! e.f of an exception; self.f while self is in the making -/
namespace AV
open PySem PySem.Spec PyProof.Rows L2
variable [TabC]
def wExG (i : Nat) (a : Addr) (cls : Value) (d : Option Addr) (C : Addr) (f : Str) : WE := fun R ρ Q => match gt ρ i with | .exc ex a' d' => a' = a ∧ d' = d ∧ cls = .ref ex.C ∧ ex.C = C ∧ ∃ v, (ex.ns.zip ex.ds).lookup f = some v ∧ Q v | _ => False
@[simp ↓] theorem wExG_ {i : Nat} {R : EX → Prop} {ρ : Rho} {Q : D → Prop} {a C : Addr} {cls : Value} {o : Option Addr} {f : Str} : wExG i a cls o C f R ρ Q = @excS (gt ρ i) ⟨fun ex a' d' => a' = a ∧ d' = o ∧ cls = .ref ex.C ∧ ex.C = C ∧ @optK _ ((ex.ns.zip ex.ds).lookup f) ⟨Q⟩⟩ := (rfl)
section
variable {X : Cx} {f y : Str} {p p2 p3 pos : Pos} {a C C2 : Addr} {oe : Obj} {cls : Value} {d : Option Addr} {pn : List (Addr × Obj)}
theorem de_exG (i : Nat) (T : xfB X.K C = true) (hno : PySem.W.findIn X.K (.ref C) f = some none) (hz : Zc cls d oe) (hf : ∃ vs, oe.data = .fields vs)
    (hN : X.N[i]? = some y := by rfl) (hv : Vis X.env.scope y := by first | exact Or.inl rfl | exact Or.inr (Or.inl rfl) | exact Or.inr (Or.inr rfl)) (hd : (y == ("__debug__" : Str)) = false := by decide)
    (hcd : (y == ("__classdict__" : Str)) = false := by decide) (hb : attributeBase (.Name y p) f X.env (eval (.Name y p) X.env) = eval (.Name y p) X.env := by rfl) : DE (X.suite a ((a, oe) :: pn)) W0 (.Attribute (.Name y p) f pos) (wExG i a cls d C f) := by
  refine ⟨⟨_, pe_xf (xfB_ok T) hno hz hf (pe_var (X := X.suite a ((a, oe) :: pn)) hN hv hd hcd) hb, fun fr G ρ σ H R Qa Q rl hr w k => ?_⟩⟩
  unfold wExG at w
  split at w
  · rename_i ex a' d' hi
    obtain ⟨rfl, rfl, ecls, eC, v, hl, q⟩ := w
    have s := rl.slot i
    rw [hi] at s
    obtain ⟨s1, s2⟩ := s
    refine ⟨_, sv_some.mp s1, rfl, by rw [ecls, eC], ?_⟩
    obtain ⟨C0, ns, ds⟩ := ex
    cases s2 with
    | bare => simp at hl
    | «with» n g e l r =>
      obtain ⟨u, e2, ru⟩ := zip_lookup r hl
      exact ⟨_, _, u, rfl, e, e2, k u v G H (.refl rl) ru q⟩
  · exact w.elim
end
def wFldS (C : Addr) (i : Nat) (f : Str) : WE := fun _ ρ Q => @slfK (gt ρ i) ⟨fun _ C' ns ds => C' = C ∧ @optK _ ((ns.zip ds).lookup f) ⟨Q⟩⟩
@[simp ↓] theorem wFldS_ {C : Addr} {i : Nat} {f : Str} {R : EX → Prop} {ρ : Rho} {Q : D → Prop} : wFldS C i f R ρ Q = @slfK (gt ρ i) ⟨fun _ C' ns ds => C' = C ∧ @optK _ ((ns.zip ds).lookup f) ⟨Q⟩⟩ := (rfl)
section
variable {X : Cx} {Wx : WX} {C : Addr} {f y : Str} {pos p : Pos}
theorem de_fldS (i : Nat) (c : Cls X.K C) (nf : NoAttr X.K C f) (hN : X.N[i]? = some y := by rfl) (hv : Vis X.env.scope y := by first | exact Or.inl rfl | exact Or.inr (Or.inl rfl) | exact Or.inr (Or.inr rfl)) (hd : (y == ("__debug__" : Str)) = false := by decide)
    (hcd : (y == ("__classdict__" : Str)) = false := by decide) (hb : attributeBase (.Name y p) f X.env (eval (.Name y p) X.env) = eval (.Name y p) X.env := by rfl) : DE X Wx (.Attribute (.Name y p) f pos) (wFldS C i f) := by
  refine ⟨⟨_, pe_fld (pe_var hN hv hd hcd) hb, fun fr G ρ σ H R Qa Q rl hr w k => ?_⟩⟩
  unfold wFldS at w
  cases e : gt ρ i with
  | slf b C' ns ds =>
    rw [e] at w
    obtain ⟨rfl, d', el, qd⟩ := w
    have s := rl.slot i
    rw [e] at s
    obtain ⟨a, dx, xs, e1, e2, rs, _⟩ := s
    obtain ⟨v', ev, rv⟩ := rs.lookup el
    exact ⟨_, sv_some.mp e1, a, C', dx, _, v', rfl, e2, c, nf, ev, k v' d' G H (.refl rl) rv qd⟩
  | _ => rw [e] at w; exact w.elim
end
end AV

set_option maxRecDepth 100000
set_option maxHeartbeats 400000
/-! divmod of ints -/
namespace AV
open PySem PySem.Spec PyProof.Rows L2
theorem slot_int_divmod : PySem.Slot "int" (dunder "divmod") "int.__divmod__" :=
  .of (owner := "int") (n := "__divmod__") (by rw [typeLookup_type, builtinLookup_eq_fast]; kernel_rfl) (by decide +kernel) (by decide +kernel) (by decide +kernel)
    (by first | exact .inl (by decide +kernel) | exact .inr (by decide +kernel)) (by rw [isSubtype_type]; kernel_rfl)
theorem fills_int_divmod : fillsNumberSlot (.type "int") "divmod" = pure true :=
  fillsNumberSlot_of (id := "int.__divmod__") (r := some (.builtin "int.__rdivmod__")) (by rw [typeLookup_type, builtinLookup_eq_fast]; kernel_rfl) (by decide +kernel) (by rw [typeLookup_type, builtinLookup_eq_fast]; kernel_rfl)
theorem entry_int_divmod : entryFor table "int.__divmod__" = some Builtin.«int.__divmod__» := entryFor_of_fast (by kernel_rfl)
theorem args_int_divmod (a b : Value) : argsOk "int.__divmod__" ⟨[a, b], []⟩ := by unfold argsOk; kernel_rfl
theorem kind_divmod : builtinKind "divmod" = none := by decide +kernel
theorem plain_divmod : plainId "divmod" = true := by decide +kernel
theorem entry_divmod : entryFor table "divmod" = some Builtin.«divmod» := entryFor_of_fast (by kernel_rfl)
theorem args_divmod (a b : Value) : argsOk "divmod" ⟨[a, b], []⟩ := by unfold argsOk; kernel_rfl
section
variable {prog : Program} {w : World} {A : Around} {E : Value → Shared → Prop} {s : Shared} {a b : Int} {t u : Tok} {Q : Value → Shared → Prop}
theorem call_int_divmod (hb : b ≠ 0) (hp : Builtin.divisionGoesByPylong a b = false ∨ PySem.PylongRoom (model prog w) A s)
    (h : Q (.ref s.heap.objs.size) { s with heap := s.heap.push { cls := .type "tuple", data := .seq #[.int (a.fdiv b) s.toks, .int (a.fmod b) (s.toks + 1)] }, toks := s.toks + 1 + 1 }) :
    wpAny (model prog w) A (call (.builtin "int.__divmod__") [.int a t, .int b u]) (fun v s' => v ≠ .notImplemented ∧ Q v s') E s := by
  refine wpAny_call_entry slot_int_divmod (typeIs_int s a t) entry_int_divmod ?_ (args_int_divmod _ _)
  have hb' : (b == 0) = false := by simpa using hb
  show wpAny _ _ (do
    if b == 0 then rule "int.divmod.zero"; raiseError "ZeroDivisionError" "integer division or modulo by zero"
    Builtin.roomForPylong a b
    ret (← newTuple [← mkInt (a.fdiv b), ← mkInt (a.fmod b)])) _ _ s
  simp only [hb', Bool.false_eq_true, if_false, pure_bind]
  refine wpAny_bind (wpAny_roomForPylong hp ?_)
  refine wpAny_bind (wpAny_mkInt (wpAny_bind (wpAny_mkInt (wpAny_bind (wpAny_newTuple ?_)))))
  exact wpAny_pure ⟨_, rfl, by simp, h⟩
theorem call_divmod_int (hb : b ≠ 0) (hp : Builtin.divisionGoesByPylong a b = false ∨ PySem.PylongRoom (model prog w) A s)
    (h : Q (.ref s.heap.objs.size) { s with heap := s.heap.push { cls := .type "tuple", data := .seq #[.int (a.fdiv b) s.toks, .int (a.fmod b) (s.toks + 1)] }, toks := s.toks + 1 + 1 }) :
    wpAny (model prog w) A (call (.builtin "divmod") [.int a t, .int b u]) Q E s := by
  refine PySem.Calls.call_function_entry kind_divmod plain_divmod entry_divmod (args_divmod _ _) ?_
  show wpAny _ _ (do
    ret (← PySem.Builtin.Builtins.binaryNamed "divmod()" "divmod" (.int a t) (.int b u))) _ _ s
  refine wpAny_bind ?_
  unfold PySem.Builtin.Builtins.binaryNamed
  refine wpAny_holding ?_
  refine wpAny_bind ?_
  trace_state
  refine wpAny_binaryOp1_same (nm := "divmod") (id := "int.__divmod__") (T := "int") (typeIs_int s a t) (typeIs_int s b u) fills_int_divmod slot_int_divmod ?_
  refine wpAny_mono (call_int_divmod (Q := fun v s' => v = .ref s.heap.objs.size ∧ s' = { s with heap := s.heap.push { cls := .type "tuple", data := .seq #[.int (a.fdiv b) s.toks, .int (a.fmod b) (s.toks + 1)] }, toks := s.toks + 1 + 1 }) hb hp ⟨rfl, rfl⟩) (fun v s' h' => ?_) (fun _ _ e => e)
  obtain ⟨h1, rfl, rfl⟩ := h'
  refine ⟨h1, ?_⟩
  refine wpAny_pure ?_
  exact wpAny_pure ⟨_, rfl, h⟩
end
section
variable {X : Cx}
theorem call_divmod : CallR X (.builtin "divmod") (fun xs H Q => ∃ i j, xs = [.int i, .int j] ∧ (0 < j ∧ j.natAbs.log2 < 9000) ∧ ∀ a, H a = none → Q (.ref a) (upd H a (.tup [.int (i.fdiv j), .int (i.fmod j)]))) := by
  intro pins s σ H xs us Q I r h
  obtain ⟨i, j, rfl, ⟨hj, hl⟩, q⟩ := h
  obtain ⟨u, w', rfl, ⟨t, rfl⟩, ⟨t', rfl⟩⟩ := vals2 r
  have hf : H s.heap.objs.size = none := I.hok.fresh (Nat.le_refl _)
  refine call_divmod_int (by omega) (.inl (PyProof.noPylong_of_log2 hl)) ?_
  refine ⟨.ref s.heap.objs.size, upd H s.heap.objs.size (.tup [.int (i.fdiv j), .int (i.fmod j)]), I.laid (t' := s.toks + 1 + 1) (fun b u e => Heap.get?_push_of_some _ e) (Nat.le_refl _) ?_, rfl, q _ hf⟩
  exact ⟨by rw [sizeLine_eq]; simp, [.int (i.fdiv j) s.toks, .int (i.fmod j) (s.toks + 1)], .cons ⟨_, rfl⟩ (.cons ⟨_, rfl⟩ .nil), ⟨_, Heap.get?_push_size _ rfl, rfl, _, rfl⟩⟩
variable [TabC]
def bDm : BS := fun ds Q => match ds with | [.int i, .int j] => (0 < j ∧ j.natAbs.log2 < 9000) ∧ Q (.tup [.int (i / j), .int (i % j)]) | _ => False
@[simp ↓] theorem bDm_ {i j : Int} {Q : D → Prop} : @bK bDm [.int i, .int j] ⟨Q⟩ = ((0 < j ∧ j.natAbs.log2 < 9000) ∧ Q (.tup [.int (i / j), .int (i % j)])) := (rfl)
theorem ca_divmod : CalA X (fun xs H Q => ∃ i j, xs = [.int i, .int j] ∧ (0 < j ∧ j.natAbs.log2 < 9000) ∧ ∀ a, H a = none → Q (.ref a) (upd H a (.tup [.int (i.fdiv j), .int (i.fmod j)]))) bDm := fun fr G ρ σ H vs ds Qa Q rl rs w k => by
  unfold bDm at w
  split at w
  · rename_i i j
    obtain ⟨v, u, rfl, r1, r2⟩ := rs.two
    obtain ⟨⟨h0, h1⟩, w⟩ := w
    refine ⟨i, j, by rw [r1.int, r2.int], ⟨h0, h1⟩, fun q nq => ?_⟩
    have s3 := Step.new (o := .tup [.int (i.fdiv j), .int (i.fmod j)]) rl nq
    rw [Int.fdiv_eq_ediv_of_nonneg _ (by omega), Int.fmod_eq_emod_of_nonneg _ (by omega)] at s3 ⊢
    exact k _ (.tup [.int (i / j), .int (i % j)]) _ _ s3 ⟨q, _, rfl, .of upd_same, ⟨_, _, rfl, rfl, ⟨_, _, rfl, rfl, rfl⟩⟩⟩ w
  · exact w.elim
end
end AV

set_option maxRecDepth 100000
set_option maxHeartbeats 1000000
namespace AV
open PySem PySem.Spec PyProof.Rows L2
variable [TabC]
/-! slots of a lambda, one by one -/
def vlS (s : Slot) : Slot := match s with | .val d => .val d | .exc ex a d => .exc ex a d | _ => .un
@[simp low] theorem valsR_any {s : Slot} {r : Rho} : valsR (s :: r) = vlS s :: valsR r := (rfl)
@[simp] theorem intLt_cast {a b : Nat} : ((a : Int) < (b : Int)) = (a < b) := propext ⟨fun h => by omega, fun h => by omega⟩
end AV

set_option maxRecDepth 100000
set_option maxHeartbeats 1000000
namespace AV
open PySem PySem.Spec PyProof.Rows L2
variable [TabC]
/-! defs that tell a new list -/
theorem mkR_no {K : PySem.W.Frag} {fr : Fr} {G : GS} {σ : L2.St} {H : Hp} (r : Rel K fr G mkR σ H) : False := by
  have s := r.slot 0
  obtain ⟨v, _, a, xs, vs, _, _, _, _, h, _⟩ := s
  simp at h
def spF (K : PySem.W.Frag) (φ : AS) : Sp := fun vs H Q E => ∃ G ds Qa R, GOk G H ∧ Reps K G H ds vs ∧ φ ds Qa R ∧
  (∀ a es G' H', Post K none G H G' H' → H a = none → Rep K G' H' (.lst es) (.ref a) → Qa (.lst es) → Q (.ref a) H') ∧ ∀ ex cls dd G' H', Post K none G H G' H' → ExRep K G' H' ex cls dd → R ex → E cls dd H'
section
variable {P : Program} {w : World} {K : PySem.W.Frag} {mg : Str → Option Value} {base : Heap} {x qual : Str} {st : Stmt} {f : Addr} {fd : FuncData} {N ps : List Str} {k : Nat} {φ : AS} {Wb : WS}
theorem Good.v (F : Good P w K mg base k x ps (spF K φ)) : Good P w K mg base k x ps (spV K φ) := by
  obtain ⟨f, fd, h1, h2, h3, h4⟩ := F.ex
  exact ⟨f, fd, h1, h2, h3, h4.imp fun vs H Q E ⟨G, ds, Qa, R, g, r, p, kv, ke⟩ => ⟨G, ds, Qa, R, g, r, p, fun a es G' H' po _ rp q => kv _ _ G' H' po rp q, ke⟩⟩
theorem fnF (F : Fun K x qual st f fd) (S : FnScope N ps (defScope st))
    (hb : ∀ (cdv : Value) (A : Around) (outer : List Env) (s : Shared) (H : Hp) (E : XK), Room k (A.deeper (envOfC qual (defScope st) s.heap.objs.size f cdv)) → DSs (cxOf (L2.CX P w) P w K mg base N qual (defScope st) f cdv A outer s H E) (fun cls d _ H => E cls d H) (defBody st) Wb)
    (hφ : ∀ ds Q R, φ ds Q R → ds.length = ps.length ∧ Wb (fun ex _ => R ex) ⟨fun _ => False, fun ρ d => ρ = mkR ∧ Q d, fun _ => False, fun _ => False⟩ (slots0 N ps ds)) : FnOk P w K mg base (L2.CX P w) (k + 1) f fd ps (spF K φ) := by
  refine F.okX S (fun vs H Q E h => ?_) (fun cdv A outer s H vs Q E hr h => ?_)
  · obtain ⟨G, ds, Qa, R, _, rs, w, _⟩ := h
    rw [rs.length]; exact (hφ ds Qa R w).1
  · obtain ⟨G, ds, Qa, R, gi, rs, w, kv, ke⟩ := h
    obtain ⟨t, p, q⟩ := (hb cdv A outer s H E hr).ex
    refine ⟨t, p, ?_⟩
    obtain ⟨hl, w⟩ := hφ ds Qa R w
    have hvl := rs.length
    have hpl : ps.length ≤ N.length := by have := congrArg List.length S.pre; rw [List.length_take] at this; omega
    refine q ⟨H, none, G, H, fun _ => False, fun _ => False, by simp, gi.ht⟩ G _ (start N vs) H _ _ _ ?_ (fun ex cls d G' ρ' σ' H' hR er rl => ke ex cls d G' H' rl.post er hR) ⟨fun G' ρ' σ' H' rl (z : False) => z.elim, fun v d G' ρ' σ' H' rl rv (z : ρ' = mkR ∧ Qa d) => ?_, fun _ _ _ _ _ z => z, fun _ _ _ _ _ z => z, fun v es G' ρ' σ' H' rl hf rv z => ?_⟩ w
    · refine ⟨fun _ h => h, fun _ h => .inl h, gi.gi, fun _ _ _ _ h => h, fun _ h => (by cases h), fun i => (start_val rs i).1, fun i j a _ m => ((start_val (K := K) (fr := ⟨H, none, G, H, fun _ => False, fun _ => False, by simp, gi.ht⟩) (m := N.length - ps.length) (n := 0) rs i).2 m).elim, ?_, .refl, fun _ h => h.elim, fun _ h => h.elim, gi.tb, gi.tbs⟩
      unfold L2.start slots0
      simp only [List.length_append, List.length_map, List.length_replicate]
      omega
    · obtain ⟨rfl, _⟩ := z
      exact (mkR_no rl).elim
    · rcases hf with ⟨a, es, rfl, rfl, h0⟩ | ⟨t, a, b, xs, ys, as, bs, rfl, _⟩
      · exact kv a es G' H' rl.post h0 rv z.2
      · obtain ⟨z, _⟩ := z
        simp [mkDR, mkP, mkR] at z
theorem goodF (A : FnAt K mg x st ps) (S : FnScope N ps (defScope st)) (hb : HB P w K mg base k x st N Wb)
    (hφ : ∀ ds Q R, φ ds Q R → ds.length = ps.length ∧ Wb (fun ex _ => R ex) ⟨fun _ => False, fun ρ d => ρ = mkR ∧ Q d, fun _ => False, fun _ => False⟩ (slots0 N ps ds)) : Good P w K mg base (k + 1) x ps (spF K φ) := by
  obtain ⟨f, fd, F, hm, b⟩ := A.ex
  exact ⟨f, fd, hm, F.kp, b, fnF F S (hb.use f) hφ⟩
end
def wRetF (We : WE) : WS := fun R E ρ => We (fun ex => R ex ρ) ρ fun d => match d with | .lst es => E.rt mkR (.lst es) | _ => False
def wRetO (i : Nat) : WS := fun _ E ρ => match gt ρ i with | .own _ ds => E.rt mkR (.lst ds) | _ => False
def ownK (s : Slot) [K : Kn (List D)] : Prop := match s with | .own _ ds => K.r ds | _ => False
@[simp ↓] theorem ownK_own {oa : Option Addr} {ds : List D} {Q : List D → Prop} : @ownK (.own oa ds) ⟨Q⟩ = Q ds := (rfl)
@[simp ↓] theorem wRetF_ {We : WE} {R : RS} {E : EndsA} {ρ : Rho} : wRetF We R E ρ = We (fun ex => R ex ρ) ρ fun d => @lstK d ⟨fun es => E.rt mkR (.lst es)⟩ := (rfl)
@[simp ↓] theorem wRetO_ {i : Nat} {R : RS} {E : EndsA} {ρ : Rho} : wRetO i R E ρ = @ownK (gt ρ i) ⟨fun es => E.rt mkR (.lst es)⟩ := (rfl)
section
variable {X : Cx} {Wx : WX} {k n : Nat} {ps : List Str} {φ : AS} {x : Str} {p pos : Pos} {e : Expr} {es : List Expr} {Wa : WA} {We : WE}
theorem ds_retF (h : DN X Wx e We) : DS X Wx (.Return (some e) pos) (wRetF We) := by
  obtain ⟨t, p, q⟩ := h.ex
  exact ⟨⟨_, ps_ret p, fun fr G ρ σ H R E F r hr ok w => q fr G ρ σ H _ _ _ r hr.e w fun p xs ds G' H' s np e ng rs qa => ok.rf (.ref p) (.lst ds) _ ρ σ H' (s.take r np e).rel (.inl ⟨p, ds, rfl, rfl, r.h0 np⟩) ⟨p, xs, rfl, .inr rfl, e, Reps.stab .refl (fun _ h => .inl h) ds xs rs⟩ qa⟩⟩
theorem ds_retO (i : Nat) (hN : X.N[i]? = some x := by rfl) (hv : Vis X.env.scope x := by first | exact Or.inl rfl | exact Or.inr (Or.inl rfl) | exact Or.inr (Or.inr rfl)) (hd : (x == ("__debug__" : Str)) = false := by decide)
    (hcd : (x == ("__classdict__" : Str)) = false := by decide) : DS X Wx (.Return (some (.Name x p)) pos) (wRetO i) := by
  refine ⟨⟨_, ps_ret (pe_var hN hv hd hcd), fun fr G ρ σ H R E F r hr ok w => ?_⟩⟩
  unfold wRetO at w
  split at w
  · rename_i oa ds hi
    have s := r.slot i
    rw [hi] at s
    obtain ⟨a, xs, e1, e2, rs, ng, h0, _⟩ := s
    obtain ⟨G', r'⟩ := r.move hi
    have s2 := r'.slot i
    have hlt : i < ρ.length := gt_lt (by rw [hi]; intro z; cases z)
    rw [gt_set, if_pos ⟨rfl, hlt⟩] at s2
    obtain ⟨v, e3, rp⟩ := s2
    rw [e1] at e3
    cases e3
    exact ⟨_, sv_some.mp e1, ok.rf (.ref a) (.lst ds) G' _ σ H r' (.inl ⟨a, ds, rfl, rfl, h0⟩) rp w⟩
  · exact w.elim
/-- a call of one: lists of one's own may be handed in -/
def wCallG (φ : AS) (Wa : WA) : WE := fun R ρ Q => Wa R ρ fun ds => φ ds (fun r => match r with | .lst es => lfrees es = true ∧ Q (.lst es) | _ => False) (fun ex => ex.ns = [] ∧ ex.ds = [] ∧ R ex)
@[simp ↓] theorem wCallG_ {φ : AS} {Wa : WA} {R : EX → Prop} {ρ : Rho} {Q : D → Prop} : wCallG φ Wa R ρ Q = Wa R ρ fun ds => @caK φ ds ⟨fun r => @lstK r ⟨fun es => lfrees es = true ∧ Q (.lst es)⟩⟩ ⟨fun ex => ex.ns = [] ∧ ex.ds = [] ∧ R ex⟩ := (rfl)
theorem dn_callG (F : Good X.prog X.w X.K X.mg X.base k x ps (spF X.K φ)) (hr : Room n X.A) (hk : k ≤ n) (tk : Takes X Wx) (ha : DAL X Wx (e :: es) Wa) (hg : Gl X x := by rfl) (hdb : (x == ("__debug__" : Str)) = false := by decide)
    (he : starEach (e :: es) X.env = (false, eval e X.env) :: starEach es X.env := by rfl) (hpl : (backTo pos (starEach es X.env)).any (·.1) = false := by rfl) : DN X Wx (.Call (.Name x p) (e :: es) [] pos) (wCallG φ Wa) := by
  obtain ⟨f, fd, hm, hkp, hb, F⟩ := F.ex
  obtain ⟨ta, pa, qa⟩ := ha.ex
  refine ⟨⟨_, pe_callS F (hr.mono hk) hg hm hkp hb (passAt tk) pa hdb he hpl, fun fr G ρ σ H R Qa Q rl hR w k => ?_⟩⟩
  refine qa fr G ρ σ H R _ _ rl hR w fun vs ds G1 H1 s1 r1 w1 => ?_
  have p2 : ∀ {G2 : GS} {H2 : Hp}, Post X.K none (Go G1 ρ σ) H1 G2 H2 → Post X.K none G1 H1 G1 H2 := fun po => ⟨po.same, fun _ h => h, fun _ h => .inl h, fun b h => by
    obtain ⟨o, q⟩ := s1.rel.gi b h
    exact ⟨o, po.same b o (by simp) (fun z => s1.rel.tb b z h) q⟩, (fun a e => by cases e), s1.rel.tb, po.tbs⟩
  refine ⟨Go G1 ρ σ, ds, _, _, ⟨Go.there s1.rel, fun b ht g => ?_, s1.rel.tbs⟩, RepLs.go s1.rel r1, w1, fun a es G2 H2 po na rv qd => ?_, fun ex cls dd G2 H2 po rv qd => ?_⟩
  · exact Go.notT s1.rel b g ht
  · obtain ⟨hl, qd⟩ := qd
    obtain ⟨a', xs, e', ga, ea, rs⟩ := rv
    cases e'
    have ng : ¬ G1 a := fun g => by
      obtain ⟨o, q⟩ := s1.rel.gi a g
      rw [na] at q; cases q
    exact k a xs es G1 H2 (s1.trans ((p2 po).step s1.rel)) (s1.up a na) ea ng (Reps.free es xs hl rs) qd
  · obtain ⟨h1, h2, qd⟩ := qd
    cases rv with
    | bare => exact hR _ _ _ G1 H2 qd .bare ((p2 po).step s1.rel).rel
    | «with» nn _ _ _ _ => exact (nn h1).elim
end
end AV

set_option maxRecDepth 100000
set_option maxHeartbeats 3200000
namespace AV
open PySem PySem.Spec PyProof.Rows L2
/-! ### set(l) of a list of ints -/
abbrev nset (w : World) : Obj := { cls := .type "set", dict := none, data := .set #[] 0 (.fresh 0 0 (!w.params.followText "set-order")) }
section
variable {P : Program} {w : World} {A : Around} {E : Value → Shared → Prop} {s : Shared}
theorem set_of_list {l : Addr} {its : Array Value} {ns : List Int} {Q : Value → Shared → Prop} (calm : A.handled = none) (isl : s.heap.IsList l its) (hin : IntsAre its.toList ns) (room : ns.length + 1 < scanBound)
    (nx : ∀ (g : Heap) (tk c : Nat), SetR w g s.heap.objs.size (fun j => decide (j ∈ ns)) c → c ≤ ns.length → (∀ b o, s.heap.get? b = some o → g.get? b = some o) → Q (.ref s.heap.objs.size) { s with heap := g, toks := tk }) : wpAny (model P w) A (call (.type "set") [.ref l]) Q E s := by
  have sz : its.size = ns.length := by have := IntsAre.length hin; rwa [Array.length_toList] at this
  obtain ⟨c1, tl1, mro⟩ := F.called_set.mro; have made := F.called_set.made; have sub := F.called_set.sub
  apply wpAny_call; apply codeAny_of_tree; show wpAny _ _ (callAny (.type "set") _) _ _ _
  apply wpAny_pure; refine ⟨Code.quiet_builtin _ (by decide +kernel), ?_⟩; apply codeAny_builtin F.entry_type_call
  rw [Around.under_plain (weight_type_call_type "set" [.ref l] []) rfl]
  have notT := F.called_set.notType; have canC := F.called_set.canCreate; have tyC := F.typeCall_set_1 (.ref l)
  repeat (any_goals (first | assumption | wp_step))
  refine codeAny_mono (code_set_led1 (.ref l) (E := E) (Q₁ := fun obj s₁ => obj = .ref s.heap.objs.size ∧ s₁ = { s with heap := s.heap.push (nset w) }) ⟨rfl, rfl⟩) fun rr s1 hr => ?_
  cases rr with
  | error e => exact hr
  | ok fl => cases fl with
    | ret obj =>
      obtain ⟨rfl, rfl⟩ := hr
      have at0 : (s.heap.push (nset w)).get? s.heap.objs.size = some (nset w) := Heap.get?_push_size _ rfl
      have ty0 : Shared.TypeIs { s with heap := s.heap.push (nset w) } (.ref s.heap.objs.size) "set" := ⟨_, at0, rfl⟩
      have look := F.called_set.init.lookup; have bind := F.called_set.init.bind (.ref s.heap.objs.size)
      repeat (any_goals (first | assumption | wp_step))
      refine codeAny_mono (codeAny_call_builtin (R := wants (fun r s2 => r = .none ∧ ∃ g tk c, s2 = { s with heap := g, toks := tk } ∧ SetR w g s.heap.objs.size (fun j => decide (j ∈ ns)) c ∧ c ≤ ns.length ∧ (∀ b o, s.heap.get? b = some o → g.get? b = some o)) E) F.called_set.init.plain F.entry_set_init (check_set_init_1 ty0 ?_)) fun r2 s2 hr2 => ?_
      · obtain ⟨⟨oc, od, odata, osl⟩, at1, ec, nl, ed⟩ := isl
        simp only at ec ed
        subst ec; subst ed
        have at2 : (s.heap.push (nset w)).get? l = some { cls := .type "list", dict := od, data := .seq its nl, slots := osl } := Heap.get?_push_of_some _ at1
        have s1 := F.sub_list_set; have s2 := F.sub_list_frozenset
        have nd : (Value.type "list" == Value.type "dict") = false := by decide
        have isl2 : (s.heap.push (nset w)).IsList l its := ⟨_, at2, rfl, nl, rfl⟩
        unfold Builtin.«set.__init__» noKeywords Builtin.Frozenset.updateFrom
        generalize eP : pyIter = PI
        wp_walk
        subst eP
        apply wpAny_pyIter_list isl2; apply wpAny_bind; apply wpAny_runValue
        have lt0 : l < s.heap.objs.size := Heap.lt_size at1
        have calm3 : A.in1.in1.in1.handled = none := by simp [calm]
        have neI : l ≠ (s.heap.push (nset w)).objs.size := by rw [Heap.size_push]; exact Nat.ne_of_lt (Nat.lt_succ_of_lt lt0)
        have nfp : s.heap.objs.size ∉ [(s.heap.push (nset w)).objs.size, l] := by
          rw [Heap.size_push]; intro z; rcases List.mem_cons.mp z with z | z; exact absurd z (Nat.ne_of_lt (Nat.lt_succ_self _)); exact absurd (List.mem_singleton.mp z) (Nat.ne_of_gt lt0)
        have val : ∀ (i : Nat) (v : Value), its[i]? = some v → ∃ k t, ns[i]? = some k ∧ v = .int k t := fun i v hv => by
          have hi : i < ns.length := by rw [← sz]; exact (Array.getElem?_eq_some_iff.mp hv).1
          obtain ⟨t, e⟩ := PyProof.Rows.IntsAre.int_at hin i v (by rwa [Array.getElem?_toList])
          exact ⟨ns[i], t, List.getElem?_eq_getElem hi, by rw [e, List.getD_eq_getElem?_getD, List.getElem?_eq_getElem hi]; rfl⟩
        refine set_update_ints ((Walks.list calm3 _ l neI its).toS) s.heap.objs.size nfp ns sz room val (its.size - 0) 0 _ (by omega) (Nat.zero_le _) ⟨⟨_, Heap.get?_push_size _ rfl, rfl, rfl⟩, (isl2.push _)⟩ ⟨0, Nat.le_refl 0, setR_new_at (Heap.get?_push_of_some _ at0)⟩ fun s' c' mv hc' hS' => ?_
        obtain ⟨g', g2, d', tk', os'⟩ := s'
        obtain rfl : g2 = s.gens := mv.gens
        obtain rfl : d' = s.drawn := mv.drawn
        obtain rfl : os' = s.os := mv.os
        apply wpAny_pure; show wpAny _ _ (ret Value.none) _ _ _
        rw [sz] at hc'
        refine wpAny_pure ⟨rfl, g', tk', c', rfl, hS', hc', fun b o e => ?_⟩
        have b0 : b < s.heap.objs.size := Heap.lt_size e
        exact mv.heap b o (by rw [Heap.size_push]; intro z; rcases List.mem_cons.mp z with z | z; exact absurd z (Nat.ne_of_lt b0); exact absurd (List.mem_singleton.mp z) (Nat.ne_of_lt (Nat.lt_succ_of_lt b0))) (Heap.get?_push_of_some _ (Heap.get?_push_of_some _ e))
      · cases r2 with
        | error e => exact hr2
        | ok fl2 => cases fl2 with
          | ret r =>
            obtain ⟨rfl, g, tk, c', rfl, hS', hc', hk'⟩ := hr2
            repeat (any_goals (first | assumption | wp_step))
            exact nx _ _ _ hS' hc' hk'
          | _ => exact hr2.elim
    | _ => exact hr.elim
end
section
variable {X : Cx}
def rSetL (K : PySem.W.Frag) (w : World) : List V → Hp → VK → Prop := fun vs H Q => ∃ (a : Addr) (ns : List Int), vs = [.ref a] ∧ (SqL K H a (ns.map V.int) ∨ SqT K H a (ns.map V.int)) ∧ ns.length < 64 ∧ ∀ p c, H p = none → c ≤ ns.length → Q (.ref p) (upd H p (SetO w p (fun j => decide (j ∈ ns)) c))
theorem cr_setL (hc : X.calm = true) : CallR X (.type "set") (rSetL X.K X.w) := by
  intro pins s σ H vs us Q I r h
  obtain ⟨a, ns, rfl, hs, h64, q⟩ := h
  rw [Vals.ref1 r]
  have fin : ∀ (g : Heap) (tk c : Nat), SetR X.w g s.heap.objs.size (fun j => decide (j ∈ ns)) c → c ≤ ns.length → (∀ b o, s.heap.get? b = some o → g.get? b = some o) → EP X pins σ Q (.ref s.heap.objs.size) { s with heap := g, toks := tk } := fun g tk c R hcn k =>
    ⟨.ref _, upd H s.heap.objs.size (SetO X.w s.heap.objs.size (fun j => decide (j ∈ ns)) c), I.laid (t' := tk) k (Nat.le_refl _) (setO_new R), rfl, q _ c (I.hok.fresh (Nat.le_refl _)) hcn⟩
  rcases hs with hs | hs
  · obtain ⟨its, rv, hl, _⟩ := I.list hs
    exact set_of_list (I.ok.hd hc) hl.isList (by simpa using rv.ints) (by unfold scanBound; omega) fin
  · obtain ⟨its, rv, hl, _⟩ := I.tuple hs
    exact call_set_tupI ns (I.ok.hd hc) (show s.heap.IsTuple a its.toArray from hl) (by simpa using rv.ints) (by unfold scanBound; omega) fin
end
end AV

set_option maxRecDepth 100000
set_option maxHeartbeats 1000000
namespace AV
open PySem PySem.Spec PyProof.Rows L2
variable [TabC]
/-! ### `*=` -/
section
variable {X : Cx} {Wx : WX} {x y : Str} {p p2 q2 spos pos : Pos} {e : Expr} {es : List Expr} {We Wd : WE} {Wa : WA}
def ipM : TIp := fun x y H Q => ∃ i j, x = .int i ∧ y = .int j ∧ CMul i j ∧ Q (.int (i * j)) H
theorem ip_mul : PIp X .Mult ipM := by
  intro pins s σ H x y v u Q I r1 r2 h
  obtain ⟨i, j, rfl, rfl, c, q⟩ := h
  obtain ⟨t, rfl⟩ := r1
  obtain ⟨t', rfl⟩ := r2
  exact imul_int (hm := CMul.ok c) ⟨.int _, H, I.tok _, ⟨_, rfl⟩, q⟩
def wAugM (i : Nat) (We : WE) : WS := fun R E ρ => match gt ρ i with | .val (.int a) => We (fun ex => R ex ρ) ρ fun d => (match d with | .int b => CMul a b ∧ E.nx (ρ.set i (.val (.int (a * b)))) | _ => False) | _ => False
def intSK (s : Slot) [K : Kn Int] : Prop := match s with | .val (.int a) => K.r a | _ => False
@[simp ↓] theorem intSK_int {a : Int} {Q : Int → Prop} : @intSK (.val (.int a)) ⟨Q⟩ = Q a := (rfl)
@[simp ↓] theorem wAugM_ {i : Nat} {R : RS} {E : EndsA} {ρ : Rho} : wAugM i We R E ρ = @intSK (gt ρ i) ⟨fun a => We (fun ex => R ex ρ) ρ fun d => @intK d ⟨fun b => ((-(2 ^ 64) < a ∧ a < 2 ^ 64) ∨ (-(2 ^ 64) < b ∧ b < 2 ^ 64)) ∧ E.nx (ρ.set i (.val (.int (a * b))))⟩⟩ := (rfl)
@[simp ↓] theorem wAug_ {i : Nat} {f : Int → Int → Int} {R : RS} {E : EndsA} {ρ : Rho} : wAug i f We R E ρ = @intSK (gt ρ i) ⟨fun a => We (fun ex => R ex ρ) ρ fun d => @intK d ⟨fun b => E.nx (ρ.set i (.val (.int (f a b))))⟩⟩ := (rfl)
theorem ds_augM (i : Nat) (hN' : X.N.Nodup) (he : DE X Wx e We) (hN : X.N[i]? = some y := by rfl) (hx : Loc X.env.scope y := by first | exact .inl rfl | exact .inr rfl) (hf : X.fn y = true ∨ X.env.scope.names.lookup y = some .local := by first | exact .inl rfl | exact .inr rfl) : DS X Wx (.AugAssign (.Name y p) .Mult e spos) (wAugM i We) := by
  obtain ⟨t, pe, q⟩ := he.ex
  refine ⟨⟨_, ps_aug hN' hN hx pe ip_mul hf, fun fr G ρ σ H R E F r hr ok w => ?_⟩⟩
  unfold wAugM at w
  split at w
  · rename_i a hi
    have s := r.slot i
    rw [hi] at s
    obtain ⟨v, e1, e2⟩ := s
    obtain rfl : v = .int a := e2
    refine ⟨_, sv_some.mp e1, q fr G ρ σ H _ _ _ r hr.e w fun u d G1 H1 s1 ru w1 => ?_⟩
    split at w1
    · rename_i b
      obtain rfl : u = .int b := ru
      exact ⟨a, b, rfl, rfl, w1.1, ok.nx G1 _ _ H1 (s1.rel.setVal i (d := .int (a * b)) rfl) w1.2⟩
    · exact w1.elim
  · exact w.elim
/-! ### sorted(set(l)) -/
def insS (k : Int) : List Int → List Int
  | [] => [k]
  | x :: xs => if k < x then k :: x :: xs else if k = x then x :: xs else x :: insS k xs
/-- the members, rising -/
def sset (ns : List Int) : List Int := ns.foldr insS []
theorem mem_insS {k j : Int} : ∀ {xs : List Int}, j ∈ insS k xs ↔ j = k ∨ j ∈ xs
  | [] => by simp [insS]
  | x :: xs => by
    unfold insS
    split
    · simp
    · split
      · rename_i h; subst h; simp
      · rw [List.mem_cons, mem_insS, List.mem_cons]
        constructor
        · rintro (h | h | h) <;> simp [h]
        · rintro (h | h | h) <;> simp [h]
theorem pw_insS {k : Int} : ∀ {xs : List Int}, xs.Pairwise (· < ·) → (insS k xs).Pairwise (· < ·)
  | [], _ => by simp [insS]
  | x :: xs, h => by
    unfold insS
    obtain ⟨h1, h2⟩ := List.pairwise_cons.mp h
    split
    · rename_i hk
      exact List.pairwise_cons.mpr ⟨fun y hy => by
        rcases List.mem_cons.mp hy with rfl | hy
        · exact hk
        · exact Int.lt_trans hk (h1 y hy), h⟩
    · split
      · exact h
      · refine List.pairwise_cons.mpr ⟨fun y hy => ?_, pw_insS h2⟩
        rcases mem_insS.mp hy with rfl | hy
        · omega
        · exact h1 y hy
theorem mem_sset {j : Int} : ∀ {ns : List Int}, j ∈ sset ns ↔ j ∈ ns
  | [] => by simp [sset]
  | n :: ns => by
    show j ∈ insS n (sset ns) ↔ _
    rw [mem_insS, mem_sset, List.mem_cons]
theorem pw_sset : ∀ ns : List Int, (sset ns).Pairwise (· < ·)
  | [] => .nil
  | n :: ns => pw_insS (pw_sset ns)
theorem rising_eq : ∀ {xs ys : List Int}, xs.Pairwise (· < ·) → ys.Pairwise (· < ·) → (∀ j, j ∈ xs ↔ j ∈ ys) → xs = ys
  | [], [], _, _, _ => rfl
  | [], y :: ys, _, _, h => by have := (h y).mpr (List.mem_cons_self ..); cases this
  | x :: xs, [], _, _, h => by have := (h x).mp (List.mem_cons_self ..); cases this
  | x :: xs, y :: ys, hx, hy, h => by
    obtain ⟨x1, x2⟩ := List.pairwise_cons.mp hx
    obtain ⟨y1, y2⟩ := List.pairwise_cons.mp hy
    have e : x = y := by
      rcases List.mem_cons.mp ((h x).mp (List.mem_cons_self ..)) with e | e
      · exact e
      · rcases List.mem_cons.mp ((h y).mpr (List.mem_cons_self ..)) with e2 | e2
        · exact e2.symm
        · have := y1 x e; have := x1 y e2; omega
    subst e
    congr 1
    refine rising_eq x2 y2 fun j => ⟨fun hj => ?_, fun hj => ?_⟩
    · rcases List.mem_cons.mp ((h j).mp (List.mem_cons_of_mem _ hj)) with e | e
      · subst e; exact absurd (x1 j hj) (by omega)
      · exact e
    · rcases List.mem_cons.mp ((h j).mpr (List.mem_cons_of_mem _ hj)) with e | e
      · subst e; exact absurd (y1 j hj) (by omega)
      · exact e
theorem sset_self {ns : List Int} (h : ns.Pairwise (· < ·)) : sset ns = ns := rising_eq (pw_sset ns) h fun _ => mem_sset
def bSSet : BS := fun ds Q => match ds with | [d] => ∃ ns : List Int, seqOf d = some (ns.map D.int) ∧ ns.length < 64 ∧ Q (.lst ((sset ns).map D.int)) | _ => False
theorem intsOf_ex {ds : List D} {Q : List Int → Prop} : (∃ ns : List Int, ds = ns.map D.int ∧ Q ns) ↔ @optK _ (intsOf ds) ⟨Q⟩ := by
  constructor
  · rintro ⟨ns, rfl, q⟩; exact ⟨ns, intsOf_ints ns, q⟩
  · rintro ⟨ns, e, q⟩; exact ⟨ns, intsOf_eq e, q⟩
@[simp ↓] theorem bSSet_lst {ds : List D} {Q : D → Prop} : @bK bSSet [.lst ds] ⟨Q⟩ = @optK _ (intsOf ds) ⟨fun ns => ns.length < 64 ∧ Q (.lst ((sset ns).map D.int))⟩ := by
  refine propext (Iff.trans ?_ intsOf_ex)
  show (∃ ns : List Int, seqOf (.lst ds) = some (ns.map D.int) ∧ _) ↔ _
  simp [seqOf]
@[simp ↓] theorem bSSet_tup {ds : List D} {Q : D → Prop} : @bK bSSet [.tup ds] ⟨Q⟩ = @optK _ (intsOf ds) ⟨fun ns => ns.length < 64 ∧ Q (.lst ((sset ns).map D.int))⟩ := by
  refine propext (Iff.trans ?_ intsOf_ex)
  show (∃ ns : List Int, seqOf (.tup ds) = some (ns.map D.int) ∧ _) ↔ _
  simp [seqOf]
theorem dn_sset (hc : X.calm = true) (hg : Gl X x) (hm : X.mg x = none) (hg2 : Gl X y) (hm2 : X.mg y = none) (ha : DAL X Wx (e :: es) Wa) (hv : bootBuiltins x = some (.builtin "sorted") := by rfl) (hv2 : bootBuiltins y = some (.type "set") := by rfl)
    (hn : x ≠ "__name__" := by decide) (hdb : (x == ("__debug__" : Str)) = false := by decide) (hn2 : y ≠ "__name__" := by decide) (hdb2 : (y == ("__debug__" : Str)) = false := by decide)
    (he : starEach (e :: es) X.env = (false, eval e X.env) :: starEach es X.env := by rfl) (hpl : (backTo p2 (starEach es X.env)).any (·.1) = false := by rfl)
    (he2 : starEach [.Call (.Name y q2) (e :: es) [] p2] X.env = (false, eval (.Call (.Name y q2) (e :: es) [] p2) X.env) :: starEach [] X.env := by rfl) (hpl2 : (backTo pos (starEach [] X.env)).any (·.1) = false := by rfl) :
    DN X Wx (.Call (.Name x p) [.Call (.Name y q2) (e :: es) [] p2] [] pos) (wB bSSet Wa) := by
  obtain ⟨t, pa, q⟩ := ha.ex
  refine ⟨⟨_, pe_callB (cr_sortedSet hc) hg hm hv (pa_cons (pe_callTy (cr_setL hc) hg2 hm2 hv2 pa hn2 hdb2 he hpl) pa_nil he2) hn hdb he2 hpl2, fun fr G ρ σ H R Qa Q rl hr w k => ?_⟩⟩
  refine q fr G ρ σ H R _ _ rl hr w fun vs ds G1 H1 s1 r1 w1 => ?_
  unfold bSSet at w1
  split at w1
  · obtain ⟨ns, e, h64, qa⟩ := w1
    obtain ⟨v, rfl, r2⟩ := r1.one
    obtain ⟨a, xs, rfl, sq, rs⟩ := r2.seq s1.rel e
    have := rs.ints
    subst this
    refine ⟨a, ns, rfl, sq, h64, fun b c nb hc => ?_⟩
    have s2 := Step.new (o := SetO X.w b (fun j => decide (j ∈ ns)) c) s1.rel nb
    refine ⟨b, _, c, rfl, upd_same, by omega, fun ms l pw hm _ nl => ?_⟩
    have s3 := Step.new (o := .lst (ms.map V.int)) s2.rel nl
    have em : ms = sset ns := rising_eq pw (pw_sset ns) fun j => by rw [hm j, mem_sset]; simp
    subst em
    exact k l _ ((sset ns).map D.int) _ _ ((s1.trans s2).trans s3) (s1.up _ (s2.up _ nl)) upd_same (fun g => by
      obtain ⟨o, z⟩ := s2.rel.gi l g
      rw [nl] at z; cases z) Reps.of_ints qa
  · exact w1.elim
/-! ### max(l, default=d) -/
def rMaxD (K : PySem.W.Frag) : List V → List V → Hp → VK → Prop := fun vs zs H Q => ∃ (a : Addr) (ns : List Int) (d : Int), vs = [.ref a] ∧ zs = [.int d] ∧ SqL K H a (ns.map V.int) ∧ Q (.int (if ns = [] then d else maxL ns)) H
theorem reads_ints {h : Heap} : ∀ {us : List Value} {ns : List Int}, IntsAre us ns → ReadsAll h us (ns.map PyData.int) []
  | _, _, .nil => .nil
  | _, _, .cons n t r => .cons (as := []) (bs := []) (.int n t) (reads_ints r)
theorem max_fold {n : Int} {ns : List Int} : ns.foldl max n = maxL (n :: ns) := by
  unfold maxL
  rw [List.max?_cons']; rfl
theorem depth_ints : ∀ ns : List Int, PyData.depthAll (ns.map PyData.int) ≤ 1
  | [] => by simp [PyData.depthAll]
  | n :: ns => by have := depth_ints ns; simp [PyData.depthAll, PyData.depth]; omega
theorem cr_maxD (hc : X.calm = true) (hu : X.A.units + 64 < cLine) : CallRK X (.builtin "max") [Str.ofString "default"] (rMaxD X.K) := by
  intro pins s σ H xs zs us ws Q I rx rz h
  obtain ⟨a, ns, d, rfl, rfl, hs, q⟩ := h
  obtain ⟨its, rv, hl, _⟩ := I.list hs
  rw [Vals.ref1 rx]
  obtain ⟨u, rfl, t, rfl⟩ := vals1 rz
  have al : PySem.W.AlikeAll (ns.map PyData.int) := by
    constructor
    · intro x hx y hy
      obtain ⟨i, _, rfl⟩ := List.mem_map.mp hx
      obtain ⟨j, _, rfl⟩ := List.mem_map.mp hy
      rfl
    · intro x hx
      obtain ⟨i, _, rfl⟩ := List.mem_map.mp hx
      intro z; cases z
  have hd := depth_ints ns
  refine PySem.W.max_list_default (I.ok.hd hc) hl.isList (xs := ns.map PyData.int) (by simpa using reads_ints rv.ints) al (by omega) (fun e h' tk k => ?_) (fun y ys i v h' tk bs e hv r k => ?_)
  · obtain rfl : ns = [] := by simpa using e
    exact ⟨.int d, H, I.kept k, ⟨_, rfl⟩, by simpa using q⟩
  · cases ns with
    | nil => cases e
    | cons n ns =>
      cases e
      rw [PySem.W.maxD_ints, max_fold] at r
      rw [if_neg (by simp)] at q
      cases r
      exact ⟨.int _, H, I.kept k, ⟨_, rfl⟩, q⟩
def wMaxD (Wa Wd : WE) : WE := fun R ρ Q => Wa R ρ fun l => Wd R ρ fun d => ∃ (ns : List Int) (k : Int), l = .lst (ns.map D.int) ∧ d = .int k ∧ Q (.int (if ns = [] then k else maxL ns))
@[simp ↓] theorem wMaxD_ {R : EX → Prop} {ρ : Rho} {Q : D → Prop} : wMaxD We Wd R ρ Q = We R ρ fun l => Wd R ρ fun d => @lstK l ⟨fun ds => @intK d ⟨fun k => @optK _ (intsOf ds) ⟨fun ns => Q (.int (if ns = [] then k else maxL ns))⟩⟩⟩ := by
  unfold wMaxD
  congr 1; funext l; congr 1; funext d
  refine propext ⟨?_, ?_⟩
  · rintro ⟨ns, k, rfl, rfl, q⟩
    exact ⟨ns, intsOf_ints ns, q⟩
  · intro h
    cases l <;> first | exact h.elim | skip
    cases d <;> first | exact h.elim | skip
    obtain ⟨ns, e, q⟩ := h
    exact ⟨ns, _, by rw [intsOf_eq e], rfl, q⟩
variable {a d : Expr} {kpos : Pos}
theorem de_maxD (hc : X.calm = true) (hu : X.A.units + 64 < cLine) (hg : Gl X x) (hm : X.mg x = none) (ha : DE X Wx a We) (hd : DE X Wx d Wd) (hv : bootBuiltins x = some (.builtin "max") := by rfl)
    (hn : x ≠ "__name__" := by decide) (hdb : (x == ("__debug__" : Str)) = false := by decide)
    (he : backTo pos (starEach [a] X.env) = (false, eval a X.env) :: backTo pos (starEach [] X.env) := by rfl) (he' : starEach [a] X.env = (false, eval a X.env) :: starEach [] X.env := by rfl) (hpl : (backTo pos (starEach [a] X.env)).any (·.1) = false := by rfl)
    (hall : (backToKw pos (keywordEach [⟨some ("default" : Str), d, kpos⟩] X.env)).all (·.1.isSome) = true := by rfl) (hnone : (backToKw pos (keywordEach [⟨some ("default" : Str), d, kpos⟩] X.env)).any (·.1.isNone) = false := by rfl) (hks : (backToKw pos (keywordEach [⟨some ("default" : Str), d, kpos⟩] X.env)).filterMap (·.1) = [Str.ofString "default"] := by rfl) :
    DE X Wx (.Call (.Name x p) [a] [⟨some ("default" : Str), d, kpos⟩] pos) (wMaxD We Wd) := by
  obtain ⟨ta, pa, qa⟩ := ha.ex
  obtain ⟨td, pd, qd⟩ := hd.ex
  refine ⟨⟨_, pe_callBK (cr_maxD hc hu) hg hm hv (pa_cons pa pa_nil he') (pk_cons pd pk_nil) hn hdb he hpl hall hnone hks, fun fr G ρ σ H R Qa Q rl hr w k => ?_⟩⟩
  refine qa fr G ρ σ H R _ _ rl hr w fun v l G1 H1 s1 r1 w1 => ?_
  refine qd fr G1 ρ σ H1 R _ _ s1.rel hr w1 fun u d G2 H2 s2 r2 w2 => ?_
  obtain ⟨ns, k', rfl, rfl, q⟩ := w2
  obtain rfl : u = .int k' := r2
  obtain ⟨p0, xs, rfl, g, e, rs⟩ := s2.rep r1
  have := rs.ints
  subst this
  exact ⟨p0, ns, k', rfl, rfl, .inl (.inl e), k _ (.int _) G2 H2 (s1.trans s2) rfl q⟩
end
end AV

set_option maxRecDepth 100000
set_option maxHeartbeats 1000000
namespace AV
open PySem PySem.Spec PyProof.Rows L2
variable [TabC]
section
variable {ρ : Rho} {g : WG} {Wt : WT} {We : WE}
/-- a comprehension of which nobody knows which items it takes -/
theorem comp_sub {α : Type} (enc f : α → D) {xs : List α} : ∀ {acc : List D} {Q : List D → Prop}, (∀ a ∈ xs, ∀ (K1 : D → Prop) (K0 : Prop), K1 (f a) → K0 → g (enc a) ρ fun ρ' => Wt (fun _ => False) ρ' fun k => if k = true then We (fun _ => False) ρ' K1 else K0) → (∀ ys : List α, ys.Sublist xs → Q (acc ++ ys.map f)) → @compK ρ (xs.map enc) acc ⟨g, Wt, We, Q⟩ := by
  induction xs with
  | nil => intro acc Q _ q; simpa using q [] (List.Sublist.refl _)
  | cons a xs ih =>
    intro acc Q h q
    rw [List.map_cons, compK_cons]
    refine h a (List.mem_cons_self ..) (fun y => @compK ρ (xs.map enc) (acc ++ [y]) ⟨g, Wt, We, Q⟩) (@compK ρ (xs.map enc) acc ⟨g, Wt, We, Q⟩) ?_ ?_
    · refine ih (fun b hb => h b (List.mem_cons_of_mem _ hb)) fun ys hy => ?_
      have := q (a :: ys) (List.Sublist.cons_cons a hy)
      simpa using this
    · exact ih (fun b hb => h b (List.mem_cons_of_mem _ hb)) fun ys hy => q ys (List.Sublist.cons a hy)
end
end AV

set_option maxRecDepth 100000
set_option maxHeartbeats 1000000
namespace AV
open PySem PySem.Spec PyProof.Rows L2
/-! ### all(l) of a list of tuples -/
section
variable {X : Cx}
def rAllT (K : PySem.W.Frag) : List V → Hp → VK → Prop := fun vs H Q => ∃ (a : Addr) (xs : List V) (ps : List PyData), vs = [.ref a] ∧ SqL K H a xs ∧ DpAll K H xs ps ∧ PyData.canLayAll0 ps = true ∧ (∀ p ∈ ps, p.fits63) ∧ Q (.bl (ps.all PyData.truthy)) H
theorem cr_allT (hc : X.calm = true) : CallR X (.builtin "all") (rAllT X.K) := by
  intro pins s σ H vs us Q I r h
  obtain ⟨a, xs, ps, rfl, hs, dp, lay, fit, q⟩ := h
  obtain ⟨its, rv, hl, _⟩ := I.list hs
  rw [Vals.ref1 r]
  obtain ⟨as, rd⟩ := Dp.readsAll I ps xs its dp rv
  exact PySem.W.all_list_data (I.ok.hd hc) hl.isList (by simpa using rd) (PyData.plainAll_of_canLay0 ps lay) fit fun h' tk k => ⟨.bl _, H, I.kept k, rfl, q⟩
end
variable [TabC]
def tupNe : D → Bool
  | .tup (_ :: _) => true
  | _ => false
def bAllT : BS := fun ds Q => match ds with | [.lst es] => (∀ e ∈ es, okM 63 e ∧ isTup e = true ∧ pln e = true) ∧ Q (.bl (es.all tupNe)) | _ => False
@[simp ↓] theorem bAllT_ {es : List D} {Q : D → Prop} : @bK bAllT [.lst es] ⟨Q⟩ = ((∀ e ∈ es, okM 63 e ∧ isTup e = true ∧ pln e = true) ∧ Q (.bl (es.all tupNe))) := (rfl)
theorem truthy_tup : ∀ {e : D}, isTup e = true → (toPy e).truthy = tupNe e
  | .tup [], _ => rfl
  | .tup (_ :: _), _ => rfl
  | .non, h => by cases h
  | .bl _, h => by cases h
  | .int _, h => by cases h
  | .str _, h => by cases h
  | .lst _, h => by cases h
  | .edic, h => by cases h
  | .dic _ _, h => by cases h
  | .scr _, h => by cases h
  | .ins _ _ _, h => by cases h
theorem ca_allT {X : Cx} : CalA X (rAllT X.K) bAllT := fun fr G ρ σ H vs ds Qa Q rl rs w k => by
  unfold bAllT at w
  split at w
  · rename_i es
    obtain ⟨hw, q⟩ := w
    obtain ⟨v, rfl, r1⟩ := rs.one
    obtain ⟨a, xs, rfl, sq, rs⟩ := r1.seqL rl rfl rfl
    have lay : PyData.canLayAll0 (toPys es) = true := ((okMs (n := 63) es).mpr fun d hd => (hw d hd).1).1
    refine ⟨a, xs, toPys es, rfl, sq, Reps.dp es xs lay rs, lay, fun p hp => ?_, ?_⟩
    · rw [toPys_map] at hp
      obtain ⟨e, he, rfl⟩ := List.mem_map.mp hp
      obtain ⟨_, h1, h2⟩ := hw e he
      cases e <;> simp [isTup] at h1
      simp at h2
      show ((toPys _).length : Int) < 2 ^ 63
      rw [toPys_map, List.length_map]; omega
    · have e1 : (toPys es).all PyData.truthy = es.all tupNe := by
        rw [toPys_map, List.all_map]
        rw [Bool.eq_iff_iff, List.all_eq_true, List.all_eq_true]
        exact ⟨fun h d hd => by rw [← truthy_tup (hw d hd).2.1]; exact h d hd, fun h d hd => by show (toPy d).truthy = true; rw [truthy_tup (hw d hd).2.1]; exact h d hd⟩
      rw [e1]
      exact k _ (.bl (es.all tupNe)) G H (.refl rl) rfl q
  · exact w.elim
end AV

set_option maxRecDepth 100000
set_option maxHeartbeats 2000000
/-! `if d.setdefault(k, v) != x:` of a new key -/
namespace AV
open PySem PySem.Spec PyProof.Rows L2
variable [TabC]
section
variable {X : Cx} {o e f : Expr}
def tSetdN (K : PySem.W.Frag) (td tk tv : TE) : TE := fun σ H Q => td σ H fun x H1 => IsDic K H1 x ∧ tk σ H1 fun z H2 => tv σ H2 fun y H3 => ∃ (G : GS) (q : D) (ks ds : List D) (b a : Addr) (as : List Addr) (vs : List V), z = .ref b ∧ x = .ref a ∧ okK 8 q = true ∧ ks.all isTup = true ∧ Rep K G H3 q (.ref b) ∧ Reps K G H3 ks (as.map .ref) ∧ Reps K G H3 ds vs ∧
  DicH H3 a ks ds (as.map .ref) vs ∧ dGet ks ds q = none ∧ ks.length < sizeLine ∧ Mut (H3 a) ∧ ((a == sysModules) = false → Q y (upd H3 a (DicO a (nkDs (ks ++ [q])) (as ++ [b]) (vs ++ [y]))))
theorem pe_setdN (hw : X.w = TabC.w) (hu : X.A.units + 64 < cLine) {td tk tv : TE} {apos cpos : Pos} (pd : PE X o td) (pk : PE X e tk) (pv : PE X f tv) (m : M2 X o "setdefault" apos e f cpos) : PE X (.Call (.Attribute o "setdefault" apos) [e, f] [] cpos) (tSetdN X.K td tk tv) := by
  constructor
  intro pins s σ H Q I h
  apply wpAny_Call_method m.base m.few m.line PySem.F.plainAttrs_dict PySem.F.slot_dict_setdefault PySem.F.type_dict_setdefault
  apply thn (pd.run pins s σ H _ I h)
  rintro u s1 ⟨x, H1, I1, rx, hd, h1⟩
  obtain ⟨a, rfl, t1, t2⟩ := isDic_at hw I1 hd
  cases rx
  refine ⟨t1, t2, ?_⟩
  rw [m.trees]
  apply Calls.callWith_builtin rfl
  apply Calls.evalArgs_plain
  apply Calls.spliced_cons
  apply thn (pk.run pins s1 σ H1 _ I1 h1)
  rintro u2 s2 ⟨z, H2, I2, rz, h2⟩
  apply Calls.spliced_cons
  apply thn (pv.run pins s2 σ H2 _ I2 h2)
  rintro r s3 ⟨y, H3, I3, ry, G, q, ks, ds, b, a', as, vs, rfl, e2, okq, ht, rq, rk, rd, hdic, hn, hl, mu, hQ⟩
  apply Calls.spliced_nil
  cases e2; cases rz
  obtain ⟨hsys, l1, l2, okk, nd, as2, us, e2, rv, hm⟩ := dic_at hw I3 rk rd hdic ht
  have e2 : as = as2 := (List.map_inj_right (fun a b h => by injection h)).mp e2
  subst e2
  have la : ks.length = as.length := by have := rk.length; simpa using this.symm
  have lu : us.length = ds.length := by rw [← rd.length, rv.length]
  have hg := at_dGet (q := q) la l1 rd rv
  rw [hn] at hg
  have ik := key_ok I3 okq rq
  refine call_meetsIn PySem.F.slot_dict_setdefault hm.typeIs PySem.F.entry_dict_setdefault (PySem.F.args_dict_setdefault_3 _ _ _) (meetsH_dict_setdefault (nestedKind X.prog X.w) a b hsys r) ⟨room8 hu, nkD q, _, ik, hm, by rw [List.length_zip, nkDs_len]; omega, fun p hp => by rw [hg] at hp; (cases hp), fun _ h' hm' hsame => ?_⟩
  rw [storedH_new hg] at hm'
  have ez : (nkDs ks).zip (as.zip us) ++ [(nkD q, b, r)] = (nkDs (ks ++ [q])).zip ((as ++ [b]).zip (us ++ [r])) := by
    rw [nkDs_append, zip_snoc (xs := as) (ys := us) (by omega)]
    have : nkDs [q] = [nkD q] := rfl
    rw [this, zip_snoc (by rw [nkDs_len, List.length_zip]; omega)]
  rw [ez] at hm'
  have he : ∃ u, h'.get? a = some u := by obtain ⟨o, _, _, h1, _⟩ := hm'; exact ⟨o, h1⟩
  exact ⟨y, _, I3.write (x := a) (e := a) mu (.inl rfl) (fun c u hc z => (hsame.2 c hc).trans z) he (dicO_ok hw (vals_snoc rv ry) hm'), ry, hQ hsys⟩
end
section
variable {X : Cx} {Wx : WX} {k value c : Expr} {sa sb : List Stmt} {Wk Wv Wc : WE} {Wa Wb : WS} {pos pos' pd apos cpos : Pos} {x : Str}
def wSetdIf (i : Nat) (Wk Wv Wc : WE) (Wa Wb : WS) : WS := fun RR E ρ => @dowS (gt ρ i) ⟨fun ks ds => ks.all isTup = true ∧ Wk (fun ex => RR ex ρ) ρ fun q => Wv (fun ex => RR ex ρ) ρ fun v => isTup q = true ∧ okK 8 q = true ∧ ks.all isTup = true ∧ dGet ks ds q = none ∧ ks.length < 16777216 ∧
  Wc (fun ex => RR ex (ρ.set i (.dow (ks ++ [q]) (ds ++ [v])))) (ρ.set i (.dow (ks ++ [q]) (ds ++ [v]))) fun z => oNe v z fun d => match d with | .bl b => if b = true then Wa RR E (ρ.set i (.dow (ks ++ [q]) (ds ++ [v]))) else Wb RR E (ρ.set i (.dow (ks ++ [q]) (ds ++ [v]))) | _ => False⟩
@[simp ↓] theorem wSetdIf_ {i : Nat} {RR : RS} {E : EndsA} {ρ : Rho} : wSetdIf i Wk Wv Wc Wa Wb RR E ρ = @dowS (gt ρ i) ⟨fun ks ds => ks.all isTup = true ∧ Wk (fun ex => RR ex ρ) ρ fun q => Wv (fun ex => RR ex ρ) ρ fun v => isTup q = true ∧ okK 8 q = true ∧ ks.all isTup = true ∧ dGet ks ds q = none ∧ ks.length < 16777216 ∧
  Wc (fun ex => RR ex (ρ.set i (.dow (ks ++ [q]) (ds ++ [v])))) (ρ.set i (.dow (ks ++ [q]) (ds ++ [v]))) fun z => @opK oNe v z ⟨fun d => @blK d ⟨fun b => if b = true then Wa RR E (ρ.set i (.dow (ks ++ [q]) (ds ++ [v]))) else Wb RR E (ρ.set i (.dow (ks ++ [q]) (ds ++ [v])))⟩⟩⟩ := (rfl)
theorem ds_setdIf (i : Nat) (hw : X.w = TabC.w) (hu : X.A.units + 64 < cLine) (hk : DE X Wx k Wk) (hv : DE X Wx value Wv) (hc : DE X Wx c Wc) (ha : DSs X Wx sa Wa) (hb : DSs X Wx sb Wb)
    (hN : X.N[i]? = some x := by rfl) (hvs : Vis X.env.scope x := by first | exact Or.inl rfl | exact Or.inr (Or.inl rfl) | exact Or.inr (Or.inr rfl)) (hd : (x == ("__debug__" : Str)) = false := by decide)
    (hcd : (x == ("__classdict__" : Str)) = false := by decide) (m : M2 X (.Name x pd) "setdefault" apos k value cpos := by exact ⟨rfl, rfl, rfl, rfl⟩) (hm : behindInMarks .NotEq c = false := by first | exact nomark _ | rfl) :
    DS X Wx (.If (.Compare (.Call (.Attribute (.Name x pd) "setdefault" apos) [k, value] [] cpos) [.NotEq] [c] pos) sa sb pos') (wSetdIf i Wk Wv Wc Wa Wb) := by
  obtain ⟨tk, pk, qk⟩ := hk.ex
  obtain ⟨tv, pv, qv⟩ := hv.ex
  obtain ⟨tc, pc, qc⟩ := hc.ex
  obtain ⟨ta, pa, qa⟩ := ha.ex
  obtain ⟨tb, pb, qb⟩ := hb.ex
  obtain ⟨r, ho, hop⟩ := (cmp_ne hu).ex
  refine ⟨⟨_, ps_if (pt_cmpR ho (pe_setdN hw hu (pe_var hN hvs hd hcd) pk pv m) pc hm) pa pb, fun fr G ρ σ H R E F rl hr ok w => ?_⟩⟩
  unfold wSetdIf at w
  cases e : gt ρ i with
  | dow ks ds =>
    rw [e] at w
    obtain ⟨t3', w⟩ := w
    have sl := rl.slot i
    rw [e] at sl
    obtain ⟨a, xs, vs, e1, rk0, rd0, hdic0, _⟩ := sl
    refine ⟨.ref a, sv_some.mp e1, ⟨a, ks, ds, xs, vs, G, rfl, rk0, rd0, hdic0, t3'⟩, ?_⟩
    refine qk fr G ρ σ H _ _ _ rl hr.e w fun z q G1 H1 s1 rq1 w1 => ?_
    refine qv fr G1 ρ σ H1 _ _ _ s1.rel hr.e w1 fun y d G2 H2 s2 ry w2 => ?_
    obtain ⟨t1, t2, t3, t4, t5, w2⟩ := w2
    have rq := s2.rep rq1
    have sl := s2.rel.slot i
    rw [e] at sl
    obtain ⟨a', xs, vs, e1', rk, rd, hdic, ng, h0⟩ := sl
    rw [e1] at e1'
    cases e1'
    cases q <;> simp [isTup] at t1
    rename_i zs
    have rq' := rq
    obtain ⟨b, bs, rfl, qb2, rb2⟩ := rq
    obtain ⟨l1, l2, hcase⟩ := id hdic
    have hkeys : ∃ as : List Addr, xs = as.map .ref ∧ okKs 8 ks = true ∧ (nkDs ks).Nodup ∧ Mut (H2 a) := by
      rcases hcase with ⟨is, rfl, _, e3⟩ | ⟨as, e1, _, e3, e4, _, e6⟩
      · cases is with
        | cons i is => simp [isTup] at t3
        | nil => cases rk; exact ⟨[], rfl, rfl, by simp [nkDs], by rw [e3]; exact True.intro⟩
      · exact ⟨as, e1, e3, e4, by rw [e6]; exact True.intro⟩
    obtain ⟨as, rfl, ok3, nd, mu⟩ := hkeys
    refine ⟨G2, .tup zs, ks, ds, b, a, as, vs, rfl, rfl, t2, t3, rq', rk, rd, hdic, t4, by rw [sizeLine_eq]; exact t5, mu, fun hsys => ?_⟩
    obtain ⟨up, ust⟩ := s2.rel.updD (ks' := ks ++ [.tup zs]) (ds' := ds ++ [d]) (xs := (as ++ [b]).map .ref) (vs := vs ++ [y]) e e1
      (fun st => by rw [List.map_append]; exact (Reps.stab st (fun _ h => h) ks _ rk).append (.one (Rep.stab st (fun _ h => h) _ _ rq')))
      (fun st => (Reps.stab st (fun _ h => h) ds vs rd).append (.one (Rep.stab st (fun _ h => h) d y ry)))
      ⟨by simp [l1], by rw [List.length_append, sizeLine_eq]; simp; omega, .inr ⟨as ++ [b], rfl, by rw [List.all_append, t3]; rfl, by rw [okKs_append, ok3]; simp [okKs, t2], by
        rw [nkDs_append]
        have hn := nodup_new l1 t4
        exact List.nodup_append.mpr ⟨nd, by simp [nkDs], fun x hx y hy z => by
          have hy : y = nkD (.tup zs) := by simpa [nkDs] using hy
          subst hy; subst z; exact hn hx⟩, hsys, upd_same⟩⟩
    have ry2 := Rep.stab ust (fun _ h => h) d y ry
    refine qc fr G2 _ σ _ _ _ _ up hr.e w2 fun v2 d2 G3 H3 s3 r3 w3 => ?_
    refine hop fr G3 _ σ H3 y v2 d d2 _ _ s3.rel (.inl (s3.rep ry2)) (.inl r3) w3 fun v3 d3 G4 H4 s4 r4 w4 => ?_
    cases d3 with
    | bl z =>
      refine ⟨z, r4, ?_⟩
      cases z with
      | true => exact qa fr G4 _ σ H4 R E F s4.rel hr ok w4
      | false => exact qb fr G4 _ σ H4 R E F s4.rel hr ok w4
    | _ => exact w4.elim
  | _ => rw [e] at w; exact w.elim
end
end AV

set_option maxRecDepth 100000
set_option maxHeartbeats 2000000
namespace AV
open PySem PySem.Spec PyProof.Rows L2
variable [TabC]
/-! defs that tell a pair of new lists -/
theorem mkP_no {K : PySem.W.Frag} {fr : Fr} {G : GS} {σ : L2.St} {H : Hp} (r : Rel K fr G mkP σ H) : False := by
  have s := r.slot 0
  obtain ⟨v, _, a, xs, vs, _, _, _, _, h, _⟩ := s
  simp at h
def spT (K : PySem.W.Frag) (φ : AS) : Sp := fun vs H Q E => ∃ G ds Qa R, GOk G H ∧ Reps K G H ds vs ∧ φ ds Qa R ∧
  (∀ t a b xs ys as bs G' H', Post K none G H G' H' → H a = none → H b = none → a ≠ b → H' t = some (.tup [.ref a, .ref b]) → G' a → G' b → H' a = some (.lst as) → H' b = some (.lst bs) → bs.length = ys.length → Rep K G' H' (.tup [.lst xs, .lst ys]) (.ref t) → Qa (.tup [.lst xs, .lst ys]) → Q (.ref t) H') ∧
  ∀ ex cls dd G' H', Post K none G H G' H' → ExRep K G' H' ex cls dd → R ex → E cls dd H'
section
variable {P : Program} {w : World} {K : PySem.W.Frag} {mg : Str → Option Value} {base : Heap} {x qual : Str} {st : Stmt} {f : Addr} {fd : FuncData} {N ps : List Str} {k : Nat} {φ : AS} {Wb : WS}
theorem Good.vT (F : Good P w K mg base k x ps (spT K φ)) : Good P w K mg base k x ps (spV K φ) := by
  obtain ⟨f, fd, h1, h2, h3, h4⟩ := F.ex
  exact ⟨f, fd, h1, h2, h3, h4.imp fun vs H Q E ⟨G, ds, Qa, R, g, r, p, kv, ke⟩ => ⟨G, ds, Qa, R, g, r, p, fun t a b xs ys as bs G' H' po _ _ _ _ _ _ _ _ _ rp q => kv _ _ G' H' po rp q, ke⟩⟩
theorem fnT (F : Fun K x qual st f fd) (S : FnScope N ps (defScope st))
    (hb : ∀ (cdv : Value) (A : Around) (outer : List Env) (s : Shared) (H : Hp) (E : XK), Room k (A.deeper (envOfC qual (defScope st) s.heap.objs.size f cdv)) → DSs (cxOf (L2.CX P w) P w K mg base N qual (defScope st) f cdv A outer s H E) (fun cls d _ H => E cls d H) (defBody st) Wb)
    (hφ : ∀ ds Q R, φ ds Q R → ds.length = ps.length ∧ Wb (fun ex _ => R ex) ⟨fun _ => False, fun ρ d => ρ = mkP ∧ Q d, fun _ => False, fun _ => False⟩ (slots0 N ps ds)) : FnOk P w K mg base (L2.CX P w) (k + 1) f fd ps (spT K φ) := by
  refine F.okX S (fun vs H Q E h => ?_) (fun cdv A outer s H vs Q E hr h => ?_)
  · obtain ⟨G, ds, Qa, R, _, rs, w, _⟩ := h
    rw [rs.length]; exact (hφ ds Qa R w).1
  · obtain ⟨G, ds, Qa, R, gi, rs, w, kv, ke⟩ := h
    obtain ⟨t, p, q⟩ := (hb cdv A outer s H E hr).ex
    refine ⟨t, p, ?_⟩
    obtain ⟨hl, w⟩ := hφ ds Qa R w
    have hvl := rs.length
    have hpl : ps.length ≤ N.length := by have := congrArg List.length S.pre; rw [List.length_take] at this; omega
    refine q ⟨H, none, G, H, fun _ => False, fun _ => False, by simp, gi.ht⟩ G _ (start N vs) H _ _ _ ?_ (fun ex cls d G' ρ' σ' H' hR er rl => ke ex cls d G' H' rl.post er hR) ⟨fun G' ρ' σ' H' rl (z : False) => z.elim, fun v d G' ρ' σ' H' rl rv (z : ρ' = mkP ∧ Qa d) => ?_, fun _ _ _ _ _ z => z, fun _ _ _ _ _ z => z, fun v d G' ρ' σ' H' rl hf rv z => ?_⟩ w
    · refine ⟨fun _ h => h, fun _ h => .inl h, gi.gi, fun _ _ _ _ h => h, fun _ h => (by cases h), fun i => (start_val rs i).1, fun i j a _ m => ((start_val (K := K) (fr := ⟨H, none, G, H, fun _ => False, fun _ => False, by simp, gi.ht⟩) (m := N.length - ps.length) (n := 0) rs i).2 m).elim, ?_, .refl, fun _ h => h.elim, fun _ h => h.elim, gi.tb, gi.tbs⟩
      unfold L2.start slots0
      simp only [List.length_append, List.length_map, List.length_replicate]
      omega
    · obtain ⟨rfl, _⟩ := z
      exact (mkP_no rl).elim
    · rcases hf with ⟨a, es, rfl, rfl, h0⟩ | ⟨t, a, b, xs, ys, as, bs, rfl, rfl, e, ab, ha, hb, ga, gb, qa, qb, hl⟩
      · obtain ⟨z, _⟩ := z
        simp [mkDR, mkP, mkR] at z
      · exact kv t a b xs ys as bs G' H' rl.post ha hb ab e ga gb qa qb hl rv z.2
theorem goodT (A : FnAt K mg x st ps) (S : FnScope N ps (defScope st)) (hb : HB P w K mg base k x st N Wb)
    (hφ : ∀ ds Q R, φ ds Q R → ds.length = ps.length ∧ Wb (fun ex _ => R ex) ⟨fun _ => False, fun ρ d => ρ = mkP ∧ Q d, fun _ => False, fun _ => False⟩ (slots0 N ps ds)) : Good P w K mg base (k + 1) x ps (spT K φ) := by
  obtain ⟨f, fd, F, hm, b⟩ := A.ex
  exact ⟨f, fd, hm, F.kp, b, fnT F S (hb.use f) hφ⟩
end
def wRetPO (i j : Nat) : WS := fun _ E ρ => ownK (gt ρ i) (K := ⟨fun xs => ownK (gt ρ j) (K := ⟨fun ys => E.rt mkP (.tup [.lst xs, .lst ys])⟩)⟩)
@[simp ↓] theorem wRetPO_ {i j : Nat} {R : RS} {E : EndsA} {ρ : Rho} : wRetPO i j R E ρ = @ownK (gt ρ i) ⟨fun xs => @ownK (gt ρ j) ⟨fun ys => E.rt mkP (.tup [.lst xs, .lst ys])⟩⟩ := (rfl)
def wRetPN (W1 W2 : WE) : WS := fun R E ρ => W1 (fun ex => R ex ρ) ρ fun d => lstK d (K := ⟨fun xs => W2 (fun ex => R ex ρ) ρ fun d2 => lstK d2 (K := ⟨fun ys => E.rt mkP (.tup [.lst xs, .lst ys])⟩)⟩)
@[simp ↓] theorem wRetPN_ {W1 W2 : WE} {R : RS} {E : EndsA} {ρ : Rho} : wRetPN W1 W2 R E ρ = W1 (fun ex => R ex ρ) ρ fun d => @lstK d ⟨fun xs => W2 (fun ex => R ex ρ) ρ fun d2 => @lstK d2 ⟨fun ys => E.rt mkP (.tup [.lst xs, .lst ys])⟩⟩ := (rfl)
section
variable {X : Cx} {Wx : WX} {x y : Str} {p p2 pos pos2 : Pos} {e1 e2 : Expr} {W1 W2 : WE} {k : Nat}
theorem ds_retPN (h1 : DN X Wx e1 W1) (h2 : DN X Wx e2 W2) (s1 : starEach [e1, e2] X.env = (false, eval e1 X.env) :: starEach [e2] X.env := by rfl) (s2 : starEach [e2] X.env = (false, eval e2 X.env) :: starEach [] X.env := by rfl) :
    DS X Wx (.Return (some (.Tuple [e1, e2] k pos)) pos2) (wRetPN W1 W2) := by
  obtain ⟨t1, p1, q1⟩ := h1.ex
  obtain ⟨t2, p2, q2⟩ := h2.ex
  refine ⟨⟨_, ps_ret (pe_tup (pa_cons p1 (pa_cons p2 pa_nil s2) s1)), fun fr G ρ σ H R E F r hr ok w => ?_⟩⟩
  refine q1 fr G ρ σ H _ _ _ r hr.e w fun a xs ds G1 H1 st1 np e ng rs qa => ?_
  have st1' := st1.take r np e
  have ra : Rep X.K (fun b => G1 b ∨ b = a) H1 (.lst ds) (.ref a) := ⟨a, xs, rfl, .inr rfl, e, Reps.stab .refl (fun _ h => .inl h) ds xs rs⟩
  refine q2 fr _ ρ σ H1 _ _ _ st1'.rel hr.e qa fun b ys es G2 H2 st2 np2 e2 ng2 rs2 qa2 => ?_
  have st2' := st2.take st1'.rel np2 e2
  have rb : Rep X.K (fun c => G2 c ∨ c = b) H2 (.lst es) (.ref b) := ⟨b, ys, rfl, .inr rfl, e2, Reps.stab .refl (fun _ h => .inl h) es ys rs2⟩
  have ra2 := st2'.rep ra
  refine ⟨by rw [← line_eq]; simp, fun t nt => ?_⟩
  have st3 := Step.new (o := .tup [.ref a, .ref b]) st2'.rel nt
  exact ok.rf (.ref t) (.tup [.lst ds, .lst es]) _ ρ σ _ st3.rel (.inr ⟨t, a, b, ds, es, xs, ys, rfl, rfl, upd_same, (fun z => by rw [← z, e] at np2; cases np2), r.h0 np, st1'.rel.h0 np2, st2'.gg a (.inr rfl), .inr rfl, (st3.stab.g a (st2'.gg a (.inr rfl))).trans ((st2'.stab.g a (.inr rfl)).trans e), (st3.stab.g b (.inr rfl)).trans e2, rs2.length⟩)
    ⟨t, [.ref a, .ref b], rfl, .of upd_same, .ref a, [.ref b], rfl, st3.rep ra2, .ref b, [], rfl, st3.rep rb, rfl⟩ qa2
theorem ds_retPO (i j : Nat) (hij : i ≠ j := by decide) (hN : X.N[i]? = some x := by rfl) (hv : Vis X.env.scope x := by first | exact Or.inl rfl | exact Or.inr (Or.inl rfl) | exact Or.inr (Or.inr rfl)) (hd : (x == ("__debug__" : Str)) = false := by decide) (hcd : (x == ("__classdict__" : Str)) = false := by decide)
    (hN2 : X.N[j]? = some y := by rfl) (hv2 : Vis X.env.scope y := by first | exact Or.inl rfl | exact Or.inr (Or.inl rfl) | exact Or.inr (Or.inr rfl)) (hd2 : (y == ("__debug__" : Str)) = false := by decide) (hcd2 : (y == ("__classdict__" : Str)) = false := by decide)
    (s1 : starEach [.Name x p, .Name y p2] X.env = (false, eval (.Name x p) X.env) :: starEach [.Name y p2] X.env := by rfl) (s2 : starEach [.Name y p2] X.env = (false, eval (.Name y p2) X.env) :: starEach [] X.env := by rfl) :
    DS X Wx (.Return (some (.Tuple [.Name x p, .Name y p2] k pos)) pos2) (wRetPO i j) := by
  refine ⟨⟨_, ps_ret (pe_tup (pa_cons (pe_var hN hv hd hcd) (pa_cons (pe_var hN2 hv2 hd2 hcd2) pa_nil s2) s1)), fun fr G ρ σ H R E F r hr ok w => ?_⟩⟩
  unfold wRetPO ownK at w
  split at w
  · rename_i oa ds hi
    dsimp only at w
    split at w
    · rename_i ob es hj
      have si := r.slot i
      rw [hi] at si
      obtain ⟨a, xs, ea, qa, _, _, h0, _⟩ := si
      have sj := r.slot j
      rw [hj] at sj
      obtain ⟨b, ys, eb, qb, rsb, _, h0', _⟩ := sj
      have lb := rsb.length
      have ab : a ≠ b := fun z => by
        subst z
        exact r.apart i j a hij (by rw [hi]; trivial) (by rw [hj]; trivial) ea eb
      have li : i < ρ.length := gt_lt (by rw [hi]; intro z; cases z)
      have lj : j < ρ.length := gt_lt (by rw [hj]; intro z; cases z)
      obtain ⟨G1, r1⟩ := r.move hi
      have hj1 : gt (ρ.set i (.val (.lst ds))) j = .own ob es := by rw [gt_set, if_neg (fun z => hij z.1.symm)]; exact hj
      obtain ⟨G2, r2⟩ := r1.move hj1
      have ri := r2.slot i
      rw [gt_set, if_neg (fun z => hij z.1), gt_set, if_pos ⟨rfl, li⟩] at ri
      have rj := r2.slot j
      rw [gt_set, if_pos ⟨rfl, by rw [List.length_set]; exact lj⟩] at rj
      obtain ⟨v, e3, rpa⟩ := ri
      rw [ea] at e3; cases e3
      obtain ⟨v, e3, rpb⟩ := rj
      rw [eb] at e3; cases e3
      have ga : G2 a := by
        obtain ⟨a', _, z, g, _⟩ := rpa
        cases z; exact g
      have gb : G2 b := by
        obtain ⟨a', _, z, g, _⟩ := rpb
        cases z; exact g
      refine ⟨_, sv_some.mp ea, _, sv_some.mp eb, by rw [← line_eq]; simp, fun t nt => ?_⟩
      have st3 := Step.new (o := .tup [.ref a, .ref b]) r2 nt
      exact ok.rf (.ref t) (.tup [.lst ds, .lst es]) _ _ σ _ st3.rel (.inr ⟨t, a, b, ds, es, xs, ys, rfl, rfl, upd_same, ab, h0, h0', ga, gb, (st3.stab.g a ga).trans qa, (st3.stab.g b gb).trans qb, lb⟩)
        ⟨t, [.ref a, .ref b], rfl, .of upd_same, .ref a, [.ref b], rfl, st3.rep rpa, .ref b, [], rfl, st3.rep rpb, rfl⟩ w
    · exact w.elim
  · exact w.elim
end
/-! a told pair, changed when it has been looked at -/
def okS : Slot → Bool
  | .un => true
  | .val _ => true
  | .stt => true
  | _ => false
theorem gt_all : ∀ {ρ : Rho}, ρ.all okS = true → ∀ j, okS (gt ρ j) = true
  | [], _, j => by cases j <;> rfl
  | s :: ρ, h, 0 => by simp at h; exact h.1
  | s :: ρ, h, j + 1 => gt_all (ρ := ρ) (by simp at h ⊢; exact h.2) j
theorem Rel.shrink {K : PySem.W.Frag} {fr : Fr} {G1 G3 : GS} {ρ : Rho} {σ : L2.St} {H1 H3 : Hp} {i : Nat} {s : Slot} {o : Option V} (r1 : Rel K fr G1 ρ σ H1) (r3 : Rel K fr G3 (ρ.set i s) (σ.set i o) H3) (st : Stab G1 H1 H3) (gg : ∀ b, G1 b → G3 b)
    (ok : ∀ j, j ≠ i → okS (gt ρ j) = true) : Rel K fr G1 (ρ.set i .un) (σ.set i o) H3 := by
  have r3' := r3.setU i
  rw [List.set_set] at r3'
  refine ⟨r1.g0, r1.gn, fun b g => ?_, r3.same, fun a e => ⟨(r1.sta a e).1, (r3.sta a e).2⟩, fun j => ?_, r3'.apart, r3'.len, r3.bst, r1.bg, fun b p => ⟨(r1.prv b p).1, (r3'.prv b p).2⟩, r1.tb, r3.tbs⟩
  · obtain ⟨o, e⟩ := r1.gi b g
    exact r3.gi b (gg b g)
  · by_cases hj : j = i ∧ i < ρ.length
    · rw [gt_set, if_pos hj]; trivial
    · have s3 := r3'.slot j
      rw [gt_set, if_neg hj] at s3 ⊢
      by_cases hji : j = i
      · have : gt ρ j = .un := Classical.byContradiction fun h => hj ⟨hji, hji ▸ gt_lt h⟩
        rw [this]; trivial
      · have ho := ok j hji
        have e : sv (σ.set i o) j = sv σ j := by rw [sv_set, if_neg (fun z => hji z.1)]
        have s1 := r1.slot j
        cases hs : gt ρ j with
        | un => trivial
        | val d =>
          rw [hs] at s1
          obtain ⟨v, ev, rv⟩ := s1
          exact ⟨v, by rw [e, ev], Rep.stab st (fun _ h => h) d v rv⟩
        | stt =>
          rw [hs] at s3
          obtain ⟨a, xs, q1, q2, q3, ng, q4⟩ := s3
          exact ⟨a, xs, q1, q2, q3, fun z => ng (gg a z), q4⟩
        | _ => rw [hs] at ho; cases ho
def llK (d : D) (K : List D → List D → Prop) : Prop := match d with | .tup [.lst xs, .lst ys] => K xs ys | _ => False
class KLL where
  r : List D → List D → Prop
def llP (d : D) [K : KLL] : Prop := llK d K.r
@[simp ↓] theorem llP_ {xs ys : List D} {Q : List D → List D → Prop} : @llP (.tup [.lst xs, .lst ys]) ⟨Q⟩ = Q xs ys := (rfl)
def wTold (i : Nat) (φ : AS) (Wa : WA) (Wc : WT) (Wb : WS) : WS := fun R E ρ => ((ρ.set i .un).all okS = true ∧ i < ρ.length) ∧ Wa (fun ex => R ex ρ) ρ fun ds =>
  φ ds (fun r => llK r fun xs ys => Wc (fun ex => R ex (ρ.set i (.val (.tup [.lst xs, .lst ys])))) (ρ.set i (.val (.tup [.lst xs, .lst ys]))) fun b => if b = true then Wb R { E with nx := fun _ => False } (ρ.set i (.val (.tup [.lst xs, .lst ys]))) else ys.length < 16777216 ∧ E.nx (ρ.set i .un)) (fun ex => R ex ρ)
@[simp ↓] theorem wTold_ {i : Nat} {φ : AS} {Wa : WA} {Wc : WT} {Wb : WS} {R : RS} {E : EndsA} {ρ : Rho} : wTold i φ Wa Wc Wb R E ρ = (((ρ.set i .un).all okS = true ∧ i < ρ.length) ∧ Wa (fun ex => R ex ρ) ρ fun ds =>
  @caK φ ds ⟨fun r => @llP r ⟨fun xs ys => Wc (fun ex => R ex (ρ.set i (.val (.tup [.lst xs, .lst ys])))) (ρ.set i (.val (.tup [.lst xs, .lst ys]))) fun b => if b = true then Wb R { E with nx := fun _ => False } (ρ.set i (.val (.tup [.lst xs, .lst ys]))) else ys.length < 16777216 ∧ E.nx (ρ.set i .un)⟩⟩ ⟨fun ex => R ex ρ⟩) := (rfl)
section
variable {X : Cx} {Wx : WX} {k n i1 i2 : Nat} {ps : List Str} {φ : AS} {f x : Str} {p pos pos1 pos2 pos3 posx px1 px2 pn pp1 pp2 q1 q2 a1 a2 c1 c2 sp1 sp2 s1 s2 : Pos} {e c : Expr} {es : List Expr} {Wa : WA} {Wc : WT} {Wb : WS} {body : List Stmt} {u1 u2 u3 : Nat}
theorem dss_told (i : Nat) (F : Good X.prog X.w X.K X.mg X.base k f ps (spT X.K φ)) (hr : Room n X.A) (hk : k ≤ n) (tk : Takes X Wx) (hN : X.N.Nodup) (ha : DA X Wx (e :: es) Wa) (hc : DT X Wx c Wc) (hb : DSs X Wx body Wb)
    (hi : X.N[i]? = some x := by rfl) (hx : Loc X.env.scope x := by first | exact .inl rfl | exact .inr rfl) (hv : Vis X.env.scope x := by first | exact Or.inl rfl | exact Or.inr (Or.inl rfl) | exact Or.inr (Or.inr rfl)) (hd : (x == ("__debug__" : Str)) = false := by decide) (hcd : (x == ("__classdict__" : Str)) = false := by decide)
    (hf : X.fn x = true ∨ X.env.scope.names.lookup x = some .local := by first | exact .inl rfl | exact .inr rfl)
    (hg : Gl X f := by rfl) (hdb : (f == ("__debug__" : Str)) = false := by decide)
    (he : starEach (e :: es) X.env = (false, eval e X.env) :: starEach es X.env := by rfl) (hpl : (backTo pos (starEach es X.env)).any (·.1) = false := by rfl)
    (hs : swapsWith (.Call (.Name f p) (e :: es) [] pos) (some (.Name x posx)) pos1.line X.env = pure false := by rfl)
    (hb1 : attributeBase (.Subscript (.Name x px1) (.Constant (.int 0) u1 q1) s1) "reverse" X.env (eval (.Subscript (.Name x px1) (.Constant (.int 0) u1 q1) s1) X.env) = eval (.Subscript (.Name x px1) (.Constant (.int 0) u1 q1) s1) X.env := by rfl) (hl1 : (a1.endLine == c1.line) = true := by rfl)
    (hs1 : swapsWith (.Call (.Attribute (.Subscript (.Name x px1) (.Constant (.int 0) u1 q1) s1) "reverse" a1) [] [] c1) none sp1.line X.env = pure false := by rfl)
    (hb2 : attributeBase (.Subscript (.Name x px2) (.Constant (.int 1) u2 q2) s2) "append" X.env (eval (.Subscript (.Name x px2) (.Constant (.int 1) u2 q2) s2) X.env) = eval (.Subscript (.Name x px2) (.Constant (.int 1) u2 q2) s2) X.env := by rfl)
    (hfew : ((backTo c2 (starEach [.Constant .none u3 pn] X.env)).all (fun x => !x.1) && (backToKw c2 (keywordEach [] X.env)).all (fun x => x.1.isSome)
      && decide ([Expr.Constant .none u3 pn].length + ([] : List Keyword).length + (if ([] : List Keyword).isEmpty then 0 else 1) < 30)) = true := by rfl)
    (hl2 : (a2.endLine == c2.line) = true := by rfl) (hst : starEach [.Constant .none u3 pn] X.env = (false, eval (.Constant .none u3 pn) X.env) :: starEach [] X.env := by rfl) (hplain : (backTo c2 (starEach [] X.env)).any (·.1) = false := by rfl)
    (hs2 : swapsWith (.Call (.Attribute (.Subscript (.Name x px2) (.Constant (.int 1) u2 q2) s2) "append" a2) [.Constant .none u3 pn] [] c2) none sp2.line X.env = pure false := by rfl) :
    DSs X Wx [.Assign [.Name x posx] (.Call (.Name f p) (e :: es) [] pos) pos1, .If c body [] pos3, .Expr (.Call (.Attribute (.Subscript (.Name x px1) (.Constant (.int 0) u1 q1) s1) "reverse" a1) [] [] c1) sp1,
      .Expr (.Call (.Attribute (.Subscript (.Name x px2) (.Constant (.int 1) u2 q2) s2) "append" a2) [.Constant .none u3 pn] [] c2) sp2] (wTold i φ Wa Wc Wb) := by
  obtain ⟨fa, fd, hm, hkp, hbd, F⟩ := F.ex
  obtain ⟨ta, pa, qa⟩ := ha.ex
  obtain ⟨tc, pc, qc⟩ := hc.ex
  obtain ⟨tb, pb, qb⟩ := hb.ex
  have pv : PE X (.Name x px1) (tVar i) := pe_var hi hv hd hcd
  have pv2 : PE X (.Name x px2) (tVar i) := pe_var hi hv hd hcd
  have f1 := ps_expr (pe_bm0 PySem.F.plainAttrs_list PySem.F.slot_list_reverse PySem.F.type_list_reverse mt_reverse (pe_ix ix_seq pv (pe_int (X := X) (i := 0) (j := u1) (pos := q1)) (fun _ _ => rfl)) hb1 hl1) hs1
  have f2 := ps_expr (pe_bm PySem.F.plainAttrs_list PySem.F.slot_list_append PySem.F.type_list_append mt_append (pe_ix ix_seq pv2 (pe_int (X := X) (i := 1) (j := u2) (pos := q2)) (fun _ _ => rfl)) (pa_cons (pe_non (X := X) (j := u3) (pos := pn)) pa_nil hst) hb2 hfew hl2 hst hplain) hs2
  refine ⟨⟨_, pss_cons (ps_set hN hi hx (pe_callS F (hr.mono hk) hg hm hkp hbd (passAt tk) pa hdb he hpl) hs hf) (pss_cons (ps_if pc pb pss_nil) (pss_cons f1 (pss_one f2))), fun fr G ρ σ H R E F0 rl hR ok w => ?_⟩⟩
  obtain ⟨hok, w⟩ := w
  refine qa fr G ρ σ H _ _ _ rl hR.e w fun vs ds G1 H1 st1 rs w1 => ?_
  have r1 := st1.rel
  refine ⟨G1, ds, _, _, r1.gok, rs, w1, fun t a b xs ys as bs G2 H2 po na nb ab et ga gb ea eb hbl rp qd => ?_, fun ex cls dd G2 H2 po rv qd => hR.e ex cls dd G2 H2 qd rv (po.step r1).rel⟩
  have st2 := po.step r1
  have r2 := st2.rel.setVal i rp
  have qd : Wc (fun ex => R ex (ρ.set i (.val (.tup [.lst xs, .lst ys])))) (ρ.set i (.val (.tup [.lst xs, .lst ys]))) fun b => if b = true then Wb R { E with nx := fun _ => False } (ρ.set i (.val (.tup [.lst xs, .lst ys]))) else ys.length < 16777216 ∧ E.nx (ρ.set i .un) := qd
  refine qc fr G2 _ _ H2 _ _ _ r2 hR.e qd fun bb G3 H3 st3 w3 => ?_
  cases bb with
  | true =>
    exact qb fr G3 _ _ H3 R { E with nx := fun _ => False } _ st3.rel hR ⟨fun G ρ σ H r w => w.elim, ok.rt, ok.bk, ok.ct, ok.rf⟩ w3
  | false =>
    obtain ⟨hys, w3⟩ := w3
    have e3 : H3 t = some (.tup [.ref a, .ref b]) := st3.stab.tup t _ et
    have ea3 := (st3.stab.g a ga).trans ea
    have eb3 := (st3.stab.g b gb).trans eb
    have s12 : Stab G1 H1 H3 := st2.stab.trans st3.stab st2.gg
    have hok2 : ∀ j, j ≠ i → okS (gt ρ j) = true := fun j hj => by
      have e : gt ρ j = gt (ρ.set i .un) j := by rw [gt_set, if_neg (fun z => hj z.1)]
      rw [e]
      exact gt_all hok.1 j
    have r4 := r1.shrink st3.rel s12 (fun b g => st3.gg b (st2.gg b g)) hok2
    have sti : (σ.set i (some (V.ref t)))[i]? = some (some (.ref t)) := List.getElem?_set_self (by rw [rl.len]; exact hok.2)
    have nga : ¬ G1 a := fun g => by
      obtain ⟨o, q⟩ := r1.gi a g
      rw [na] at q; cases q
    have ngb : ¬ G1 b := fun g => by
      obtain ⟨o, q⟩ := r1.gi b g
      rw [nb] at q; cases q
    have nmt : ∀ c, H1 c = none → ∀ j, isMut (gt (ρ.set i .un) j) → sv (σ.set i (some (V.ref t))) j ≠ some (.ref c) := fun c hc j m z => by
      rw [gt_set] at m
      by_cases hj : j = i ∧ i < ρ.length
      · rw [if_pos hj] at m; exact m
      · rw [if_neg hj] at m
        rw [sv_set, if_neg (fun z => hj ⟨z.1, hok.2⟩)] at z
        exact r1.not_mut hc j m z
    refine ⟨_, sti, .inr (.inl ⟨t, [.ref a, .ref b], 0, .ref a, rfl, rfl, .of e3, rfl, ?_⟩)⟩
    refine ⟨.inl ⟨rfl, as, .of ea3⟩, a, as, rfl, rfl, ea3, ?_⟩
    have r5 := r4.chg (ys := as.reverse) ea3 nga (r1.h0 na) (fun hs => fr.hs a hs (r1.h0 na)) (nmt a na)
    have eb5 : upd H3 a (.lst as.reverse) b = some (.lst bs) := by rw [upd_ne (fun z => ab z.symm)]; exact eb3
    have et5 : upd H3 a (.lst as.reverse) t = some (.tup [.ref a, .ref b]) := by rw [upd_ne (fun z => by rw [z, ea3] at e3; cases e3)]; exact e3
    refine ⟨_, sti, .inr (.inl ⟨t, [.ref a, .ref b], 1, .ref b, rfl, rfl, .of et5, rfl, ?_⟩)⟩
    refine ⟨.inl ⟨rfl, bs, .of eb5⟩, b, bs, .non, rfl, rfl, eb5, by rw [hbl, ← line_eq]; exact hys, ?_⟩
    exact ok.nx G1 _ _ _ (r5.chg (ys := bs ++ [.non]) eb5 ngb (r1.h0 nb) (fun hs => fr.hs b hs (r1.h0 nb)) (nmt b nb)) w3
end
end AV

set_option maxRecDepth 100000
set_option maxHeartbeats 3200000
namespace AV
open PySem PySem.Spec PyProof.Rows L2
/-! `{elt for t0 in i0 for t1 in i1}` of ints, no tests -/
abbrev set2 (elt t0 i0 t1 i1 : Expr) (scope : Scope) (pos : Pos) : Expr := .SetComp elt [⟨t0, i0, [], 0⟩, ⟨t1, i1, [], 0⟩] scope pos
section
variable {prog : Program} {w : World} {A : Around} {R : Result → Shared → Prop} {s : Shared} {elt t0 i0 t1 i1 : Expr} {scope : Scope} {pos : Pos} {it acc : Value} {env : Env}
abbrev okN (J : Nat → Shared → Prop) (n : Nat) : Result → Shared → Prop := fun r s' => match r with | .ok _ => ∃ m, m < n ∧ J m s' | .error _ => False
abbrev noE : Value → Shared → Prop := fun _ _ => False
theorem two_outer (hf : ∀ x, foldedSetIterable i1 env x = pure x) (J : Nat → Shared → Prop)
    (go : ∀ n s, J n s → wpAny (model prog w) A (pyNext it) (fun r s1 => match r with
      | none => R (.ok .next) s1
      | some v => wpAny (model prog w) A (letOwnedTupleGo t0 it v) (fun _ s2 => wpAny (model prog w) A (assign t0 env v) (fun _ s3 => wpAny (model prog w) A (eval i1 env) (fun x s4 => wpAny (model prog w) A (pyIter x)
          (fun j s5 => codeAny (model prog w) A (.compStart (set2 elt t0 i0 t1 i1 scope pos) 1 j acc env) (okN J n) s5) noE s4) noE s3) noE s2) noE s1) noE s)
    (n : Nat) (h : J n s) : codeAny (model prog w) A (.compLoop (set2 elt t0 i0 t1 i1 scope pos) 0 it acc env) R s := by
  refine codeAny_loop rfl J (fun n s hJ => ?_) n h
  show wpAny _ A ((compTurn (set2 elt t0 i0 t1 i1 scope pos) 0 it acc env).onRaise (fun x => do noteFrame x env; theTreesLotGoes x)) _ _ s
  refine wpAny_noted ?_
  show wpAny _ A (standAt i0.pos >>= _) _ _ s
  refine wpAny_bind (wpAny_standAt (wpAny_bind (wpAny_mono (go n s hJ) (fun r s1 h1 => ?_) fun _ _ e => e.elim)))
  match r, h1 with
  | none, h1 => exact wpAny_pure h1
  | some v, h1 =>
    refine wpAny_bind (wpAny_mono h1 (fun _ s2 h2 => wpAny_bind (wpAny_mono h2 (fun _ s3 h3 => ?_) fun _ _ e => e.elim)) fun _ _ e => e.elim)
    refine wpAny_bind (wpAny_pure ?_)
    show wpAny _ A (eval i1 env >>= _) _ _ s3
    refine wpAny_bind (wpAny_mono h3 (fun x s4 h4 => ?_) fun _ _ e => e.elim)
    refine wpAny_bind (wpAny_standAt (wpAny_bind (wpAny_of_eq (hf x) (wpAny_bind (wpAny_holding (wpAny_mono h4 (fun j s5 h5 => ?_) fun _ _ e => e.elim))))))
    refine wpAny_bind (wpAny_runOwn ?_)
    rw [Around.mark_none]
    refine codeAny_mono h5 fun r s' hr => ?_
    match r, hr with
    | .ok _, hr => first | exact wpAny_pure ⟨rfl, hr⟩ | exact wpAny_bind (wpAny_pure (wpAny_pure ⟨rfl, hr⟩))
    | .error _, hr => exact hr.elim
theorem two_inner (J : Nat → Shared → Prop)
    (go : ∀ n s, J n s → wpAny (model prog w) A (pyNext it) (fun r s1 => match r with
      | none => R (.ok .next) s1
      | some v => wpAny (model prog w) A (letOwnedTupleGo t1 it v) (fun _ s2 => wpAny (model prog w) A (assign t1 env v) (fun _ s3 => wpAny (model prog w) A (eval elt env) (fun x s4 =>
          wpAny (model prog w) A (call (.builtin "set.add") [acc, x]) (fun _ s5 => ∃ m, m < n ∧ J m s5) noE s4) noE s3) noE s2) noE s1) noE s)
    (n : Nat) (h : J n s) : codeAny (model prog w) A (.compLoop (set2 elt t0 i0 t1 i1 scope pos) 1 it acc env) R s := by
  refine codeAny_loop rfl J (fun n s hJ => ?_) n h
  show wpAny _ A ((compTurn (set2 elt t0 i0 t1 i1 scope pos) 1 it acc env).onRaise (fun x => do noteFrame x env; theTreesLotGoes x)) _ _ s
  refine wpAny_noted ?_
  show wpAny _ A (standAt i1.pos >>= _) _ _ s
  refine wpAny_bind (wpAny_standAt (wpAny_bind (wpAny_mono (go n s hJ) (fun r s1 h1 => ?_) fun _ _ e => e.elim)))
  match r, h1 with
  | none, h1 => exact wpAny_pure h1
  | some v, h1 =>
    refine wpAny_bind (wpAny_mono h1 (fun _ s2 h2 => wpAny_bind (wpAny_mono h2 (fun _ s3 h3 => ?_) fun _ _ e => e.elim)) fun _ _ e => e.elim)
    refine wpAny_bind (wpAny_pure ?_)
    show wpAny _ A ((eval elt env >>= _) >>= _) _ _ s3
    refine wpAny_bind (wpAny_bind (wpAny_mono h3 (fun x s4 h4 => wpAny_bind (wpAny_standAt (wpAny_bind (wpAny_mono h4 (fun _ s5 h5 => ?_) fun _ _ e => e.elim)))) fun _ _ e => e.elim))
    exact wpAny_pure (wpAny_pure ⟨rfl, h5⟩)
theorem two_start (h0 : codeAny (model prog w) A (.compLoop (set2 elt t0 i0 t1 i1 scope pos) 1 it acc env) R s)
    (h : wpAny (model prog w) A (pyIter it) (fun j s1 => codeAny (model prog w) A (.compLoop (set2 elt t0 i0 t1 i1 scope pos) 1 j acc env) R s1) (notedBy (model prog w) A env fun x s' => R (.error x) s') s) :
    codeAny (model prog w) A (.compStart (set2 elt t0 i0 t1 i1 scope pos) 1 it acc env) R s := by
  refine codeAny_of_tree ?_
  show wpAny _ _ ((compStart (set2 elt t0 i0 t1 i1 scope pos) 1 it acc env).onRaise (fun x => do noteFrame x env; standAt theWindowsPlace)) _ _ s
  refine wpAny_notedAt ?_
  unfold compStart
  show wpAny _ _ (ask >>= _) _ _ s
  refine wpAny_bind (wpAny_askSetting (wpAny_ite ?_))
  have again : ∀ (j : Value) (s1 : Shared), codeAny (model prog w) A (.compLoop (set2 elt t0 i0 t1 i1 scope pos) 1 j acc env) R s1 → Code.quiet (.compLoop (set2 elt t0 i0 t1 i1 scope pos) 1 j acc env) = true ∧ codeAny (model prog w) A (.compLoop (set2 elt t0 i0 t1 i1 scope pos) 1 j acc env) R s1 := fun _ _ q => ⟨rfl, q⟩
  split
  · first | exact wpAny_pure (again _ _ h0) | exact wpAny_bind (wpAny_pure (wpAny_pure (again _ _ h0)))
  · refine wpAny_bind (wpAny_rule ?_)
    show wpAny _ _ (standAt i1.pos >>= _) _ _ s
    exact wpAny_bind (wpAny_standAt (wpAny_bind (wpAny_mono h (fun j s1 q => wpAny_pure (again _ _ q)) fun _ _ e => e)))
end
end AV
namespace AV
open PySem PySem.Spec PyProof.Rows L2
/-- a walk of an iterator, by an invariant of one's choice -/
def runT (J : It) (step : V → Hp → (Hp → Prop) → Prop) (fin : Hp → Prop) (H : Hp) : Prop := ∃ W : Nat → Nat → Hp → Prop, (∃ m, W 0 m H) ∧ ∀ i m H, W i m H →
  (J.stop i H ∧ fin H) ∨ (J.go i H ∧ ∃ Nx : Hp → Prop, (∀ H', Nx H' → ∃ m', m' < m ∧ W (i + 1) m' H') ∧ ∀ x H', J.yld i H x H' → step x H' Nx)
abbrev put1 (w : World) (D : Addr) (S : Int → Bool) (n : Nat) (k : Int) : HO := SetO w D (fun j => S j || decide (j = k)) (if S k = true then n else n + 1)
def tS2 (w : World) (wi : TI) (g : TG) (wi1 : TI) (g1 : TG) (te : TE) (vs vs1 : List Nat) : TE := fun σ H Q => wi σ H fun J H1 => ∀ D, H1 D = none →
  runT J (fun x Ha Na => g x (wipe σ vs) Ha fun σ2 Hb => wipe σ2 vs = wipe σ vs ∧ wi1 σ2 Hb fun J1 Hc =>
    runT J1 (fun y Hd Nb => g1 y (wipe σ2 vs1) Hd fun σ3 He => wipe σ3 vs1 = wipe σ2 vs1 ∧ te σ3 He fun z Hf => ∃ (k : Int) (S : Int → Bool) (n : Nat), z = .int k ∧ Hf D = some (SetO w D S n) ∧ n + 1 < scanBound ∧ Nb (upd Hf D (put1 w D S n k))) Na Hc)
  (fun Hz => Q (.ref D) Hz) (upd H1 D (SetO w D (fun _ => false) 0))
section
variable {X : Cx}
theorem addI_ok {pins : List (Addr × Obj)} {σ : L2.St} {H : Hp} {s : Shared} {E : Value → Shared → Prop} {D : Addr} {S : Int → Bool} {n : Nat} {k : Int} {v : Value} {Q : Value → Shared → Prop} (I : Inv X pins σ H s) (hD : H D = some (SetO X.w D S n)) (room : n + 1 < scanBound) (hv : RelV (.int k) v)
    (h : ∀ s', Inv X pins σ (upd H D (put1 X.w D S n k)) s' → Q .none s') : wpAny (model X.prog X.w) X.A (call (.builtin "set.add") [.ref D, v]) Q E s := by
  obtain ⟨tk, rfl⟩ := hv
  refine setR_add (setO_get I hD) room fun h' sb new => h _ ?_
  obtain ⟨o, _, _, _, ho, _⟩ := id new
  exact I.write (e := D) (t' := s.toks + 1) (by rw [hD]; trivial) (.inl rfl) (fun b u hb hu => (sb.2 b hb).trans hu) ⟨o, ho⟩ (setO_new new)
variable {elt t0 i0 t1 i1 : Expr} {scope : Scope} {own : List (PySem.Str × Nat)} {pos : Pos} {wi wi1 : TI} {g g1 : TG} {te : TE} {vs1 : List Nat}
theorem pe_set2 (hc : X.calm = true) (hN : X.N.Nodup) (hi : PI X t0 i0 wi) (ok : BlkOk X.N X.env.scope scope own) (hv : ∀ i ∈ vs1, i ∈ own.map (·.2))
    (hg : ∀ (s : Shared) (H : Hp) (C : Addr) (cl : List (PySem.Str × Addr)) (fp : List Addr), PG (X.blk s H scope (compEnvC scope cl C X.env) fp) t0 g)
    (hi1 : ∀ (s : Shared) (H : Hp) (C : Addr) (cl : List (PySem.Str × Addr)) (fp : List Addr), PI (X.blk s H scope (compEnvC scope cl C X.env) fp) t1 i1 wi1)
    (hg1 : ∀ (s : Shared) (H : Hp) (C : Addr) (cl : List (PySem.Str × Addr)) (fp : List Addr), PG (X.blk s H scope (compEnvC scope cl C X.env) fp) t1 g1)
    (he : ∀ (s : Shared) (H : Hp) (C : Addr) (cl : List (PySem.Str × Addr)) (fp : List Addr), PE (X.blk s H scope (compEnvC scope cl C X.env) fp) elt te)
    (hs : ∀ x, foldedSetIterable i0 X.env x = pure x := by intro _; rfl) (hs1 : ∀ env x, foldedSetIterable i1 env x = pure x := by intro _ _; rfl) :
    PE X (set2 elt t0 i0 t1 i1 scope pos) (tS2 X.w wi g wi1 g1 te (own.map (·.2)) vs1) := by
  refine ⟨fun pins s σ H Q I h => ?_⟩
  rw [PpSet.eval_SetComp]
  have cells : ∀ y ∈ scope.names, y.2 = .free → ∃ c, X.env.cells.lookup y.1 = some c := fun y hy e => (ok.free y hy e).elim (fun k => I.ok.has _ (.inl k)) fun k => I.ok.has _ (.inr k)
  refine wpAny_comprehension_free (use := none) rfl hs (closure_ok cells) ok.kind (fun y hy e => by rw [ok.uniq y hy, e]) (thn (hi.run pins s σ H _ I h) fun xv sA hx => thn hx fun itv sB hB => ?_)
  obtain ⟨it, fp, tn, J, HB, rfl, IB, T, stB, fB, q⟩ := hB
  refine PpSet.newSet_ok (newEnv_comp ?_)
  generalize eD : sB.heap.objs.size = D
  have nD : HB D = none := IB.hok.fresh (Nat.le_of_eq eD)
  obtain ⟨W, ⟨m0, w0⟩, turn⟩ := q D nD
  generalize eHC : upd HB D (SetO X.w D (fun _ => false) 0) = HC at w0
  generalize eC : ({ sB with heap := sB.heap.push { cls := .type "set", dict := none, data := .set #[] 0 (.fresh 0 0 (!X.w.params.followText "set-order")) } } : Shared) = sC
  have hC : sC.heap = sB.heap.push { cls := .type "set", dict := none, data := .set #[] 0 (.fresh 0 0 (!X.w.params.followText "set-order")) } := by rw [← eC]
  have IC : Inv X pins σ HC sC := by
    rw [← eC, ← eHC]
    refine IB.laid (t' := sB.toks) (fun b o e => Heap.get?_push_of_some _ e) (Nat.le_of_eq eD) ?_
    rw [← eD]
    exact setO_new (setR_fresh X.w)
  have fC : ∀ b ∈ fp, FpOk X pins HC b ∧ b < sC.heap.objs.size := fun b hb => by
    obtain ⟨o, e, _⟩ := T.obj _ _ stB b hb
    have lt := Heap.lt_size e
    refine ⟨⟨?_, (fB b hb).2⟩, by rw [hC, Heap.size_push]; exact Nat.lt_succ_of_lt lt⟩
    rw [← eHC, upd_ne (by rw [← eD]; exact Nat.ne_of_lt lt)]
    exact (fB b hb).1
  have stC : tn 0 sC.heap := T.keep _ _ _ stB fun b _ o e => by rw [hC]; exact Heap.get?_push_of_some _ e
  have ID := block_start IC ok hN fC
  have pg := hg sC HC sC.heap.objs.size (cellsFrom (sC.heap.objs.size + 1) scope.names (cloFrom X.env.cells scope.names [])) fp
  have pi1 := hi1 sC HC sC.heap.objs.size (cellsFrom (sC.heap.objs.size + 1) scope.names (cloFrom X.env.cells scope.names [])) fp
  have pg1 := hg1 sC HC sC.heap.objs.size (cellsFrom (sC.heap.objs.size + 1) scope.names (cloFrom X.env.cells scope.names [])) fp
  have pe := he sC HC sC.heap.objs.size (cellsFrom (sC.heap.objs.size + 1) scope.names (cloFrom X.env.cells scope.names [])) fp
  show codeAny _ _ (.compStart (set2 elt t0 i0 t1 i1 scope pos) 0 (.ref it) (.ref D) (compEnvC scope (cellsFrom (sC.heap.objs.size + 1) scope.names (cloFrom X.env.cells scope.names [])) sC.heap.objs.size X.env)) (compPost (model X.prog X.w) X.A X.xe none _ (.ref D) sC.heap.objs.size) { sC with heap := pushCells (sC.heap.push { cls := .type "dict", data := .dict #[] }) scope.names }
  generalize ece : compEnvC scope (cellsFrom (sC.heap.objs.size + 1) scope.names (cloFrom X.env.cells scope.names [])) sC.heap.objs.size X.env = ce at ID pg pi1 pg1 pe ⊢
  have loc : ce.locals = sC.heap.objs.size := by rw [← ece]; rfl
  generalize eS : ({ sC with heap := pushCells (sC.heap.push { cls := .type "dict", data := .dict #[] }) scope.names } : Shared) = sD at ID ⊢
  have stD : tn 0 sD.heap := T.keep _ _ _ stC fun b _ o e => by rw [← eS]; exact pushCells_keeps _ _ _ _ (Heap.get?_push_of_some _ e)
  have nfp : ∀ b ∈ fp, HC b = none := fun b hb => (fC b hb).1.1
  let Y := X.blk sC HC scope ce fp
  have own0 : ∀ {τ : L2.St} {Ha : Hp} {sa : Shared}, Inv Y [] τ Ha sa → (∀ b ∈ fp, Ha b = none) → ∀ b ∈ fp, FpOk Y [] Ha b := fun {τ Ha sa} Ia hn b hb =>
    ⟨hn b hb, (Ia.ok.exf b hb).1, Ia.ok.exfs b hb, .inl hb, fun x c e => (Ia.ok.exf b hb).2 x c e, fun p hp => absurd (show p ∈ ([] : List (Addr × Obj)) ++ [] from hp) (by simp)⟩
  generalize evs : own.map (·.2) = vs at *
  let Jo : Nat → Shared → Prop := fun n sa => ∃ i Ha, Inv Y [] (wipe σ vs) Ha sa ∧ tn i sa.heap ∧ (∀ b ∈ fp, Ha b = none) ∧ W i n Ha
  have walk : codeAny (model X.prog X.w) X.A (.compLoop (set2 elt t0 i0 t1 i1 scope pos) 0 (.ref it) (.ref D) ce) (compPost (model X.prog X.w) X.A X.xe none (EP X pins σ Q) (.ref D) sC.heap.objs.size) sD := by
    refine two_outer (hs1 ce) Jo ?_ m0 ⟨0, HC, ID, stD, nfp, w0⟩
    rintro n s1 ⟨i, H1, I1, st1, n1, w1⟩
    rcases turn i n H1 w1 with ⟨stop, qz⟩ | ⟨gg, Na, hNa, step⟩
    · -- the end: back in the def
      refine thnF (T.done Y rfl rfl rfl hc i [] s1 _ H1 noE I1 (own0 I1 n1) st1 stop) fun r s2 ⟨hr, I2⟩ => ?_
      subst hr
      have back : Inv X pins σ H1 s2 := IC.call' (ch := fp) I2.os I2.base I2.hok I2.bare fun b hb => ⟨(fC b hb).1.2.2.2.1, (fC b hb).1.2.1, (fC b hb).1.2.2.2.2.1, (fC b hb).1.2.2.2.2.2⟩
      have nL : H1 ce.locals = none := I2.free
      obtain ⟨m, hn, _⟩ := I2.loc
      have hn : s2.heap.Ns ce.locals m := hn
      rw [loc] at hn nL
      obtain ⟨f0, f1, f2, f3, f4, f5⟩ := IC.fpOk (Nat.le_refl _) nL
      exact ⟨m, hn, fun h'' sb => ⟨.ref D, H1, back.turned (t' := s2.toks) (fun b o hb e => (sb.2 b hb).trans e) f0 f1 f3 f4 f5, rfl, qz⟩⟩
    · refine thnF (T.item Y rfl rfl rfl hc i [] s1 _ H1 noE I1 (own0 I1 n1) st1 gg) fun r s2 ⟨u, hr, h2⟩ => ?_
      subst hr
      refine thnF h2 fun _ s3 ⟨x, H3, I3, r3, y3, st3, n3⟩ => ?_
      let pl := pinsAt fp s3.heap
      have I3p : Inv Y ([] ++ pl) (wipe σ vs) H3 s3 := I3.pinned (own0 I3 n3) (T.obj _ _ st3)
      refine thnF (pg.run _ s3 _ H3 x u _ I3p r3 (step x H3 y3)) fun _ s4 ⟨σ4, H4, I4, hw4, q4⟩ => ?_
      -- what a turn owes at its end
      have fin : ∀ {τ : L2.St} {s' : Shared} {H' : Hp}, Inv Y ([] ++ pl) τ H' s' → (wipe σ vs).length = τ.length → (∀ (j : Nat) v, (wipe σ vs)[j]? = some (some v) → τ[j]? = some (some v)) → Na H' → ∃ m, m < n ∧ Jo m s' := fun {τ s' H'} I' hl hk nx => by
        obtain ⟨m', lt, w'⟩ := hNa H' nx
        have pin : ∀ b ∈ fp, ∀ o, s3.heap.get? b = some o → s'.heap.get? b = some o ∧ H' b = none := fun b hb o e => by
          have z := I'.pin (b, o) (List.mem_append_right _ (List.mem_append_right _ (mem_pinsAt hb e)))
          exact ⟨z.1, z.2.1⟩
        refine ⟨m', lt, i + 1, H', (I'.unpinned (pins := [])).weak hl hk, T.keep _ _ _ st3 fun b hb o e => (pin b hb o e).1, fun b hb => ?_, w'⟩
        obtain ⟨o, e, _⟩ := T.obj _ _ st3 b hb
        exact (pin b hb o e).2
      have len4 : (wipe σ vs).length = σ4.length := by rw [← hw4, wipe_length]
      have sub4 : ∀ (j : Nat) v, (wipe σ vs)[j]? = some (some v) → (wipe σ4 vs1)[j]? = some (some v) := fun j v e => by
        rw [← hw4] at e
        obtain ⟨e1, e2⟩ := wipe_some e
        rw [wipe_out fun z => e2 (hv j z)]
        exact e1
      refine thnF (pi1.run _ s4 σ4 H4 _ I4 q4) fun yv s5 hy => thnF hy fun jv s6 h6 => ?_
      obtain ⟨it1, fp1, tn1, J1, H6, ej, I6, T1, st6, f6, W1, ⟨k0, v0⟩, turn1⟩ := h6
      subst ej
      have own1 : ∀ {Ha : Hp}, (∀ b ∈ fp1, Ha b = none) → ∀ b ∈ fp1, FpOk Y ([] ++ pl) Ha b := fun hn b hb => ⟨hn b hb, (f6 b hb).2⟩
      let Ji : Nat → Shared → Prop := fun k sa => ∃ j Ha, Inv Y ([] ++ pl) (wipe σ4 vs1) Ha sa ∧ tn1 j sa.heap ∧ (∀ b ∈ fp1, Ha b = none) ∧ W1 j k Ha
      have walk1 : codeAny (model X.prog X.w) X.A (.compLoop (set2 elt t0 i0 t1 i1 scope pos) 1 (.ref it1) (.ref D) ce) (okN Jo n) s6 := by
        refine two_inner Ji ?_ k0 ⟨0, H6, I6.weak (wipe_length _ _) (fun j v e => (wipe_some e).1), st6, fun b hb => (f6 b hb).1, v0⟩
        rintro k s7 ⟨j, H7, I7, st7, n7, w7⟩
        rcases turn1 j k H7 w7 with ⟨stop1, nx1⟩ | ⟨gg1, Nb, hNb, step1⟩
        · refine thnF (T1.done Y rfl rfl rfl hc j _ s7 (wipe σ4 vs1) H7 noE I7 (own1 n7) st7 stop1) fun r s8 ⟨hr, I8⟩ => ?_
          subst hr
          exact fin I8 (len4.trans (wipe_length σ4 vs1).symm) sub4 nx1
        · refine thnF (T1.item Y rfl rfl rfl hc j _ s7 (wipe σ4 vs1) H7 noE I7 (own1 n7) st7 gg1) fun r s8 ⟨u1, hr, h8⟩ => ?_
          subst hr
          refine thnF h8 fun _ s9 ⟨x1, H9, I9, r9, y9, st9, n9⟩ => ?_
          have I9p := I9.pinned (own1 n9) (T1.obj _ _ st9)
          refine thnF (pg1.run _ s9 (wipe σ4 vs1) H9 x1 u1 _ I9p r9 (step1 x1 H9 y9)) fun _ sa ⟨σa, Ha, Ia, hwa, qa⟩ => ?_
          refine thnF (pe.run _ sa σa Ha _ Ia qa) fun z sb ⟨zv, Hb, Ib, rb, key, S, c, ez, hDb, room, nb⟩ => ?_
          subst ez
          refine addI_ok (X := Y) Ib hDb room rb fun sc Ic => ?_
          obtain ⟨m', lt, w'⟩ := hNb _ nb
          have pin : ∀ b ∈ fp1, ∀ o, s9.heap.get? b = some o → sc.heap.get? b = some o ∧ (upd Hb D (put1 X.w D S c key)) b = none := fun b hb o e => by
            have z := Ic.pin (b, o) (List.mem_append_right _ (List.mem_append_right _ (mem_pinsAt hb e)))
            exact ⟨z.1, z.2.1⟩
          refine ⟨m', lt, j + 1, _, Ic.unpinned.weak (by rw [← hwa, wipe_length]) (fun j v e => by rw [← hwa] at e; exact (wipe_some e).1), T1.keep _ _ _ st9 fun b hb o e => (pin b hb o e).1, fun b hb => ?_, w'⟩
          obtain ⟨o, e, _⟩ := T1.obj _ _ st9 b hb
          exact (pin b hb o e).2
      exact two_start walk1 (T1.self X.A 0 _ _ _ st6 walk1)
  exact PpSet.codeAny_compStart_set walk (T.self X.A 0 _ _ _ stD walk)
end
end AV

set_option maxRecDepth 100000
set_option maxHeartbeats 2000000
namespace AV
open PySem PySem.Spec PyProof.Rows L2
theorem set_code {w : World} {a : Addr} {q : Str} {S : Int → Bool} {n : Nat} : SetO w a S n ≠ LamX.CodeO a q := fun z => by
  unfold SetO LamX.CodeO at z
  injection z with h
  let co : Obj := { cls := .none, data := .fields #[.none, .str q default] }
  let h0 : Heap := { objs := Array.replicate a co }
  have hs : h0.objs.size = a := by simp [h0]
  have hg : (h0.push co).get? a = some co := by rw [← hs]; exact Heap.get?_push_size _ rfl
  have hp := congrFun h (h0.push co)
  obtain ⟨o, es, ep, t, e1, _, e2, _⟩ := hp.mpr ⟨co, _, _, hg, rfl, rfl⟩
  rw [hg] at e1
  cases e1
  cases e2
variable [TabC]
/-! sorted(a set comprehension of two clauses) -/
def inK (d : D) (K : Int → Prop) : Prop := match d with | .int k => K k | _ => False
def innS (g1 : WG) (We : WE) (ρ : Rho) : List D → List Int → (List Int → Prop) → Prop
  | [], acc, Q => Q acc
  | e :: es, acc, Q => g1 e ρ fun ρ' => We (fun _ => False) ρ' fun y => inK y fun k => acc.length < 64 ∧ innS g1 We ρ es (acc ++ [k]) Q
def cmpS (g : WG) (Wi1 : WI) (vs1 : List Nat) (g1 : WG) (We : WE) (ρ : Rho) : List D → List Int → (List Int → Prop) → Prop
  | [], acc, Q => Q acc
  | d :: ds, acc, Q => g d ρ fun ρ' => noMut ρ' vs1 ∧ Wi1 (fun _ => False) ρ' fun es => innS g1 We (wipeR ρ' vs1) es acc fun acc' => cmpS g Wi1 vs1 g1 We ρ ds acc' Q
def wSS2 (Wi : WI) (g : WG) (Wi1 : WI) (g1 : WG) (We : WE) (vs vs1 : List Nat) : WE := fun R ρ Q => noMut ρ vs ∧ Wi R ρ fun ds => cmpS g Wi1 vs1 g1 We (wipeR ρ vs) ds [] fun ns => ns.length < 64 ∧ Q (.lst ((sset ns).map D.int))
theorem stab_chgO {G : GS} {H : Hp} {D : Addr} {u u' : HO} (h : H D = some u) (n1 : ∀ xs, u ≠ .tup xs) (n2 : ∀ o v, u ≠ .frz o v) (ng : ¬ G D) : Stab G H (upd H D u') :=
  ⟨fun b zs q => by rw [upd_ne (fun e => by rw [e, h] at q; exact n1 _ (Option.some.inj q))]; exact q, fun b o v q => by rw [upd_ne (fun e => by rw [e, h] at q; exact n2 _ _ (Option.some.inj q))]; exact q, fun b g => by
    rw [upd_ne (fun e : b = D => ng (by rw [← e]; exact g))]⟩
/-- what stands while the set D' is made -/
structure CoreS (K : PySem.W.Frag) (w : World) (fr fr2 : Fr) (G1 : GS) (H1 : Hp) (D' : Addr) (ρ : Rho) (σ : L2.St) (G2 : GS) (H' : Hp) (ks : List Int) : Prop where
  rel : Rel K fr2 G2 ρ σ H'
  stab : Stab G1 H1 H'
  gg : ∀ b, G1 b → G2 b
  gn : ∀ b, G2 b → G1 b ∨ H1 b = none
  up : ∀ b, H' b = none → H1 b = none
  kp : ∀ b, fr.Pv b → H' b = H1 b
  hD : ∃ n, H' D' = some (SetO w D' (fun j => decide (j ∈ ks)) n) ∧ n ≤ ks.length
  ng : ¬ G2 D'
section
variable {K : PySem.W.Frag} {w : World} {fr fr2 : Fr} {G1 G2 G3 : GS} {H1 H' H3 : Hp} {D' : Addr} {ρ ρb : Rho} {σ σb : L2.St} {ks : List Int}
theorem CoreS.step (hfr : ({ fr with Pv := fun b => fr.Pv b ∨ b = D' } : Fr) = fr2) (c : CoreS K w fr fr2 G1 H1 D' ρ σ G2 H' ks) (s : Step K fr2 G2 ρb σb H' G3 H3) (rel : Rel K fr2 G3 ρ σ H3) : CoreS K w fr fr2 G1 H1 D' ρ σ G3 H3 ks where
  rel := rel
  stab := c.stab.trans s.stab c.gg
  gg := fun b h => s.gg b (c.gg b h)
  gn := fun b h => by
    rcases s.gnew b h with z | z
    · exact c.gn b z
    · exact .inr (c.up b z)
  up := fun b h => c.up b (s.up b h)
  kp := fun b h => by rw [s.keep b (by rw [← hfr]; exact .inl h)]; exact c.kp b h
  hD := by rw [s.keep D' (by rw [← hfr]; exact .inr rfl)]; exact c.hD
  ng := (rel.prv D' (by rw [← hfr]; exact .inr rfl)).1
theorem ext_notup {w : World} {a : Addr} {S : Int → Bool} {n : Nat} : (∀ xs, SetO w a S n ≠ .tup xs) ∧ ∀ o v, SetO w a S n ≠ .frz o v := ⟨fun _ z => (by unfold SetO at z; cases z), fun _ _ z => (by unfold SetO at z; cases z)⟩
theorem CoreS.put (h0 : fr2.H0 D' = none) (nst : fr2.st0 ≠ some D') (nP : ∀ b, fr.Pv b → b ≠ D') (nm : ∀ i, isMut (gt ρ i) → sv σ i ≠ some (.ref D')) {n : Nat} {k : Int} (c : CoreS K w fr fr2 G1 H1 D' ρ σ G2 H' ks)
    (e : H' D' = some (SetO w D' (fun j => decide (j ∈ ks)) n)) (hn : n ≤ ks.length) : CoreS K w fr fr2 G1 H1 D' ρ σ G2 (upd H' D' (put1 w D' (fun j => decide (j ∈ ks)) n k)) (ks ++ [k]) where
  rel := c.rel.chgO e ext_notup.1 ext_notup.2 (fun _ => set_code) c.ng h0 nst nm
  stab := c.stab.trans (stab_chgO e ext_notup.1 ext_notup.2 c.ng) c.gg
  gg := c.gg
  gn := c.gn
  up := fun b h => by
    unfold upd at h
    split at h
    · cases h
    · exact c.up b h
  kp := fun b h => by rw [upd_ne (nP b h)]; exact c.kp b h
  hD := by
    refine ⟨if (decide (k ∈ ks)) = true then n else n + 1, ?_, by simp; split <;> omega⟩
    rw [upd_same]
    have : (fun j => decide (j ∈ ks) || decide (j = k)) = fun j => decide (j ∈ ks ++ [k]) := by funext j; simp
    unfold put1
    rw [this]
  ng := c.ng
end
section
variable {X : Cx} {Wx : WX} {Wi Wi1 : WI} {g g1 : WG} {We : WE} {vs vs1 ws : List Nat}
theorem s2_go {wi : TI} (hsub : ∀ v ∈ ws, v ∈ vs) (hsub1 : ∀ v ∈ vs1, v ∈ vs)
    (qi : ∀ fr G ρ σ H R Qa Rr, Rel X.K fr G ρ σ H → RaiseE X.K Wx fr ρ σ R → Wi R ρ Qa → (∀ J cs us ds G' H', Step X.K fr G ρ σ H G' H' → RepLs X.K G' ρ σ H' cs us → ItOk X.K J cs us ds → Qa ds → Rr J H') → wi σ H Rr) :
    ∀ fr G ρ σ H R Qa Q, Rel X.K fr G ρ σ H → RaiseE X.K Wx fr ρ σ R → (noMut ρ vs ∧ Wi R ρ fun ds => cmpS g Wi1 vs1 g1 We (wipeR ρ vs) ds [] Qa) →
      (∀ p ns n G' H', Step X.K fr G ρ σ H G' H' → H p = none → H' p = some (SetO X.w p (fun j => decide (j ∈ ns)) n) → n ≤ ns.length → ¬ G' p → Qa ns → Q (.ref p) H') →
      tS2 X.w wi (canG X.K ws g) (canI X.K Wi1) (canG X.K vs1 g1) (canE X.K W0 We) vs vs1 σ H Q := by
  intro fr G ρ σ H R Qa Q rl hr w k
  obtain ⟨hn, w⟩ := w
  refine qi fr G ρ σ H R _ _ rl hr w fun J cs us ds G1 H1 s1 rc ok w1 => ?_
  intro D nD
  have nDH : H D = none := s1.up D nD
  have h0 : fr.H0 D = none := rl.h0 nDH
  have ngD : ¬ G1 D := not_new s1.rel nD
  have nmD : ∀ i, isMut (gt ρ i) → sv σ i ≠ some (.ref D) := rl.not_mut nDH
  have nst : fr.st0 ≠ some D := fun e => by
    obtain ⟨_, zs, q, _⟩ := rl.sta D e
    rw [nDH] at q; cases q
  have nP : ∀ b, fr.Pv b → b ≠ D := fun b hb e => by
    obtain ⟨_, ⟨o, q⟩, _⟩ := s1.rel.prv b hb
    rw [e, nD] at q; cases q
  generalize hfr : ({ fr with Pv := fun b => fr.Pv b ∨ b = D } : Fr) = fr2
  have e0 : fr2.H0 D = none := by rw [← hfr]; exact h0
  have est : fr2.st0 ≠ some D := by rw [← hfr]; exact nst
  refine ⟨fun i m H' => m = ds.length - i ∧ i ≤ ds.length ∧ ∃ G2 ks, CoreS X.K X.w fr fr2 G1 H1 D ρ σ G2 H' ks ∧ cmpS g Wi1 vs1 g1 We (wipeR ρ vs) (ds.drop i) ks Qa, ⟨ds.length, by simp, Nat.zero_le _, G1, [], ?_, w1⟩, ?_⟩
  · have r2 := (s1.rel.new (o := SetO X.w D (fun _ => false) 0) nD).priv (D := D) upd_same ngD h0 nmD
    rw [hfr] at r2
    exact ⟨r2, stab_new nD s1.rel.gi, fun _ h => h, fun _ h => .inl h, up_new, fun b h => keep_new s1.rel nD b h, ⟨0, by rw [upd_same, show (fun j : Int => decide (j ∈ ([] : List Int))) = fun _ => false from funext fun j => by simp], Nat.zero_le _⟩, ngD⟩
  · rintro i m H' ⟨rfl, hi, G2, ks, c, wc⟩
    have rcs : RepLs X.K G2 ρ σ H' cs us := by
      have : ∀ {cs us}, RepLs X.K G1 ρ σ H1 cs us → RepLs X.K G2 ρ σ H' cs us := fun {cs} => by
        induction cs with
        | nil => intro us h; exact h
        | cons c' cs ih =>
          rintro us ⟨v, r, e, h1, h2⟩
          exact ⟨v, r, e, h1.imp (fun h => Rep.stab c.stab c.gg _ _ h) id, ih h2⟩
      exact this rc
    by_cases hlt : i < ds.length
    · refine .inr ⟨ok.go fr2 G2 ρ σ H' i c.rel rcs hlt, fun H'' => i + 1 ≤ ds.length ∧ ∃ G2 ks, CoreS X.K X.w fr fr2 G1 H1 D ρ σ G2 H'' ks ∧ cmpS g Wi1 vs1 g1 We (wipeR ρ vs) (ds.drop (i + 1)) ks Qa, fun H'' q => ⟨ds.length - (i + 1), by omega, rfl, q⟩, fun x H3 y => ?_⟩
      obtain ⟨G3, s3, hx⟩ := ok.yld fr2 G2 ρ σ H' i x H3 c.rel rcs hlt y
      have c3 := c.step hfr s3 s3.rel
      have ed : ds[i]? = some ds[i] := List.getElem?_eq_getElem hlt
      have rx := hx _ ed
      rw [List.drop_eq_getElem_cons hlt] at wc
      refine ⟨fr2, G3, wipeR ρ vs, ds[i], _, s3.rel.wipe vs, rx, wc, fun ρ' σ' rl4 oa w4 => ?_⟩
      have ho : ∀ j, j ∉ vs → gt ρ' j = gt ρ j ∧ sv σ' j = sv σ j := fun j hj => by
        have q := oa.at' j fun z => hj (hsub j z)
        refine ⟨q.1.trans ?_, ?_⟩
        · rw [gt_wipe, if_neg hj]
        · unfold sv; rw [q.2, wipe_out hj]
      refine ⟨?_, ?_⟩
      · rw [wipe_eq (vs := vs) oa.len fun j hj => (oa.at' j fun z => hj (hsub j z)).2]
        exact wipe_eq (wipe_length σ vs) fun j hj => wipe_out hj
      · obtain ⟨hn1, w5⟩ := w4
        refine ⟨fr2, G3, ρ', _, rl4, w5, fun J1 cs1 us1 es G6 H6 s6 rc1 ok1 w6 => ?_⟩
        have c6 := c3.step hfr s6 (c3.rel.back s6 hn ho)
        refine ⟨fun j k H7 => k = es.length - j ∧ j ≤ es.length ∧ ∃ G7 ks, CoreS X.K X.w fr fr2 G1 H1 D ρ σ G7 H7 ks ∧ Rel X.K fr2 G7 ρ' σ' H7 ∧ Reps X.K G7 H7 cs1 us1 ∧ innS g1 We (wipeR ρ' vs1) (es.drop j) ks fun acc' => cmpS g Wi1 vs1 g1 We (wipeR ρ vs) (ds.drop (i + 1)) acc' Qa, ⟨es.length, by simp, Nat.zero_le _, G6, ks, c6, s6.rel, rc1, w6⟩, ?_⟩
        rintro j k H7 ⟨rfl, hj, G7, ks, c7, r7, rc7, w7⟩
        have nm' : ∀ i, isMut (gt ρ' i) → sv σ' i ≠ some (.ref D) := (r7.prv D (by rw [← hfr]; exact .inr rfl)).2.2.2
        by_cases hjl : j < es.length
        · refine .inr ⟨ok1.go fr2 G7 ρ' σ' H7 j r7 (reps_repLs rc7) hjl, fun H8 => j + 1 ≤ es.length ∧ ∃ G7 ks, CoreS X.K X.w fr fr2 G1 H1 D ρ σ G7 H8 ks ∧ Rel X.K fr2 G7 ρ' σ' H8 ∧ Reps X.K G7 H8 cs1 us1 ∧ innS g1 We (wipeR ρ' vs1) (es.drop (j + 1)) ks fun acc' => cmpS g Wi1 vs1 g1 We (wipeR ρ vs) (ds.drop (i + 1)) acc' Qa, fun H8 q => ⟨es.length - (j + 1), by omega, rfl, q⟩, fun x1 H8 y1 => ?_⟩
          obtain ⟨G8, s8, hx1⟩ := ok1.yld fr2 G7 ρ' σ' H7 j x1 H8 r7 (reps_repLs rc7) hjl y1
          have c8 := c7.step hfr s8 (c7.rel.back s8 hn ho)
          have ed1 : es[j]? = some es[j] := List.getElem?_eq_getElem hjl
          have rx1 := hx1 _ ed1
          rw [List.drop_eq_getElem_cons hjl] at w7
          refine ⟨fr2, G8, wipeR ρ' vs1, es[j], _, s8.rel.wipe vs1, rx1, w7, fun ρ'' σ'' rl9 oa1 w9 => ?_⟩
          have ho1 : ∀ j, j ∉ vs1 → gt ρ'' j = gt ρ' j ∧ sv σ'' j = sv σ' j := fun j hj => by
            have q := oa1.at' j hj
            refine ⟨q.1.trans ?_, ?_⟩
            · rw [gt_wipe, if_neg hj]
            · unfold sv; rw [q.2, wipe_out hj]
          have ho2 : ∀ j, j ∉ vs → gt ρ'' j = gt ρ j ∧ sv σ'' j = sv σ j := fun j hj => by
            have q := ho1 j fun z => hj (hsub1 j z)
            have q2 := ho j hj
            exact ⟨q.1.trans q2.1, q.2.trans q2.2⟩
          refine ⟨?_, ?_⟩
          · rw [wipe_eq (vs := vs1) oa1.len fun j hj => (oa1.at' j hj).2]
            exact wipe_eq (wipe_length σ' vs1) fun j hj => wipe_out hj
          · refine ⟨fr2, G8, ρ'', _, _, rl9, raise0, w9, fun v d G11 H11 s11 rv w11 => ?_⟩
            have c11 := c8.step hfr s11 (c8.rel.back s11 hn ho2)
            have r11 := s8.rel.back s11 hn1 ho1
            have rc11 : Reps X.K G11 H11 cs1 us1 := s11.reps (s8.reps rc7)
            cases d <;> try exact w11.elim
            rename_i kk
            obtain ⟨h64, w11⟩ := w11
            obtain rfl : v = .int kk := rv
            obtain ⟨n, eD, hn'⟩ := c11.hD
            refine ⟨kk, _, n, rfl, eD, by unfold scanBound; omega, hjl, G11, ks ++ [kk], c11.put e0 est nP nmD eD hn', r11.chgO eD ext_notup.1 ext_notup.2 (fun _ => set_code) c11.ng e0 est nm', Reps.stab (stab_chgO eD ext_notup.1 ext_notup.2 c11.ng) (fun _ h => h) _ _ rc11, w11⟩
        · have e : j = es.length := by omega
          subst e
          rw [List.drop_length] at w7
          exact .inl ⟨ok1.stop fr2 G7 ρ' σ' H7 _ r7 (reps_repLs rc7) rfl, hlt, G7, ks, c7, w7⟩
    · have e : i = ds.length := by omega
      subst e
      refine .inl ⟨ok.stop fr2 G2 ρ σ H' _ c.rel rcs rfl, ?_⟩
      rw [List.drop_length] at wc
      have wc : Qa ks := wc
      have r2 := c.rel
      rw [← hfr] at r2
      obtain ⟨n, eD, hn'⟩ := c.hD
      exact k D ks n G2 H' ⟨r2.unpriv, s1.stab.trans c.stab s1.gg, fun b h => c.gg b (s1.gg b h), fun b h => by
        rcases c.gn b h with z | z
        · exact s1.gnew b z
        · exact .inr (s1.up b z), fun b h => s1.up b (c.up b h), fun b h => (c.kp b h).trans (s1.keep b h)⟩ nDH eD hn' c.ng wc
variable {elt t0 i0 t1 i1 : Expr} {scope : Scope} {own : List (Str × Nat)} {pos p2 p : Pos} {x : Str}
theorem dn_sset2 (hc : X.calm = true) (hN : X.N.Nodup) (hgl : Gl X x) (hm : X.mg x = none) (hi : DIL X Wx t0 i0 Wi) (ok : BlkOk X.N X.env.scope scope own) (hsub : ∀ v ∈ ws, v ∈ own.map (·.2)) (hv : ∀ i ∈ vs1, i ∈ own.map (·.2))
    (hg : ∀ (s : Shared) (H : Hp) (C : Addr) (cl : List (Str × Addr)) (fp : List Addr), DG (X.blk s H scope (compEnvC scope cl C X.env) fp) t0 ws g)
    (hi1 : ∀ (s : Shared) (H : Hp) (C : Addr) (cl : List (Str × Addr)) (fp : List Addr), DI (X.blk s H scope (compEnvC scope cl C X.env) fp) W0 t1 i1 Wi1)
    (hg1 : ∀ (s : Shared) (H : Hp) (C : Addr) (cl : List (Str × Addr)) (fp : List Addr), DG (X.blk s H scope (compEnvC scope cl C X.env) fp) t1 vs1 g1)
    (he : ∀ (s : Shared) (H : Hp) (C : Addr) (cl : List (Str × Addr)) (fp : List Addr), DE (X.blk s H scope (compEnvC scope cl C X.env) fp) W0 elt We)
    (hs : ∀ x, foldedSetIterable i0 X.env x = pure x := by intro _; rfl) (hs1 : ∀ env x, foldedSetIterable i1 env x = pure x := by intro _ _; rfl)
    (hb : bootBuiltins x = some (.builtin "sorted") := by rfl) (hn : x ≠ "__name__" := by decide) (hdb : (x == ("__debug__" : Str)) = false := by decide)
    (he2 : starEach [set2 elt t0 i0 t1 i1 scope p2] X.env = (false, eval (set2 elt t0 i0 t1 i1 scope p2) X.env) :: starEach [] X.env := by rfl) (hpl2 : (backTo pos (starEach [] X.env)).any (·.1) = false := by rfl) :
    DN X Wx (.Call (.Name x p) [set2 elt t0 i0 t1 i1 scope p2] [] pos) (wSS2 Wi g Wi1 g1 We (own.map (·.2)) vs1) := by
  obtain ⟨wi, pi, qi⟩ := hi.ex
  refine ⟨⟨_, pe_callB (cr_sortedSet hc) hgl hm hb (pa_cons (pe_set2 (g := canG X.K ws g) (wi1 := canI X.K Wi1) (g1 := canG X.K vs1 g1) (te := canE X.K W0 We) hc hN pi ok hv (fun s H C cl fp => (hg s H C cl fp).can) (fun s H C cl fp => (hi1 s H C cl fp).can) (fun s H C cl fp => (hg1 s H C cl fp).can) (fun s H C cl fp => (he s H C cl fp).can) hs hs1) pa_nil he2) hn hdb he2 hpl2, fun fr G ρ σ H R Qa Q rl hr w k => ?_⟩⟩
  show tS2 _ _ _ _ _ _ _ _ σ H (fun v H' => rSortedSet X.w [v] H' Q)
  refine s2_go hsub hv qi fr G ρ σ H R _ _ rl hr w fun b ns c G1 H1 s1 nb eb hc' ngb w1 => ?_
  obtain ⟨h64, qa⟩ := w1
  refine ⟨b, _, c, rfl, eb, by omega, fun ms l pw hm _ nl => ?_⟩
  have s3 := Step.new (o := .lst (ms.map V.int)) s1.rel nl
  have em : ms = sset ns := rising_eq pw (pw_sset ns) fun j => by rw [hm j, mem_sset]; simp
  subst em
  exact k l _ ((sset ns).map D.int) _ _ (s1.trans s3) (s1.up _ nl) upd_same (fun g => by
    obtain ⟨o, z⟩ := s1.rel.gi l g
    rw [nl] at z; cases z) Reps.of_ints qa
end
end AV

set_option maxRecDepth 100000
set_option maxHeartbeats 2000000
namespace AV
open PySem PySem.Spec PyProof.Rows L2
variable [TabC]
/-! functions as values: `for x in [f, g]:`, x(..) -/
/-- the slot of a name that holds the function at a -/
abbrev slF (a : Addr) : Slot := .exc ⟨a, [], []⟩ a none
def isFn (a : Addr) : Slot → Prop
  | .exc _ b _ => b = a
  | _ => False
@[simp] theorem isFn_slF {a b : Addr} : isFn a (slF b) = (b = a) := (rfl)
section
variable {X : Cx} {Wx : WX}
theorem pe_callLS {CX : CXT} {k i : Nat} {f : Addr} {fd : FuncData} {ps : List Str} {sp : Sp} {E : L2.St → XK} {x : Str} {p pos : Pos} {e : Expr} {es : List Expr} {t : TA} (F : FnOk X.prog X.w X.K X.mg X.base CX k f fd ps sp) (hr : Room k X.A) (hN : X.N[i]? = some x) (hv : Vis X.env.scope x) (hk : PySem.W.keepIn X.K (.ref f) = true) (hb : Binds X.K fd ps []) (hx : ∀ σ, PassesAt CX X σ (E σ))
    (ha : PA X (e :: es) t) (hdb : (x == ("__debug__" : Str)) = false := by decide) (hcd : (x == ("__classdict__" : Str)) = false := by decide) (he : starEach (e :: es) X.env = (false, eval e X.env) :: starEach es X.env := by rfl) (hpl : (backTo pos (starEach es X.env)).any (·.1) = false := by rfl) :
    PE X (.Call (.Name x p) (e :: es) [] pos) (fun σ H Q => σ[i]? = some (some (.ref f)) ∧ tCallS sp E t σ H Q) := by
  constructor
  intro pins s σ H Q I h
  obtain ⟨h1, h2⟩ := h
  apply wpAny_Call_Name_kw
  apply thn ((pe_var (pos := p) hN hv hdb hcd).run pins s σ H (fun v H1 => v = .ref f ∧ H1 = H) I ⟨_, h1, rfl, rfl⟩)
  rintro u s1 ⟨v, H1, I1, r1, rfl, rfl⟩
  cases r1
  apply PySem.W.callWith_K (h₀ := X.base) I1.ok.mod.kin hk _ he hpl
  exact thn (ha.run pos pins s1 σ H1 _ I1 h2) fun us s2 ⟨vs, H2, I2, r, q⟩ => ⟨I2.kIn, run_fnS F hr hb (hx σ) I2 r q⟩
def wCallFn (i : Nat) (a : Addr) (φ : AS) (Wa : WA) : WE := fun R ρ Q => isFn a (gt ρ i) ∧ wCall φ Wa R ρ Q
@[simp ↓] theorem wCallFn_ {i : Nat} {a : Addr} {φ : AS} {Wa : WA} {R : EX → Prop} {ρ : Rho} {Q : D → Prop} : wCallFn i a φ Wa R ρ Q = (isFn a (gt ρ i) ∧ wCall φ Wa R ρ Q) := (rfl)
theorem dcFn {k n : Nat} {a : Addr} {f x : Str} {ps : List Str} {φ : AS} {p pos : Pos} {e : Expr} {es : List Expr} {Wa : WA} (i : Nat) (F : Good X.prog X.w X.K X.mg X.base k f ps (spV X.K φ)) (ma : X.mg f = some (.ref a)) (hr : Room n X.A) (hk : k ≤ n) (tk : Takes X Wx) (ha : DA X Wx (e :: es) Wa)
    (hN : X.N[i]? = some x := by rfl) (hv : Vis X.env.scope x := by first | exact Or.inl rfl | exact Or.inr (Or.inl rfl) | exact Or.inr (Or.inr rfl)) (hdb : (x == ("__debug__" : Str)) = false := by decide) (hcd : (x == ("__classdict__" : Str)) = false := by decide)
    (he : starEach (e :: es) X.env = (false, eval e X.env) :: starEach es X.env := by rfl) (hpl : (backTo pos (starEach es X.env)).any (·.1) = false := by rfl) : DE X Wx (.Call (.Name x p) (e :: es) [] pos) (wCallFn i a φ Wa) := by
  obtain ⟨fa, fd, hm, hkp, hbd, F⟩ := F.ex
  have ea : fa = a := by rw [ma] at hm; injection hm with hm; injection hm with hm; exact hm.symm
  subst ea
  obtain ⟨ta, pa, qa⟩ := ha.ex
  refine ⟨⟨_, pe_callLS F (hr.mono hk) hN hv hkp hbd (passAt tk) pa hdb hcd he hpl, fun fr G ρ σ H R Qa Q rl hR w k => ?_⟩⟩
  obtain ⟨hi, w⟩ := w
  have sl := rl.slot i
  unfold isFn at hi
  split at hi
  · rename_i ex b d es
    subst hi
    rw [es] at sl
    refine ⟨sv_some.mp sl.1, ?_⟩
    refine qa fr G ρ σ H R _ _ rl hR w fun vs ds G1 H1 s1 r1 w1 => ?_
    refine ⟨G1, ds, Qa, R, s1.rel.gok, r1, w1, fun v d G2 H2 po rv qd => ?_, fun ex cls dd G2 H2 po rv qd => ?_⟩
    · exact k v d G2 H2 (s1.trans (po.step s1.rel)) rv qd
    · exact hR ex cls dd G2 H2 qd rv (po.step s1.rel).rel
  · exact hi.elim
def wFor2 (i : Nat) (a b : Addr) (W1 W2 : WS) : WS := fun R E ρ => W1 R { nx := fun ρ' => W2 R { nx := E.nx, rt := E.rt, bk := E.nx, ct := E.nx } (ρ'.set i (slF b)), rt := E.rt, bk := E.nx, ct := fun ρ' => W2 R { nx := E.nx, rt := E.rt, bk := E.nx, ct := E.nx } (ρ'.set i (slF b)) } (ρ.set i (slF a))
@[simp ↓] theorem wFor2_ {i : Nat} {a b : Addr} {W1 W2 : WS} {R : RS} {E : EndsA} {ρ : Rho} : wFor2 i a b W1 W2 R E ρ = W1 R { nx := fun ρ' => W2 R { nx := E.nx, rt := E.rt, bk := E.nx, ct := E.nx } (ρ'.set i (slF b)), rt := E.rt, bk := E.nx, ct := fun ρ' => W2 R { nx := E.nx, rt := E.rt, bk := E.nx, ct := E.nx } (ρ'.set i (slF b)) } (ρ.set i (slF a)) := (rfl)
theorem pss_or {st : List Stmt} {t u : TS} (h1 : PSs X st t) (h2 : PSs X st u) : PSs X st (fun D σ H => t D σ H ∨ u D σ H) := ⟨fun pins s σ H D I h => h.elim (h1.run pins s σ H D I) (h2.run pins s σ H D I)⟩
theorem Rel.fn {K : PySem.W.Frag} {fr : Fr} {G : GS} {ρ : Rho} {σ : L2.St} {H : Hp} (r : Rel K fr G ρ σ H) (i : Nat) (a : Addr) : Rel K fr G (ρ.set i (slF a)) (σ.set i (some (.ref a))) H := r.set i ⟨rfl, .bare⟩ fun m => m.elim
theorem ds_for2 {a b : Addr} {x f g : Str} {p p1 p2 lp pos : Pos} {body : List Stmt} {W1 W2 : WS} (i : Nat) (hp : PassesOwn (model X.prog X.w) X.A X.env X.xe) (hc : X.calm = true) (ma : X.mg f = some (.ref a)) (mb : X.mg g = some (.ref b)) (hN : X.N.Nodup) (h1 : DSs X Wx body W1) (h2 : DSs X Wx body W2)
    (gf : Gl X f := by rfl) (gg : Gl X g := by rfl) (df : (f == ("__debug__" : Str)) = false := by decide) (dg : (g == ("__debug__" : Str)) = false := by decide)
    (hi : X.N[i]? = some x := by rfl) (hx : Loc X.env.scope x := by first | exact .inl rfl | exact .inr rfl) (hf : X.fn x = true ∨ X.env.scope.names.lookup x = some .local := by first | exact .inl rfl | exact .inr rfl)
    (s1 : starEach [.Name f p1, .Name g p2] X.env = (false, eval (.Name f p1) X.env) :: starEach [.Name g p2] X.env := by rfl) (s2 : starEach [.Name g p2] X.env = (false, eval (.Name g p2) X.env) :: starEach [] X.env := by rfl)
    (hs : ∀ x, foldedSetIterable (.List [.Name f p1, .Name g p2] lp) X.env x = pure x := by intro _; rfl) :
    DS X Wx (.For (.Name x p) (.List [.Name f p1, .Name g p2] lp) body [] pos) (wFor2 i a b W1 W2) := by
  obtain ⟨t1, q1, r1⟩ := h1.ex
  obtain ⟨t2, q2, r2⟩ := h2.ex
  have pl : PE X (.List [.Name f p1, .Name g p2] lp) (tLst (tCons (tC (.ref a)) (tCons (tC (.ref b)) tNil))) := pe_lst (pa_cons (pe_glob gf ma rfl df) (pa_cons (pe_glob gg mb rfl dg) pa_nil s2) s1)
  refine ⟨⟨_, ps_for hp hc (pi_list pl) (pg_name hN hi hx hf) (pss_or q1 q2) hs, fun fr G ρ σ H R E F rl hr ok w => ?_⟩⟩
  have w : W1 R { nx := fun ρ' => W2 R { nx := E.nx, rt := E.rt, bk := E.nx, ct := E.nx } (ρ'.set i (slF b)), rt := E.rt, bk := E.nx, ct := fun ρ' => W2 R { nx := E.nx, rt := E.rt, bk := E.nx, ct := E.nx } (ρ'.set i (slF b)) } (ρ.set i (slF a)) := w
  refine ⟨by rw [← line_eq]; simp, fun l nl => ⟨l, rfl, ⟨[.ref a, .ref b], .inl (.of upd_same)⟩, ?_⟩⟩
  have rel1 : Rel X.K fr (fun c => G c ∨ c = l) ρ σ (upd H l (.lst [.ref a, .ref b])) := rl.newG nl
  generalize hH1 : upd H l (.lst [.ref a, .ref b]) = H1 at rel1
  have el : H1 l = some (.lst [.ref a, .ref b]) := by rw [← hH1]; exact upd_same
  generalize hfr : ({ fr with Hb := H1, Gb := fun c => G c ∨ c = l } : Fr) = fr2
  have un : ∀ {G' ρ' σ' H'}, Rel X.K fr2 G' ρ' σ' H' → Rel X.K fr G' ρ' σ' H' := fun {G' ρ' σ' H'} h => rel1.unmark (by rw [hfr]; exact h)
  have hr2 : RaiseS X.K Wx fr2 R := fun ex cls d G ρ σ H h1 h2 h3 => hr ex cls d G ρ σ H h1 h2 (un h3)
  have there : ∀ {G' ρ' σ' H'}, Rel X.K fr2 G' ρ' σ' H' → H' l = some (.lst [.ref a, .ref b]) := fun {G' ρ' σ' H'} h => by
    have hb := h.bst
    rw [← hfr] at hb
    exact (hb.g l (.inr rfl)).trans el
  have ends : ∀ {N : L2.St → Hp → Prop} {Nx : Rho → Prop}, (∀ G ρ σ H, Rel X.K fr2 G ρ σ H → Nx ρ → N σ H) → EndsOk X.K fr2 { nx := Nx, rt := E.rt, bk := E.nx, ct := Nx } { F with nx := N, ct := N, bk := F.nx } := fun {N Nx} h =>
    ⟨h, fun v d G ρ σ H r => ok.rt v d G ρ σ H (un r), fun G ρ σ H r => ok.nx G ρ σ H (un r), h, fun v es G ρ σ H r h0 => ok.rf v es G ρ σ H (un r) (by rw [← hfr] at h0; exact h0)⟩
  refine ⟨fun j m σ' H' => m = 2 - j ∧ ∃ G' ρ', Rel X.K fr2 G' ρ' σ' H' ∧ ((j = 0 ∧ W1 R { nx := fun ρ' => W2 R { nx := E.nx, rt := E.rt, bk := E.nx, ct := E.nx } (ρ'.set i (slF b)), rt := E.rt, bk := E.nx, ct := fun ρ' => W2 R { nx := E.nx, rt := E.rt, bk := E.nx, ct := E.nx } (ρ'.set i (slF b)) } (ρ'.set i (slF a))) ∨
    (j = 1 ∧ W2 R { nx := E.nx, rt := E.rt, bk := E.nx, ct := E.nx } (ρ'.set i (slF b))) ∨ (j = 2 ∧ E.nx ρ')), ⟨2, rfl, _, ρ, by rw [← hfr]; exact rel1.mark, .inl ⟨rfl, w⟩⟩, ?_⟩
  rintro j m σ' H' ⟨rfl, G', ρ', r', hj⟩
  have sq : SqL X.K H' l [.ref a, .ref b] := .inl (.of (there r'))
  rcases hj with ⟨rfl, w'⟩ | ⟨rfl, w'⟩ | ⟨rfl, w'⟩
  · refine .inr ⟨⟨_, _, sq, rfl⟩, fun σ'' H'' => ∃ G' ρ', Rel X.K fr2 G' ρ' σ'' H'' ∧ W2 R { nx := E.nx, rt := E.rt, bk := E.nx, ct := E.nx } (ρ'.set i (slF b)), fun σ'' H'' z => ⟨1, by omega, rfl, z.elim fun G' z => z.elim fun ρ' z => ⟨G', ρ', z.1, .inr (.inl ⟨rfl, z.2⟩)⟩⟩, fun v H3 y => ?_⟩
    obtain ⟨rfl, y⟩ := y
    have ev := y _ sq
    cases ev
    exact .inl (r1 fr2 G' _ _ _ R _ _ (r'.fn i a) hr2 (ends fun G ρ σ H r w => ⟨G, ρ, r, w⟩) w')
  · refine .inr ⟨⟨_, _, sq, rfl⟩, fun σ'' H'' => ∃ G' ρ', Rel X.K fr2 G' ρ' σ'' H'' ∧ E.nx ρ', fun σ'' H'' z => ⟨0, by omega, rfl, z.elim fun G' z => z.elim fun ρ' z => ⟨G', ρ', z.1, .inr (.inr ⟨rfl, z.2⟩)⟩⟩, fun v H3 y => ?_⟩
    obtain ⟨rfl, y⟩ := y
    have ev := y _ sq
    cases ev
    exact .inr (r2 fr2 G' _ _ _ R _ _ (r'.fn i b) hr2 (ends fun G ρ σ H r w => ⟨G, ρ, r, w⟩) w')
  · exact .inl ⟨⟨_, sq, by simp⟩, ok.nx G' ρ' σ' H' (un r') w'⟩
end
end AV

set_option maxRecDepth 100000
set_option maxHeartbeats 4000000
namespace AV
open PySem PySem.Spec PyProof.Rows L2
structure Cl where
  K : PySem.W.Frag
  FadeError : Addr
  NoRule : Addr
  NoMarks : Addr
  NoLife : Addr
  NoWorld : Addr
  NoStand : Addr
  NoCount : Addr
  NoRows : Addr
  NoBox : Addr
  NoWalker : Addr
  NoWish : Addr
  NoSights : Addr
  NoPlan : Addr
  NoPaper : Addr
  NoRoom : Addr
  NoFit : Addr
  TooMany : Addr
  World : Addr
  Track : Addr
  Search : Addr
  cd_law : Addr
  tb_law : Addr
  fa_looked : Addr
  fa_put : Addr
abbrev topS (i : Nat) : Stmt := PySem.Challenge.pw_palewalk_k54_whole_marks_unlooked_at.main.body.getD i (.Pass ⟨0, 0, 0, 0⟩)
abbrev clsS (i j : Nat) : Stmt := match topS i with | .ClassDef _ _ _ body _ _ _ _ _ _ _ => body.getD j (.Pass ⟨0, 0, 0, 0⟩) | s => s
structure Xs (c : Cl) : Prop where
  ex_NoCount_FadeError : PySem.W.exmOne c.K (.ref c.NoCount) (.ref c.FadeError) = some true
  ex_NoCount_NoRoom : PySem.W.exmOne c.K (.ref c.NoCount) (.ref c.NoRoom) = some false
  ex_NoCount_NoStand : PySem.W.exmOne c.K (.ref c.NoCount) (.ref c.NoStand) = some false
  ex_NoRoom_FadeError : PySem.W.exmOne c.K (.ref c.NoRoom) (.ref c.FadeError) = some true
  ex_NoRoom_NoRoom : PySem.W.exmOne c.K (.ref c.NoRoom) (.ref c.NoRoom) = some true
  ex_NoRoom_NoStand : PySem.W.exmOne c.K (.ref c.NoRoom) (.ref c.NoStand) = some false
  ex_NoStand_FadeError : PySem.W.exmOne c.K (.ref c.NoStand) (.ref c.FadeError) = some true
  ex_NoStand_NoRoom : PySem.W.exmOne c.K (.ref c.NoStand) (.ref c.NoRoom) = some false
  ex_NoStand_NoStand : PySem.W.exmOne c.K (.ref c.NoStand) (.ref c.NoStand) = some true
  ex_NoWorld_FadeError : PySem.W.exmOne c.K (.ref c.NoWorld) (.ref c.FadeError) = some true
  ex_NoWorld_NoRoom : PySem.W.exmOne c.K (.ref c.NoWorld) (.ref c.NoRoom) = some false
  ex_NoWorld_NoStand : PySem.W.exmOne c.K (.ref c.NoWorld) (.ref c.NoStand) = some false
  ki_NoStand_NoRoom : PySem.W.kitOne c.K (.ref c.NoStand) (.ref c.NoRoom) = some false
structure Txt0 (c : Cl) (mg : Str → Option Value) : Prop where
  X : Xs c
  bx : BaseX c.K mg "FadeError" c.FadeError
  xa_NoWorld : XAt c.K c.NoWorld "NoWorld.__init__" (clsS 5 0) ["self", "what"] ["what"]
  b_all : mg "all" = none
  b_bool : mg "bool" = none
  b_enumerate : mg "enumerate" = none
  b_int : mg "int" = none
  b_isinstance : mg "isinstance" = none
  b_len : mg "len" = none
  b_list : mg "list" = none
  b_max : mg "max" = none
  b_min : mg "min" = none
  b_range : mg "range" = none
  b_sorted : mg "sorted" = none
  b_str : mg "str" = none
  b_tuple : mg "tuple" = none
  b_zip : mg "zip" = none
  g_MOST_LIFE : GInt mg "MOST_LIFE" 6
  g_MOST_MARK : GInt mg "MOST_MARK" 9
  g_MOST_ROOMS : GInt mg "MOST_ROOMS" 8
  g_MOST_RUN : GInt mg "MOST_RUN" 400
  g_MOST_WALKERS : GInt mg "MOST_WALKERS" 3
  g_MOST_WAYS : GInt mg "MOST_WAYS" 4
  g_SIDES : GTup c.K mg "SIDES" ["first", "last"]
  g_WORDS : GTup c.K mg "WORDS" ["fresh", "stale"]
  x_FadeError : XcF c.K mg "FadeError" c.FadeError
  x_NoCount : XcF c.K mg "NoCount" c.NoCount
  x_NoRoom : XcF c.K mg "NoRoom" c.NoRoom
  x_NoStand : XcF c.K mg "NoStand" c.NoStand
  x_NoWorld : XcF c.K mg "NoWorld" c.NoWorld
  xi_NoCount : XcI c.K c.NoCount
  xi_NoRoom : XcI c.K c.NoRoom
  xi_NoStand : XcI c.K c.NoStand
  ec_NoStand : ExcC c.K c.NoStand
  cls_World : Cls c.K c.World
  nf_World_floor : NoAttr c.K c.World "floor"
  nf_World_lasting : NoAttr c.K c.World "lasting"
  nf_World_wanted : NoAttr c.K c.World "wanted"
  m_World : mg "World" = some (.ref c.World)
  fa_looked : mg "looked" = some (.ref c.fa_looked)
  fa_put : mg "put" = some (.ref c.fa_put)
  f_is_whole : FnAt c.K mg "is_whole" (topS 12) ["thing", "low", "high"]
  f_is_word : FnAt c.K mg "is_word" (topS 13) ["thing", "words"]
  f_is_clause : FnAt c.K mg "is_clause" (topS 14) ["thing"]
  f_is_rule : FnAt c.K mg "is_rule" (topS 15) ["thing"]
  f_are_rules : FnAt c.K mg "are_rules" (topS 22) ["thing"]
  f_are_ways : FnAt c.K mg "are_ways" (topS 21) ["thing"]
  f_sure_floor : FnAt c.K mg "sure_floor" (topS 23) ["ways", "life"]
  f_World___init__ : IAt c.K c.World "World.__init__" (clsS 24 0) ["self", "ways", "life", "rules"]
  f_World_life : MAt c.K c.World "life" "World.life" (clsS 24 2) ["self"]
  f_World_rooms : MAt c.K c.World "rooms" "World.rooms" (clsS 24 4) ["self"]
  f_are_marks : FnAt c.K mg "are_marks" (topS 16) ["thing", "many", "most"]
  f_World_walkers : MAt c.K c.World "walkers" "World.walkers" (clsS 24 5) ["self"]
  f_is_room : FnAt c.K mg "is_room" (topS 25) ["world", "thing"]
  f_are_rooms : FnAt c.K mg "are_rooms" (topS 26) ["world", "thing"]
  f_is_stand : FnAt c.K mg "is_stand" (topS 27) ["world", "thing"]
  f_sure_stand : FnAt c.K mg "sure_stand" (topS 28) ["world", "thing"]
  f_place_picked : FnAt c.K mg "place_picked" (topS 17) ["rule", "marks"]
  f_ways_picked : FnAt c.K mg "ways_picked" (topS 31) ["world", "stand"]
  f_picks : FnAt c.K mg "picks" (topS 34) ["world", "stand"]
  f__law_alike : FnAt c.K mg "_law_alike" (topS 52) ["_law_world", "_law_life", "_law_track", "_law_other", "_law_hour"]
  f__law_cell_at : FnAt c.K mg "_law_cell_at" (topS 44) ["_law_script", "_law_k"]
  f__law_digit : FnAt c.K mg "_law_digit" (topS 45) ["_law_state", "_law_base"]
  f__law_due : FnAt c.K mg "_law_due" (topS 51) ["_law_ways", "_law_life", "_law_track", "_law_room"]
  f__law_floor : FnAt c.K mg "_law_floor" (topS 48) ["_law_state", "_law_most"]
  f__law_clause : FnAt c.K mg "_law_clause" (topS 46) ["_law_state", "_law_most"]
  f__law_rule : FnAt c.K mg "_law_rule" (topS 47) ["_law_state", "_law_most"]
  f__law_parts : FnAt c.K mg "_law_parts" (topS 50) ["_law_state", "_law_most", "_law_great", "_law_walkers"]
  f__law_said : FnAt c.K mg "_law_said" (topS 53) ["_law_ask"]
  f__law_stand : FnAt c.K mg "_law_stand" (topS 49) ["_law_state", "_law_many", "_law_life", "_law_walkers"]
  f_faded : FnAt c.K mg "faded" (topS 32) ["mark"]
  f_behind : FnAt c.K mg "behind" (topS 33) ["world", "stand"]
  f_looked_at : FnAt c.K mg "looked_at" (topS 37) ["world", "rooms"]
  f_sure_room : FnAt c.K mg "sure_room" (topS 40) ["world", "thing"]
  f_looked : FnAt c.K mg "looked" (topS 42) ["world", "stand", "room"]
  f_with_mark : FnAt c.K mg "with_mark" (topS 39) ["world", "stand", "room"]
  f_put : FnAt c.K mg "put" (topS 41) ["world", "stand", "room"]
  f_run : FnAt c.K mg "run" (topS 35) ["world", "stand", "many"]
  f_law : FnAtC c.K mg "law" (topS 54) ["_law_script"] c.cd_law
variable [TabC] in
structure Txt (c : Cl) (mg : Str → Option Value) (base : Heap) : Prop extends Txt0 c mg where
  tb_law : LamX.TabB base mg c.cd_law c.tb_law
  tt : TabC.T = [(c.tb_law, (envOfC "law" (defScope (topS 54)) 0 0 .none).qual ++ ("<lambda>" : Str))]
  tu : ∀ p ∈ TabC.T, ∀ p2 ∈ TabC.T, p.1 = p2.1 → p.2 = p2.2
section
variable [tc : TabC] {P : Program} {mg : Str → Option Value} {base : Heap}
theorem sc_NoWorld___init__ : FnScope ["self", "what"] ["self", "what"] (defScope (clsS 5 0)) := ⟨rfl, rfl, rfl, by decide +kernel, rfl, by decide +kernel, by decide +kernel⟩
theorem ok_NoWorld___init__ (c : Cl) (T : Txt c mg base) : GoodX P TabC.w c.K mg base c.NoWorld ["self", "what"] (spX1 c.NoWorld "what") := goodX1 T.xa_NoWorld sc_NoWorld___init__ T.bx rfl
/-! is_whole -/
structure Cla where
  fresh : Bool
  lo : Int
  hi : Int
  first : Bool
deriving DecidableEq
def encC (c : Cla) : D := .tup [.str (if c.fresh then "fresh" else "stale"), .int c.lo, .int c.hi, .str (if c.first then "first" else "last")]
@[simp] theorem pln_encC {a : Cla} : pln (encC a) = true := by simp [encC]
def clOf : D → Option Cla
  | .tup [.str w, .int lo, .int hi, .str s] => some ⟨w == Str.ofString "fresh", lo, hi, s == Str.ofString "first"⟩
  | _ => none
@[simp] theorem clOf_enc (a : Cla) : clOf (encC a) = some a := by
  obtain ⟨f, lo, hi, g⟩ := a
  cases f <;> cases g <;> simp [encC, clOf]
def rulOf : List D → Option (List Cla)
  | [] => some []
  | d :: r => (clOf d).bind fun a => (rulOf r).map (a :: ·)
@[simp] theorem rulOf_nil : rulOf [] = some [] := (rfl)
@[simp] theorem rulOf_cons {d : D} {r : List D} : rulOf (d :: r) = (clOf d).bind fun a => (rulOf r).map (a :: ·) := (rfl)
@[simp] theorem clOf_tup {w s : Str} {lo hi : Int} : clOf (.tup [.str w, .int lo, .int hi, .str s]) = some ⟨w == Str.ofString "fresh", lo, hi, s == Str.ofString "first"⟩ := (rfl)
def rulD : D → Option (List Cla)
  | .tup xs => rulOf xs
  | _ => none
@[simp] theorem rulD_tup {xs : List D} : rulD (.tup xs) = rulOf xs := (rfl)
def mksD : D → Option (List Int)
  | .tup xs => intsOf xs
  | _ => none
@[simp] theorem mksD_tup {xs : List D} : mksD (.tup xs) = intsOf xs := (rfl)
@[simp] theorem rulOf_map (r : List Cla) : rulOf (r.map encC) = some r := by
  induction r with
  | nil => rfl
  | cons a r ih => rw [List.map_cons, rulOf, clOf_enc, ih]; rfl
def plc (w : Int) : Nat → List Int → List Int
  | _, [] => []
  | i, m :: ms => if m = w then (i : Int) :: plc w (i + 1) ms else plc w (i + 1) ms
theorem plc_ne {w : Int} : ∀ {i : Nat} {ms : List Int}, w ∈ ms → plc w i ms ≠ []
  | i, m :: ms, h => by
    unfold plc
    by_cases e : m = w
    · rw [if_pos e]; simp
    · rw [if_neg e]
      exact plc_ne (by rcases List.mem_cons.mp h with z | z; exact absurd z.symm e; exact z)
theorem plc_len {w : Int} : ∀ {i : Nat} {ms : List Int}, (plc w i ms).length ≤ ms.length
  | i, [] => by simp [plc]
  | i, m :: ms => by
    unfold plc
    have := plc_len (w := w) (i := i + 1) (ms := ms)
    split <;> simp <;> omega
theorem plc_mem {w x : Int} : ∀ {i : Nat} {ms : List Int}, x ∈ plc w i ms → (i : Int) ≤ x ∧ x < i + ms.length
  | i, [], h => by simp [plc] at h
  | i, m :: ms, h => by
    unfold plc at h
    split at h
    · rcases List.mem_cons.mp h with rfl | h
      · simp; omega
      · have := plc_mem h; simp; omega
    · have := plc_mem h; simp; omega
def someC (c : Cla) (ms : List Int) : List Int := ms.filter fun m => decide (c.lo ≤ m) && decide (m ≤ c.hi)
def wishC (c : Cla) (ms : List Int) : Int := if c.fresh then maxL (someC c ms) else minL (someC c ms)
def placeC (c : Cla) (ms : List Int) : Int := if c.first then (plc (wishC c ms) 0 ms).headD 0 else (plc (wishC c ms) 0 ms).getLastD 0
def pickR : List Cla → List Int → Int
  | [], _ => 0
  | c :: r, ms => if someC c ms = [] then pickR r ms else placeC c ms
theorem wish_mem {c : Cla} {ms : List Int} (h : someC c ms ≠ []) : wishC c ms ∈ ms := by
  unfold wishC
  have : ∀ x ∈ someC c ms, x ∈ ms := fun x hx => (List.mem_filter.mp hx).1
  split
  · exact this _ (maxL_mem h).1
  · exact this _ (minL_mem h).1
theorem at_first {xs : List D} : atI xs 0 = xs.head? := by
  unfold atI ixN
  cases xs <;> simp
theorem at_lastD {xs : List D} (h : xs ≠ []) : atI xs (-1) = xs.getLast? := by
  unfold atI ixN
  cases xs with
  | nil => exact absurd rfl h
  | cons x r =>
    rw [List.getLast?_eq_getElem?]
    have : -((x :: r).length : Int) ≤ -1 := by rw [List.length_cons]; omega
    rw [if_neg (by omega), if_pos this]
    show (x :: r)[((-1 : Int) + ((x :: r).length : Nat)).toNat]? = _
    congr 1
    rw [List.length_cons]; omega
theorem plc_zip (w : Int) : ∀ (i : Nat) (ms : List Int), ((ms.zipIdx i).filter fun p => p.1 == w).map (fun p => (p.2 : Int)) = plc w i ms
  | _, [] => rfl
  | i, m :: ms => by
    have ih := plc_zip w (i + 1) ms
    by_cases h : m = w <;> simp [List.zipIdx_cons, plc, h, ih]
theorem plc_len_pos {a : Cla} {m : List Int} (he : someC a m ≠ []) : plc (wishC a m) 0 m ≠ [] := plc_ne (wish_mem he)
theorem at_head {ns : List Int} (h : ns ≠ []) : atI (ns.map D.int) 0 = some (.int (ns.headD 0)) := by
  rw [at_first]
  cases ns with
  | nil => exact absurd rfl h
  | cons x xs => rfl
theorem at_last {ns : List Int} (h : ns ≠ []) : atI (ns.map D.int) (-1) = some (.int (ns.getLastD 0)) := by
  rw [at_lastD (by simpa using h), List.getLast?_map]
  cases ns with
  | nil => exact absurd rfl h
  | cons x xs => simp [List.getLast?_cons, List.getLastD_eq_getLast?]
def whD (lo hi : Int) : D → Bool
  | .int i => decide (lo ≤ i) && decide (i ≤ hi)
  | _ => false
@[simp] theorem whD_int {lo hi i : Int} : whD lo hi (.int i) = (decide (lo ≤ i) && decide (i ≤ hi)) := rfl
theorem whD_of {lo hi : Int} {d : D} (h : whD lo hi d = true) : ∃ i, d = .int i ∧ lo ≤ i ∧ i ≤ hi := by
  cases d <;> simp [whD] at h <;> try exact ⟨_, rfl, h⟩
def inW (xs : List Str) : D → Bool
  | .str x => xs.contains x
  | _ => false
theorem inW_of {xs : List Str} {d : D} (h : inW xs d = true) : ∃ x, d = .str x ∧ x ∈ xs := by
  cases d <;> simp [inW] at h <;> exact ⟨_, rfl, h⟩
theorem any_deq_str (x : Str) : ∀ xs : List Str, ((xs.map D.str).any fun z => deq z (.str x)) = xs.contains x
  | [] => rfl
  | y :: ys => by
    rw [List.map_cons, List.any_cons, any_deq_str x ys, List.contains_cons, deq_str_str]
    congr 1
    exact Bool.eq_iff_iff.mpr ⟨fun h => by simpa using (by simpa using h : y = x).symm, fun h => by simpa using (by simpa using h : x = y).symm⟩
theorem all_flat_str : ∀ xs : List Str, (xs.map D.str).all flatD = true
  | [] => rfl
  | y :: ys => by rw [List.map_cons, List.all_cons, all_flat_str ys]; rfl
def clD : D → Bool
  | .tup [w, l, h, s] => inW ["fresh", "stale"] w && inW ["first", "last"] s && (match l with | .int i => whD 0 9 l && whD i 9 h | _ => false)
  | _ => false
def rlD : D → Bool
  | .tup xs => decide (xs.length ≤ 4) && xs.all clD
  | _ => false
def mkD (n : Int) (most : Int) : D → Bool
  | .tup xs => ((xs.length : Int) == n) && xs.all (whD 0 most)
  | _ => false
theorem strB {w : D} {xs : List Str} (h : inW xs w = true) : ∃ x ∈ xs, w = .str x := by
  obtain ⟨x, rfl, hx⟩ := inW_of h
  exact ⟨x, hx, rfl⟩
theorem clD_enc {d : D} (h : clD d = true) : ∃ c : Cla, d = encC c ∧ 0 ≤ c.lo ∧ c.lo ≤ c.hi ∧ c.hi ≤ 9 := by
  unfold clD at h
  split at h
  · rename_i w l u s
    rw [Bool.and_eq_true, Bool.and_eq_true] at h
    obtain ⟨⟨h1, h2⟩, h3⟩ := h
    obtain ⟨x, hx, rfl⟩ := strB h1
    obtain ⟨y, hy, rfl⟩ := strB h2
    split at h3
    · rename_i i
      rw [Bool.and_eq_true] at h3
      obtain ⟨j, rfl, h4, h5⟩ := whD_of h3.2
      obtain ⟨i', e, h6, h7⟩ := whD_of h3.1
      cases e
      rcases List.mem_cons.mp hx with rfl | hx
      · rcases List.mem_cons.mp hy with rfl | hy
        · exact ⟨⟨true, i, j, true⟩, rfl, h6, h4, h5⟩
        · cases List.mem_singleton.mp hy
          exact ⟨⟨true, i, j, false⟩, rfl, h6, h4, h5⟩
      · cases List.mem_singleton.mp hx
        rcases List.mem_cons.mp hy with rfl | hy
        · exact ⟨⟨false, i, j, true⟩, rfl, h6, h4, h5⟩
        · cases List.mem_singleton.mp hy
          exact ⟨⟨false, i, j, false⟩, rfl, h6, h4, h5⟩
    · cases h3
  · cases h
theorem map_of {α β : Type} {f : α → β} {P : α → Prop} : ∀ {ys : List β}, (∀ y ∈ ys, ∃ x, y = f x ∧ P x) → ∃ xs : List α, ys = xs.map f ∧ ∀ x ∈ xs, P x
  | [], _ => ⟨[], rfl, fun _ h => by cases h⟩
  | y :: ys, h => by
    obtain ⟨x, rfl, px⟩ := h y (List.mem_cons_self ..)
    obtain ⟨xs, rfl, pxs⟩ := map_of (ys := ys) fun z hz => h z (List.mem_cons_of_mem _ hz)
    exact ⟨x :: xs, rfl, by simpa using ⟨px, pxs⟩⟩
theorem rlD_enc {d : D} (h : rlD d = true) : ∃ r : List Cla, d = .tup (r.map encC) ∧ r.length ≤ 4 ∧ ∀ c ∈ r, 0 ≤ c.lo ∧ c.lo ≤ c.hi ∧ c.hi ≤ 9 := by
  unfold rlD at h
  split at h
  · rename_i xs
    rw [Bool.and_eq_true, List.all_eq_true] at h
    obtain ⟨h1, h2⟩ := h
    obtain ⟨r, rfl, hr⟩ := map_of (f := encC) fun y hy => clD_enc (h2 y hy)
    exact ⟨r, rfl, by simpa using h1, hr⟩
  · cases h
/-- marks as pick wants them -/
def mkOk : D → Bool
  | .tup xs => decide (1 ≤ xs.length) && decide (xs.length ≤ 4) && xs.all (whD 0 9)
  | _ => false
theorem mkOk_enc {d : D} (h : mkOk d = true) : ∃ m : List Int, d = .tup (m.map .int) ∧ 1 ≤ m.length ∧ m.length ≤ 4 ∧ ∀ x ∈ m, 0 ≤ x ∧ x ≤ 9 := by
  unfold mkOk at h
  split at h
  · rename_i xs
    rw [Bool.and_eq_true, Bool.and_eq_true, List.all_eq_true] at h
    obtain ⟨⟨h1, h3⟩, h2⟩ := h
    obtain ⟨r, rfl, hr⟩ := map_of (f := D.int) fun y hy => whD_of (h2 y hy)
    exact ⟨r, rfl, by simpa using h1, by simpa using h3, hr⟩
  · cases h
theorem clD_encC {a : Cla} (h : 0 ≤ a.lo ∧ a.lo ≤ a.hi ∧ a.hi ≤ 9) : clD (encC a) = true := by
  obtain ⟨h1, h2, h3⟩ := h
  have h4 : a.lo ≤ 9 := by omega
  cases hf : a.fresh <;> cases hs : a.first <;> simp [encC, clD, inW, hf, hs, h1, h2, h3, h4]
theorem rlD_encC {r : List Cla} (hl : r.length ≤ 4) (h : ∀ a ∈ r, 0 ≤ a.lo ∧ a.lo ≤ a.hi ∧ a.hi ≤ 9) : rlD (.tup (r.map encC)) = true := by
  simp [rlD, hl]
  exact fun a ha => clD_encC (h a ha)
theorem mkOk_ints {m : List Int} (h1 : 1 ≤ m.length) (h2 : m.length ≤ 4) (h : ∀ x ∈ m, 0 ≤ x ∧ x ≤ 9) : mkOk (.tup (m.map .int)) = true := by
  simp [mkOk, h1, h2]
  exact h
theorem mkOk_not {xs : List D} {x : D} (hx : x ∈ xs) (h : whD 0 9 x = false) : mkOk (.tup xs) = false := by
  have : xs.all (whD 0 9) = false := by
    rw [List.all_eq_false]
    exact ⟨x, hx, by simp [h]⟩
  simp [mkOk]
  intro _ _
  obtain ⟨y, hy, e⟩ := List.all_eq_false.mp this
  exact ⟨y, hy, by simpa using e⟩
def intD : D → Option Int
  | .int i => some i
  | _ => none
@[simp] theorem intD_int {i : Int} : intD (.int i) = some i := (rfl)
def s_is_whole (c : Cl) : AS := fun ds Q R => match ds with
  | [t, .int lo, .int hi] => noIns t = true ∧ Q (.bl (whD lo hi t))
  | _ => False
@[simp ↓] theorem s_is_whole_ {c : Cl} {t : D} {lo hi : Int} {Q : D → Prop} {R : EX → Prop} : @caK (s_is_whole c) [t, .int lo, .int hi] ⟨Q⟩ ⟨R⟩ = (noIns t = true ∧ Q (.bl (whD lo hi t))) := (rfl)
def w_is_whole (c : Cl) : WS :=
    (wRet ((wAndV (wIsi .int (wVar 0)) (wAndV (wNotV (wIsi .bool (wVar 0))) (wChain (oCmp fun i j => decide (i ≤ j)) (oCmp fun i j => decide (i ≤ j)) (wVar 1) (wVar 0) (wVar 2))))))
theorem sc_is_whole : FnScope ["thing", "low", "high"] ["thing", "low", "high"] (defScope (topS 12)) := ⟨rfl, rfl, rfl, by decide +kernel, rfl, by decide +kernel, by decide +kernel⟩
theorem d_is_whole (c : Cl) (T : Txt c mg base) : HB P TabC.w c.K mg base 0 "is_whole" (topS 12) ["thing", "low", "high"] (w_is_whole c) := fun f cdv A outer s H E hr tk hp => by
    have S := sc_is_whole
    exact
      (dss_one (ds_ret (de_and (de_isi (T := .int) (by rfl) T.b_isinstance (by rfl) T.b_int ((de_var 0)).dl) (de_and (de_not (de_isi (T := .bool) (by rfl) T.b_isinstance (by rfl) T.b_bool ((de_var 0)).dl)) (de_one (de_chain cmp_le cmp_le ((de_var 1)).dl ((de_var 0)).dl ((de_var 2)).dl))))))
theorem h_is_whole (c : Cl) (X : Xs c) (ds : List D) (Q : D → Prop) (R : EX → Prop) (h : s_is_whole c ds Q R) : ds.length = 3 ∧ w_is_whole c (fun ex _ => R ex) ⟨fun _ => Q .non, fun _ => Q, fun _ => False, fun _ => False⟩ (slots0 ["thing", "low", "high"] ["thing", "low", "high"] ds) := by
  unfold s_is_whole at h
  split at h
  · rename_i t lo hi
    refine ⟨rfl, ?_⟩
    obtain ⟨h0, h⟩ := h
    cases t <;> simp [w_is_whole] <;> first | exact h | (cases h0; done) | skip
    rename_i i
    simp at h
    by_cases h1 : lo ≤ i <;> simp [h1] at h ⊢ <;> exact h
  · exact h.elim
theorem ok_is_whole (c : Cl) (T : Txt c mg base) : Good P TabC.w c.K mg base 1 "is_whole" ["thing", "low", "high"] (spV c.K (s_is_whole c)) := goodV T.f_is_whole sc_is_whole (d_is_whole c T) fun ds Q R h => h_is_whole c T.X ds Q R h
/-! is_word -/
def s_is_word (c : Cl) : AS := fun ds Q R => match ds with
  | [t, .tup ws] => noIns t = true ∧ @optK _ (strsOf ws) ⟨fun xs => Q (.bl (inW xs t))⟩
  | _ => False
@[simp ↓] theorem s_is_word_ {c : Cl} {t : D} {ws : List D} {Q : D → Prop} {R : EX → Prop} : @caK (s_is_word c) [t, .tup ws] ⟨Q⟩ ⟨R⟩ = (noIns t = true ∧ @optK _ (strsOf ws) ⟨fun xs => Q (.bl (inW xs t))⟩) := (rfl)
def w_is_word (c : Cl) : WS :=
    (wRet ((wAndV (wIsi .str (wVar 0)) (wOp (oIn false) (wVar 0) (wVar 1)))))
theorem sc_is_word : FnScope ["thing", "words"] ["thing", "words"] (defScope (topS 13)) := ⟨rfl, rfl, rfl, by decide +kernel, rfl, by decide +kernel, by decide +kernel⟩
theorem d_is_word (c : Cl) (T : Txt c mg base) : HB P TabC.w c.K mg base 0 "is_word" (topS 13) ["thing", "words"] (w_is_word c) := fun f cdv A outer s H E hr tk hp => by
    have S := sc_is_word
    exact
      (dss_one (ds_ret (de_and (de_isi (T := .str) (by rfl) T.b_isinstance (by rfl) T.b_str ((de_var 0)).dl) (de_one (de_cmp (opa_in (hu65 hr)) ((de_var 0)).dl ((de_var 1)).dl)))))
theorem h_is_word (c : Cl) (X : Xs c) (ds : List D) (Q : D → Prop) (R : EX → Prop) (h : s_is_word c ds Q R) : ds.length = 2 ∧ w_is_word c (fun ex _ => R ex) ⟨fun _ => Q .non, fun _ => Q, fun _ => False, fun _ => False⟩ (slots0 ["thing", "words"] ["thing", "words"] ds) := by
  unfold s_is_word at h
  split at h
  · rename_i t ws
    refine ⟨rfl, ?_⟩
    obtain ⟨h0, xs, e, h⟩ := h
    cases strsOf_eq e
    cases t <;> simp [w_is_word] <;> first | exact h | (cases h0; done) | skip
    rename_i x
    rw [← List.any_map (f := D.str), any_deq_str]
    exact h
  · exact h.elim
theorem ok_is_word (c : Cl) (T : Txt c mg base) : Good P TabC.w c.K mg base 1 "is_word" ["thing", "words"] (spV c.K (s_is_word c)) := goodV T.f_is_word sc_is_word (d_is_word c T) fun ds Q R h => h_is_word c T.X ds Q R h
/-! is_clause -/
def s_is_clause (c : Cl) : AS := fun ds Q R => match ds with
  | [t] => pln t = true ∧ Q (.bl (clD t))
  | _ => False
@[simp ↓] theorem s_is_clause_ {c : Cl} {t : D} {Q : D → Prop} {R : EX → Prop} : @caK (s_is_clause c) [t] ⟨Q⟩ ⟨R⟩ = (pln t = true ∧ Q (.bl (clD t))) := (rfl)
def w_is_clause (c : Cl) : WS :=
    (wsC (wIfS (wOrT (wNotT (wTru (wIsi .tuple (wVar 0)))) (wTest (wOp oNe (wB bLen (wCons (wVar 0) wNil)) (wC (.int 4)))))
    (wRet (wC (.bl false)))
    ws0)
    (wsC (wAsg (wVar 0) (gT (gs1 (gN 1) (gs1 (gN 2) (gs1 (gN 3) (gs1 (gN 4) gs0))))))
    (wsC (wIfS (wOrT (wNotT (wTru (wCall (s_is_word c) (wCons (wVar 1) (wCons (wC (.tup ((["fresh", "stale"] : List Str).map D.str))) wNil))))) (wNotT (wTru (wCall (s_is_word c) (wCons (wVar 4) (wCons (wC (.tup ((["first", "last"] : List Str).map D.str))) wNil))))))
    (wRet (wC (.bl false)))
    ws0)
    (wRet ((wAndV (wCall (s_is_whole c) (wCons (wVar 2) (wCons (wC (.int 0)) (wCons (wC (.int 9)) wNil)))) (wCall (s_is_whole c) (wCons (wVar 3) (wCons (wVar 2) (wCons (wC (.int 9)) wNil))))))))))
theorem sc_is_clause : FnScope ["thing", "word", "low", "high", "side"] ["thing"] (defScope (topS 14)) := ⟨rfl, rfl, rfl, by decide +kernel, rfl, by decide +kernel, by decide +kernel⟩
theorem d_is_clause (c : Cl) (T : Txt c mg base) : HB P TabC.w c.K mg base 1 "is_clause" (topS 14) ["thing", "word", "low", "high", "side"] (w_is_clause c) := fun f cdv A outer s H E hr tk hp => by
    have S := sc_is_clause
    exact
      (dss_cons (ds_if (dw_or (dt_not (dt_truth ((de_isi (T := .tuple) (by rfl) T.b_isinstance (by rfl) T.b_tuple ((de_var 0)).dl)).dl)) (dw_or1 (dt_cmp (cmp_ne (hu64 hr)) ((de_callB ca_len call_len_seq (by rfl) T.b_len (dal_cons ((de_var 0)).dl dal_nil))).dl ((de_int)).dl))).dt
      (dss_one (ds_ret (de_bl)))
      dss_nil)
      (dss_cons (ds_asg (de_var 0) (dg_tup rfl (dgs_cons (dg_name 1 S.nd) (dgs_cons (dg_name 2 S.nd) (dgs_cons (dg_name 3 S.nd) (dgs_cons (dg_name 4 S.nd) dgs_nil)))) (n := 4) rfl (gs_len1 (gs_len1 (gs_len1 (gs_len1 gs_len0))))))
      (dss_cons (ds_if (dw_or (dt_not (dt_truth ((dc (ok_is_word c T) hr (by decide) tk (da_cons (de_var 1) (da_cons (de_gtup (xs := ["fresh", "stale"]) T.g_WORDS) da_nil)))).dl)) (dw_or1 (dt_not (dt_truth ((dc (ok_is_word c T) hr (by decide) tk (da_cons (de_var 4) (da_cons (de_gtup (xs := ["first", "last"]) T.g_SIDES) da_nil)))).dl)))).dt
      (dss_one (ds_ret (de_bl)))
      dss_nil)
      (dss_one (ds_ret (de_and (dc (ok_is_whole c T) hr (by decide) tk (da_cons (de_var 2) (da_cons (de_int) (da_cons (de_gint T.g_MOST_MARK) da_nil)))) (de_one (dc (ok_is_whole c T) hr (by decide) tk (da_cons (de_var 3) (da_cons (de_var 2) (da_cons (de_gint T.g_MOST_MARK) da_nil)))))))))))
theorem h_is_clause (c : Cl) (X : Xs c) (ds : List D) (Q : D → Prop) (R : EX → Prop) (h : s_is_clause c ds Q R) : ds.length = 1 ∧ w_is_clause c (fun ex _ => R ex) ⟨fun _ => Q .non, fun _ => Q, fun _ => False, fun _ => False⟩ (slots0 ["thing", "word", "low", "high", "side"] ["thing"] ds) := by
  unfold s_is_clause at h
  split at h
  · rename_i t
    refine ⟨rfl, ?_⟩
    obtain ⟨h0, h⟩ := h
    cases t <;> simp [w_is_clause] <;> first | exact h | (cases h0; done) | skip
    rename_i xs
    rcases xs with _ | ⟨w, _ | ⟨l, _ | ⟨u, _ | ⟨s, _ | ⟨e, r⟩⟩⟩⟩⟩ <;> simp <;> try exact h
    · simp at h0
      have n1 := pln_no h0.1
      have n2 := pln_no h0.2.1
      have n3 := pln_no h0.2.2.1
      have n4 := pln_no h0.2.2.2
      simp only [clD] at h
      by_cases hw : inW ["fresh", "stale"] w = true <;> simp [hw, n1] at h ⊢ <;> try exact h
      by_cases hs : inW ["first", "last"] s = true <;> simp [hs, n4] at h ⊢ <;> try exact h
      cases l <;> simp [n2, whD] at h ⊢ <;> try exact h
      rename_i i
      by_cases hi : 0 ≤ i ∧ i ≤ 9
      · simp [hi, n3] at h ⊢; exact h
      · rw [if_neg hi]
        have : (decide (0 ≤ i) && decide (i ≤ 9)) = false := by simpa using hi
        simp [this] at h; exact h
  · exact h.elim
theorem ok_is_clause (c : Cl) (T : Txt c mg base) : Good P TabC.w c.K mg base 2 "is_clause" ["thing"] (spV c.K (s_is_clause c)) := goodV T.f_is_clause sc_is_clause (d_is_clause c T) fun ds Q R h => h_is_clause c T.X ds Q R h
/-! is_rule -/
def s_is_rule (c : Cl) : AS := fun ds Q R => match ds with
  | [t] => pln t = true ∧ Q (.bl (rlD t))
  | _ => False
@[simp ↓] theorem s_is_rule_ {c : Cl} {t : D} {Q : D → Prop} {R : EX → Prop} : @caK (s_is_rule c) [t] ⟨Q⟩ ⟨R⟩ = (pln t = true ∧ Q (.bl (rlD t))) := (rfl)
def w_is_rule (c : Cl) : WS :=
    (wRet ((wAndV (wIsi .tuple (wVar 0)) (wAndV (wOp (oCmp fun i j => decide (i ≤ j)) (wB bLen (wCons (wVar 0) wNil)) (wC (.int 4))) (wB bAll (wCons (wLc (wSeq (wVar 0)) (gN 1) wYes (wCall (s_is_clause c) (wCons (wVar 1) wNil)) [1]) wNil))))))
theorem sc_is_rule : FnScope ["thing", "one"] ["thing"] (defScope (topS 15)) := ⟨rfl, rfl, rfl, by decide +kernel, rfl, by decide +kernel, by decide +kernel⟩
theorem d_is_rule (c : Cl) (T : Txt c mg base) : HB P TabC.w c.K mg base 2 "is_rule" (topS 15) ["thing", "one"] (w_is_rule c) := fun f cdv A outer s H E hr tk hp => by
    have S := sc_is_rule
    exact
      (dss_one (ds_ret (de_and (de_isi (T := .tuple) (by rfl) T.b_isinstance (by rfl) T.b_tuple ((de_var 0)).dl) (de_and (de_cmp cmp_le ((de_callB ca_len call_len_seq (by rfl) T.b_len (dal_cons ((de_var 0)).dl dal_nil))).dl ((de_int)).dl) (de_one (de_callB ca_all (cr_all rfl) (by rfl) T.b_all (dal_cons ((dn_lc (own := [("one", 1)]) rfl S.nd (dil_seq ((de_var 0)).dl) (blkOk_by (N := ["thing", "one"]) (sc := defScope (topS 15)) (by first | decide +kernel | rfl)) (by decide) (fun _ _ _ _ _ => (dg_name 1 S.nd)) (fun _ _ _ _ _ => dts_nil) (fun _ _ _ _ _ => (dc (ok_is_clause c T) hr (by decide) takes0 (da_cons (de_var 1) da_nil))))).de.dl dal_nil)))))))
theorem h_is_rule (c : Cl) (X : Xs c) (ds : List D) (Q : D → Prop) (R : EX → Prop) (h : s_is_rule c ds Q R) : ds.length = 1 ∧ w_is_rule c (fun ex _ => R ex) ⟨fun _ => Q .non, fun _ => Q, fun _ => False, fun _ => False⟩ (slots0 ["thing", "one"] ["thing"] ds) := by
  unfold s_is_rule at h
  split at h
  · rename_i t
    refine ⟨rfl, ?_⟩
    obtain ⟨h0, h⟩ := h
    cases t <;> simp [w_is_rule] <;> first | exact h | (cases h0; done) | skip
    rename_i xs
    simp at h0
    by_cases hn : xs.length ≤ 4
    · have hn' : (xs.length : Int) ≤ 4 := by omega
      simp [hn, hn', h0.1, rlD] at h ⊢
      refine comp_map (fun d => .bl (clD d)) (fun d hd K1 hk => ?_) ?_
      · have := List.all_eq_true.mp (by rw [plns_all] at h0; exact h0.2) d hd
        simpa [this] using hk
      · refine ⟨xs.map clD, rfl, by simp, ?_⟩
        rw [List.all_map]
        exact h
    · have hn' : ¬ (xs.length : Int) ≤ 4 := by omega
      simp [hn, hn', rlD] at h ⊢; exact h
  · exact h.elim
theorem ok_is_rule (c : Cl) (T : Txt c mg base) : Good P TabC.w c.K mg base 3 "is_rule" ["thing"] (spV c.K (s_is_rule c)) := goodV T.f_is_rule sc_is_rule (d_is_rule c T) fun ds Q R h => h_is_rule c T.X ds Q R h
/-! are_rules -/
def rlsD : D → Bool
  | .lst xs => (decide (1 ≤ xs.length) && decide (xs.length ≤ 3)) && xs.all rlD
  | _ => false
def s_are_rules (c : Cl) : AS := fun ds Q R => match ds with
  | [t] => pln t = true ∧ isScr t = false ∧ Q (.bl (rlsD t))
  | _ => False
@[simp ↓] theorem s_are_rules_ {c : Cl} {t : D} {Q : D → Prop} {R : EX → Prop} : @caK (s_are_rules c) [t] ⟨Q⟩ ⟨R⟩ = (pln t = true ∧ isScr t = false ∧ Q (.bl (rlsD t))) := (rfl)
def w_are_rules (c : Cl) : WS :=
    (wRet ((wAndV (wIsi .list (wVar 0)) (wAndV (wChain (oCmp fun i j => decide (i ≤ j)) (oCmp fun i j => decide (i ≤ j)) (wC (.int 1)) (wB bLen (wCons (wVar 0) wNil)) (wC (.int 3))) (wB bAll (wCons (wLc (wSeq (wVar 0)) (gN 1) wYes (wCall (s_is_rule c) (wCons (wVar 1) wNil)) [1]) wNil))))))
theorem sc_are_rules : FnScope ["thing", "one"] ["thing"] (defScope (topS 22)) := ⟨rfl, rfl, rfl, by decide +kernel, rfl, by decide +kernel, by decide +kernel⟩
theorem d_are_rules (c : Cl) (T : Txt c mg base) : HB P TabC.w c.K mg base 3 "are_rules" (topS 22) ["thing", "one"] (w_are_rules c) := fun f cdv A outer s H E hr tk hp => by
    have S := sc_are_rules
    exact
      (dss_one (ds_ret (de_and (de_isi (T := .list) (by rfl) T.b_isinstance (by rfl) T.b_list ((de_var 0)).dl) (de_and (de_chain cmp_le cmp_le ((de_int)).dl ((de_callB ca_len call_len_seq (by rfl) T.b_len (dal_cons ((de_var 0)).dl dal_nil))).dl ((de_gint T.g_MOST_WALKERS)).dl) (de_one (de_callB ca_all (cr_all rfl) (by rfl) T.b_all (dal_cons ((dn_lc (own := [("one", 1)]) rfl S.nd (dil_seq ((de_var 0)).dl) (blkOk_by (N := ["thing", "one"]) (sc := defScope (topS 22)) (by first | decide +kernel | rfl)) (by decide) (fun _ _ _ _ _ => (dg_name 1 S.nd)) (fun _ _ _ _ _ => dts_nil) (fun _ _ _ _ _ => (dc (ok_is_rule c T) hr (by decide) takes0 (da_cons (de_var 1) da_nil))))).de.dl dal_nil)))))))
theorem h_are_rules (c : Cl) (X : Xs c) (ds : List D) (Q : D → Prop) (R : EX → Prop) (h : s_are_rules c ds Q R) : ds.length = 1 ∧ w_are_rules c (fun ex _ => R ex) ⟨fun _ => Q .non, fun _ => Q, fun _ => False, fun _ => False⟩ (slots0 ["thing", "one"] ["thing"] ds) := by
  unfold s_are_rules at h
  split at h
  · rename_i t
    refine ⟨rfl, ?_⟩
    obtain ⟨h0, hsc, h⟩ := h
    cases t <;> simp at hsc <;> simp [w_are_rules, pln_no h0] <;> first | exact h | (cases h0; done) | skip
    rename_i xs
    simp at h0
    by_cases h1 : 1 ≤ xs.length
    · by_cases h8 : xs.length ≤ 3
      · have h1' : (1 : Int) ≤ xs.length := by omega
        have h8'' : (xs.length : Int) ≤ 3 := by omega
        have gz : xs.length ≤ 16777216 := by omega
        simp [h1', h8'', gz]
        refine comp_map (fun y => .bl (rlD y)) (fun y hy K1 hk => ?_) ?_
        · have := List.all_eq_true.mp (by have := h0.2; rw [plns_all] at this; exact this) y hy
          simp [this]
          exact hk
        · simpa [rlsD, h1, h8, Function.comp_def] using h
      · have h8'' : ¬ (xs.length : Int) ≤ 3 := by omega
        simp [h8'']
        simpa [rlsD, h8] using h
    · have h1' : ¬ (1 : Int) ≤ xs.length := by omega
      have h1'' : xs.length = 0 := by omega
      simp [h1', h1'']
      simpa [rlsD, h1''] using h
  · exact h.elim
theorem ok_are_rules (c : Cl) (T : Txt c mg base) : Good P TabC.w c.K mg base 4 "are_rules" ["thing"] (spV c.K (s_are_rules c)) := goodV T.f_are_rules sc_are_rules (d_are_rules c T) fun ds Q R h => h_are_rules c T.X ds Q R h
/-! are_ways -/
def rowD (hi : Int) : D → Bool
  | .tup ys => (decide (1 ≤ ys.length) && decide (ys.length ≤ 4)) && ys.all (whD 0 hi)
  | _ => false
def wysD : D → Bool
  | .lst xs => (decide (1 ≤ xs.length) && decide (xs.length ≤ 8)) && xs.all (rowD ((xs.length : Int) - 1))
  | _ => false
def s_are_ways (c : Cl) : AS := fun ds Q R => match ds with
  | [t] => pln t = true ∧ isScr t = false ∧ Q (.bl (wysD t))
  | _ => False
@[simp ↓] theorem s_are_ways_ {c : Cl} {t : D} {Q : D → Prop} {R : EX → Prop} : @caK (s_are_ways c) [t] ⟨Q⟩ ⟨R⟩ = (pln t = true ∧ isScr t = false ∧ Q (.bl (wysD t))) := (rfl)
def w_are_ways (c : Cl) : WS :=
    (wsC (wIfS (wOrT (wNotT (wTru (wIsi .list (wVar 0)))) (wNotT (wTest (wChain (oCmp fun i j => decide (i ≤ j)) (oCmp fun i j => decide (i ≤ j)) (wC (.int 1)) (wB bLen (wCons (wVar 0) wNil)) (wC (.int 8))))))
    (wRet (wC (.bl false)))
    ws0)
    (wsC (wFor (wSeq (wVar 0)) (gN 1)
    (wsC (wIfS (wOrT (wNotT (wTru (wIsi .tuple (wVar 1)))) (wNotT (wTest (wChain (oCmp fun i j => decide (i ≤ j)) (oCmp fun i j => decide (i ≤ j)) (wC (.int 1)) (wB bLen (wCons (wVar 1) wNil)) (wC (.int 4))))))
    (wRet (wC (.bl false)))
    ws0)
    (wIfS (wNotT (wTru (wB bAll (wCons (wLc (wSeq (wVar 1)) (gN 2) wYes (wCall (s_is_whole c) (wCons (wVar 2) (wCons (wC (.int 0)) (wCons (wOp oSub (wB bLen (wCons (wVar 0) wNil)) (wC (.int 1))) wNil)))) [2]) wNil))))
    (wRet (wC (.bl false)))
    ws0)))
    (wRet (wC (.bl true)))))
theorem sc_are_ways : FnScope ["thing", "row", "room"] ["thing"] (defScope (topS 21)) := ⟨rfl, rfl, rfl, by decide +kernel, rfl, by decide +kernel, by decide +kernel⟩
theorem d_are_ways (c : Cl) (T : Txt c mg base) : HB P TabC.w c.K mg base 1 "are_ways" (topS 21) ["thing", "row", "room"] (w_are_ways c) := fun f cdv A outer s H E hr tk hp => by
    have S := sc_are_ways
    exact
      (dss_cons (ds_if (dw_or (dt_not (dt_truth ((de_isi (T := .list) (by rfl) T.b_isinstance (by rfl) T.b_list ((de_var 0)).dl)).dl)) (dw_or1 (dt_not (dt_chain cmp_le cmp_le ((de_int)).dl ((de_callB ca_len call_len_seq (by rfl) T.b_len (dal_cons ((de_var 0)).dl dal_nil))).dl ((de_gint T.g_MOST_ROOMS)).dl)))).dt
      (dss_one (ds_ret (de_bl)))
      dss_nil)
      (dss_cons (ds_for hp rfl (di_seq (de_var 0)) (dg_name 1 S.nd)
      (dss_cons (ds_if (dw_or (dt_not (dt_truth ((de_isi (T := .tuple) (by rfl) T.b_isinstance (by rfl) T.b_tuple ((de_var 1)).dl)).dl)) (dw_or1 (dt_not (dt_chain cmp_le cmp_le ((de_int)).dl ((de_callB ca_len call_len_seq (by rfl) T.b_len (dal_cons ((de_var 1)).dl dal_nil))).dl ((de_gint T.g_MOST_WAYS)).dl)))).dt
      (dss_one (ds_ret (de_bl)))
      dss_nil)
      (dss_one (ds_if (dt_not (dt_truth ((de_callB ca_all (cr_all rfl) (by rfl) T.b_all (dal_cons ((dn_lc (own := [("room", 2)]) rfl S.nd (dil_seq ((de_var 1)).dl) (blkOk_by (N := ["thing", "row", "room"]) (sc := defScope (topS 21)) (by first | decide +kernel | rfl)) (by decide) (fun _ _ _ _ _ => (dg_name 2 S.nd)) (fun _ _ _ _ _ => dts_nil) (fun _ _ _ _ _ => (dc (ok_is_whole c T) hr (by decide) takes0 (da_cons (de_var 2) (da_cons (de_int) (da_cons (de_sub ((de_callB ca_len call_len_seq (by rfl) T.b_len (dal_cons ((de_var 0)).dl dal_nil))).dl ((de_int)).dl) da_nil))))))).de.dl dal_nil))).dl))
      (dss_one (ds_ret (de_bl)))
      dss_nil))))
      (dss_one (ds_ret (de_bl)))))
theorem h_are_ways (c : Cl) (X : Xs c) (ds : List D) (Q : D → Prop) (R : EX → Prop) (h : s_are_ways c ds Q R) : ds.length = 1 ∧ w_are_ways c (fun ex _ => R ex) ⟨fun _ => Q .non, fun _ => Q, fun _ => False, fun _ => False⟩ (slots0 ["thing", "row", "room"] ["thing"] ds) := by
  unfold s_are_ways at h
  split at h
  · rename_i t
    refine ⟨rfl, ?_⟩
    obtain ⟨h0, hsc, h⟩ := h
    cases t <;> simp at hsc <;> simp [w_are_ways, pln_no h0] <;> first | exact h | (cases h0; done) | skip
    rename_i xs
    simp at h0
    by_cases h1 : 1 ≤ xs.length
    · by_cases h8 : xs.length ≤ 8
      · have h1' : (1 : Int) ≤ xs.length := by omega
        have h8' : ¬ (8 : Int) < xs.length := by omega
        have h8'' : (xs.length : Int) ≤ 8 := by omega
        simp [h1', h8', h8'']
        refine for_ds (fun r ρ => (∃ s1, ρ = [.val (.lst xs), s1, .un]) ∧ plns r = true ∧ Q (.bl (r.all (rowD ((xs.length : Int) - 1))))) (fun a r ρ nx hI ih => ?_) (fun ρ hI => ?_) xs _ ⟨⟨_, rfl⟩, h0.2, ?_⟩
        · obtain ⟨⟨s1, rfl⟩, hp, hq⟩ := hI
          simp at hp
          simp only [List.all_cons] at hq
          cases a <;> simp [pln_no hp.1] <;> first | (simpa [rowD] using hq) | (simp at hp; done) | skip
          rename_i ys
          simp at hp
          by_cases g1 : 1 ≤ ys.length
          · by_cases g4 : ys.length ≤ 4
            · have g1' : (1 : Int) ≤ ys.length := by omega
              have g4' : ¬ (4 : Int) < ys.length := by omega
              have g4'' : (ys.length : Int) ≤ 4 := by omega
              have gz : ys.length ≤ 16777216 := by omega
              simp [g1', g4', g4'', gz]
              refine comp_map (fun y => .bl (whD 0 ((xs.length : Int) - 1) y)) (fun y hy K1 hk => ?_) ?_
              · have := List.all_eq_true.mp (by have := hp.1.2; rw [plns_all] at this; exact this) y hy
                simp [pln_no this]
                exact hk
              · have e1 : rowD ((xs.length : Int) - 1) (.tup ys) = ys.all (whD 0 ((xs.length : Int) - 1)) := by simp [rowD, g1, g4]
                rw [e1] at hq
                simp [Function.comp_def]
                cases e : ys.all (whD 0 ((xs.length : Int) - 1))
                · rw [e] at hq
                  have e2 : ∃ x, x ∈ ys ∧ whD 0 ((xs.length : Int) - 1) x = false := by simpa using e
                  simp [e2]; simpa using hq
                · rw [e] at hq
                  have e2 : ¬ ∃ x, x ∈ ys ∧ whD 0 ((xs.length : Int) - 1) x = false := fun ⟨x, hx, hy⟩ => by
                    rw [List.all_eq_true.mp e x hx] at hy; cases hy
                  simp only [if_neg e2]
                  exact ih _ ⟨⟨_, rfl⟩, hp.2, by simpa using hq⟩
            · have g4' : (4 : Int) < ys.length := by omega
              have g4'' : ¬ (ys.length : Int) ≤ 4 := by omega
              simp [g4', g4'']
              simpa [rowD, g4] using hq
          · have g1' : ¬ (1 : Int) ≤ ys.length := by omega
            have g1'' : ys.length = 0 := by omega
            simp [g1', g1'']
            simpa [rowD, g1''] using hq
        · obtain ⟨⟨s1, rfl⟩, hp, hq⟩ := hI
          simpa using hq
        · simpa [wysD, h1, h8] using h
      · have h8' : (8 : Int) < xs.length := by omega
        have h8'' : ¬ (xs.length : Int) ≤ 8 := by omega
        simp [h8', h8'']
        simpa [wysD, h8] using h
    · have h1' : ¬ (1 : Int) ≤ xs.length := by omega
      have h1'' : xs.length = 0 := by omega
      simp [h1', h1'']
      simpa [wysD, h1''] using h
  · exact h.elim
theorem ok_are_ways (c : Cl) (T : Txt c mg base) : Good P TabC.w c.K mg base 2 "are_ways" ["thing"] (spV c.K (s_are_ways c)) := goodV T.f_are_ways sc_are_ways (d_are_ways c T) fun ds Q R h => h_are_ways c T.X ds Q R h
/-! sure_floor -/
def s_sure_floor (c : Cl) : AS := fun ds Q R => match ds with
  | [t, l] => pln t = true ∧ isScr t = false ∧ pln l = true ∧ wysD t = true ∧ whD 1 6 l = true ∧ Q .non
  | _ => False
@[simp ↓] theorem s_sure_floor_ {c : Cl} {t l : D} {Q : D → Prop} {R : EX → Prop} : @caK (s_sure_floor c) [t, l] ⟨Q⟩ ⟨R⟩ = (pln t = true ∧ isScr t = false ∧ pln l = true ∧ wysD t = true ∧ whD 1 6 l = true ∧ Q .non) := (rfl)
def w_sure_floor (c : Cl) : WS :=
    (wsC (wIfS (wNotT (wTru (wCall (s_are_ways c) (wCons (wVar 0) wNil))))
    (wRai1 c.NoWorld "what" (wC (.str "ways")))
    ws0)
    (wIfS (wNotT (wTru (wCall (s_is_whole c) (wCons (wVar 1) (wCons (wC (.int 1)) (wCons (wC (.int 6)) wNil))))))
    (wRai1 c.NoWorld "what" (wC (.str "life")))
    ws0))
theorem sc_sure_floor : FnScope ["ways", "life"] ["ways", "life"] (defScope (topS 23)) := ⟨rfl, rfl, rfl, by decide +kernel, rfl, by decide +kernel, by decide +kernel⟩
theorem d_sure_floor (c : Cl) (T : Txt c mg base) : HB P TabC.w c.K mg base 2 "sure_floor" (topS 23) ["ways", "life"] (w_sure_floor c) := fun f cdv A outer s H E hr tk hp => by
    have S := sc_sure_floor
    exact
      (dss_cons (ds_if (dt_not (dt_truth ((dc (ok_are_ways c T) hr (by decide) tk (da_cons (de_var 0) da_nil))).dl))
      (dss_one (ds_raise1 rfl tk (ok_NoWorld___init__ c T) T.x_NoWorld hr (by decide) (de_str)))
      dss_nil)
      (dss_one (ds_if (dt_not (dt_truth ((dc (ok_is_whole c T) hr (by decide) tk (da_cons (de_var 1) (da_cons (de_int) (da_cons (de_gint T.g_MOST_LIFE) da_nil))))).dl))
      (dss_one (ds_raise1 rfl tk (ok_NoWorld___init__ c T) T.x_NoWorld hr (by decide) (de_str)))
      dss_nil)))
theorem h_sure_floor (c : Cl) (X : Xs c) (ds : List D) (Q : D → Prop) (R : EX → Prop) (h : s_sure_floor c ds Q R) : ds.length = 2 ∧ w_sure_floor c (fun ex _ => R ex) ⟨fun _ => Q .non, fun _ => Q, fun _ => False, fun _ => False⟩ (slots0 ["ways", "life"] ["ways", "life"] ds) := by
  unfold s_sure_floor at h
  split at h
  · rename_i t l
    refine ⟨rfl, ?_⟩
    obtain ⟨h0, hs, h1, h2, h3, h⟩ := h
    simp [w_sure_floor, h0, hs, pln_no h1, h2, h3]
    exact h
  · exact h.elim
theorem ok_sure_floor (c : Cl) (T : Txt c mg base) : Good P TabC.w c.K mg base 3 "sure_floor" ["ways", "life"] (spV c.K (s_sure_floor c)) := goodV T.f_sure_floor sc_sure_floor (d_sure_floor c T) fun ds Q R h => h_sure_floor c T.X ds Q R h
/-! World___init__ -/
theorem maxL_snoc {ns : List Int} {x : Int} (h : ns ≠ []) : maxL (ns ++ [x]) = max (maxL ns) x := by
  obtain ⟨h1, h2⟩ := maxL_mem h
  symm
  refine maxL_eq ?_ fun y hy => ?_
  · rw [List.mem_append]
    by_cases e : maxL ns ≤ x
    · right; simp; omega
    · left; rw [Int.max_eq_left (by omega)]; exact h1
  · rcases List.mem_append.mp hy with hy | hy
    · have := h2 y hy; omega
    · simp at hy; omega
theorem minL_snoc {ns : List Int} {x : Int} (h : ns ≠ []) : minL (ns ++ [x]) = min (minL ns) x := by
  obtain ⟨h1, h2⟩ := minL_mem h
  symm
  refine minL_eq ?_ fun y hy => ?_
  · rw [List.mem_append]
    by_cases e : x ≤ minL ns
    · right; simp; omega
    · left; rw [Int.min_eq_left (by omega)]; exact h1
  · rcases List.mem_append.mp hy with hy | hy
    · have := h2 y hy; omega
    · simp at hy; omega
theorem plc_snoc {w x : Int} : ∀ {i : Nat} {p : List Int}, plc w i (p ++ [x]) = plc w i p ++ if x = w then [((i + p.length : Nat) : Int)] else []
  | i, [] => by simp [plc]
  | i, m :: ms => by
    have ih := plc_snoc (w := w) (x := x) (i := i + 1) (p := ms)
    have e : i + 1 + ms.length = i + (m :: ms).length := by simp; omega
    rw [e] at ih
    rw [List.cons_append, plc, plc, ih]
    split <;> simp
theorem plc_none {w : Int} : ∀ {i : Nat} {p : List Int}, w ∉ p → plc w i p = []
  | i, [], _ => rfl
  | i, m :: ms, h => by
    rw [plc, if_neg (fun e => h (by rw [e]; exact List.mem_cons_self ..)), plc_none fun z => h (List.mem_cons_of_mem _ z)]
theorem plc_get {w x : Int} : ∀ {i : Nat} {p : List Int}, x ∈ plc w i p → p[(x - i).toNat]? = some w
  | i, [], h => by simp [plc] at h
  | i, m :: ms, h => by
    have key : x ∈ plc w (i + 1) ms → (m :: ms)[(x - i).toNat]? = some w := fun h => by
      have h1 := plc_mem h
      have h2 := plc_get h
      have : (x - i).toNat = (x - (i + 1 : Nat)).toNat + 1 := by omega
      rw [this]; exact h2
    unfold plc at h
    split at h
    · rename_i e
      rcases List.mem_cons.mp h with rfl | h
      · simp [e]
      · exact key h
    · exact key h
theorem getLastD_mem {xs : List Int} {d : Int} (h : xs ≠ []) : xs.getLastD d ∈ xs := by
  cases xs with
  | nil => exact absurd rfl h
  | cons x r => rw [List.getLastD_cons]; exact List.getLastD_mem_cons
theorem headD_mem {xs : List Int} {d : Int} (h : xs ≠ []) : xs.headD d ∈ xs := by
  cases xs with
  | nil => exact absurd rfl h
  | cons x r => exact List.mem_cons_self ..
theorem placeC_mem {a : Cla} {p : List Int} (h : someC a p ≠ []) : placeC a p ∈ plc (wishC a p) 0 p := by
  have := plc_len_pos h
  unfold placeC
  split
  · exact headD_mem this
  · exact getLastD_mem this
theorem placeC_lt {a : Cla} {p : List Int} (h : someC a p ≠ []) : 0 ≤ placeC a p ∧ placeC a p < p.length := by
  have := plc_mem (placeC_mem h)
  simpa using this
theorem placeC_get {a : Cla} {p : List Int} (h : someC a p ≠ []) : p[(placeC a p).toNat]? = some (wishC a p) := by
  have := plc_get (placeC_mem h)
  simpa using this
def inC (a : Cla) (x : Int) : Bool := decide (a.lo ≤ x) && decide (x ≤ a.hi)
theorem someC_snoc {a : Cla} {p : List Int} {x : Int} : someC a (p ++ [x]) = someC a p ++ if inC a x = true then [x] else [] := by
  unfold someC
  rw [List.filter_append, List.filter_cons]
  unfold inC
  rfl
theorem wish_in {a : Cla} {p : List Int} (h : someC a p ≠ []) : inC a (wishC a p) = true := by
  have : ∀ x ∈ someC a p, inC a x = true := fun x hx => (List.mem_filter.mp hx).2
  unfold wishC
  split
  · exact this _ (maxL_mem h).1
  · exact this _ (minL_mem h).1
theorem wish_best {a : Cla} {p : List Int} {x : Int} (hx : x ∈ p) (hi : inC a x = true) : if a.fresh = true then x ≤ wishC a p else wishC a p ≤ x := by
  have hm : x ∈ someC a p := List.mem_filter.mpr ⟨hx, hi⟩
  have h : someC a p ≠ [] := List.ne_nil_of_mem hm
  unfold wishC
  split
  · exact (maxL_mem h).2 x hm
  · exact (minL_mem h).2 x hm
/-- what the search has at the end of some marks -/
def bestC (a : Cla) (p : List Int) : Option Int := if someC a p = [] then none else some (placeC a p)
theorem wish_snoc {a : Cla} {p : List Int} {x : Int} (h : someC a p ≠ []) (hi : inC a x = true) : wishC a (p ++ [x]) = if a.fresh = true then max (wishC a p) x else min (wishC a p) x := by
  unfold wishC
  rw [someC_snoc, if_pos hi]
  split
  · exact maxL_snoc h
  · exact minL_snoc h
theorem bestC_out {a : Cla} {p : List Int} {x : Int} (hi : inC a x = false) : bestC a (p ++ [x]) = bestC a p := by
  have e : someC a (p ++ [x]) = someC a p := by rw [someC_snoc, hi]; simp
  unfold bestC
  rw [e]
  split
  · rfl
  · rename_i h
    have w : wishC a (p ++ [x]) = wishC a p := by unfold wishC; rw [e]
    unfold placeC
    have hne : x ≠ wishC a p := fun z => by rw [z, wish_in h] at hi; cases hi
    rw [w, plc_snoc, if_neg hne, List.append_nil]
theorem bestC_new {a : Cla} {p : List Int} {x : Int} (hi : inC a x = true) (hw : wishC a (p ++ [x]) = x) (hn : x ∉ p) : bestC a (p ++ [x]) = some p.length := by
  unfold bestC
  rw [if_neg (by rw [someC_snoc, if_pos hi]; simp)]
  unfold placeC
  rw [hw, plc_snoc, if_pos rfl, plc_none hn]
  simp
theorem bestC_first {a : Cla} {p : List Int} {x : Int} (h : bestC a p = none) (hi : inC a x = true) : bestC a (p ++ [x]) = some p.length := by
  have h : someC a p = [] := by unfold bestC at h; split at h; assumption; cases h
  refine bestC_new hi ?_ fun hx => ?_
  · unfold wishC
    rw [someC_snoc, h, if_pos hi]
    split <;> rfl
  · have : x ∈ someC a p := List.mem_filter.mpr ⟨hx, hi⟩
    rw [h] at this; cases this
theorem bestC_some {a : Cla} {p : List Int} {b : Int} (h : bestC a p = some b) : someC a p ≠ [] ∧ b = placeC a p ∧ 0 ≤ b ∧ b < p.length ∧ p[b.toNat]? = some (wishC a p) := by
  unfold bestC at h
  split at h
  · cases h
  · rename_i hs
    cases h
    exact ⟨hs, rfl, (placeC_lt hs).1, (placeC_lt hs).2, placeC_get hs⟩
theorem bestC_same {a : Cla} {p : List Int} {x b : Int} (h : bestC a p = some b) (hi : inC a x = true) (hx : x = wishC a p) : bestC a (p ++ [x]) = some (if a.first = true then b else p.length) := by
  obtain ⟨hs, rfl, _⟩ := bestC_some h
  have w : wishC a (p ++ [x]) = wishC a p := by rw [wish_snoc hs hi, hx]; simp
  unfold bestC
  rw [if_neg (by rw [someC_snoc, if_pos hi]; simp)]
  unfold placeC
  rw [w, plc_snoc, if_pos hx]
  have := plc_len_pos hs
  cases e : plc (wishC a p) 0 p with
  | nil => exact absurd e this
  | cons y ys =>
    have hl : ∀ z : Int, (y :: (ys ++ [z])).getLast? = some z := fun z => by
      rw [← List.cons_append]; exact List.getLast?_concat
    cases a.first <;> simp [hl]
theorem bestC_other {a : Cla} {p : List Int} {x b : Int} (h : bestC a p = some b) (hi : inC a x = true) (hx : x ≠ wishC a p) : bestC a (p ++ [x]) = some (if decide (wishC a p < x) = a.fresh then (p.length : Int) else b) := by
  obtain ⟨hs, rfl, _⟩ := bestC_some h
  have ws := wish_snoc hs hi
  split
  · rename_i hf
    refine bestC_new hi ?_ fun hm => ?_
    · rw [ws]
      cases e : a.fresh <;> simp [e] at hf ⊢ <;> omega
    · have := wish_best hm hi
      cases e : a.fresh <;> simp [e] at hf this ⊢ <;> omega
  · rename_i hf
    have w : wishC a (p ++ [x]) = wishC a p := by
      rw [ws]
      cases e : a.fresh <;> simp [e] at hf ⊢ <;> omega
    unfold bestC
    rw [if_neg (by rw [someC_snoc, if_pos hi]; simp)]
    unfold placeC
    rw [w, plc_snoc, if_neg hx, List.append_nil]
theorem pickR_lt : ∀ (r : List Cla) (m : List Int), 0 < m.length → 0 ≤ pickR r m ∧ pickR r m < m.length
  | [], m, h => ⟨Int.le_refl _, by unfold pickR; omega⟩
  | a :: r, m, h => by
    unfold pickR
    by_cases e : someC a m = []
    · rw [if_pos e]; exact pickR_lt r m h
    · rw [if_neg e]; exact placeC_lt e
theorem map_injE {α β : Type} {f : α → β} (hf : ∀ a b, f a = f b → a = b) {xs ys : List α} : (xs.map f = ys.map f) = (xs = ys) := propext ⟨fun h => List.map_inj_right hf |>.mp h, fun h => by rw [h]⟩
theorem encC_inj {a b : Cla} (h : encC a = encC b) : a = b := by
  have := congrArg clOf h
  simpa using this
@[simp] theorem encC_eq {a b : Cla} : (encC a = encC b) = (a = b) := propext ⟨encC_inj, fun h => by rw [h]⟩
@[simp] theorem map_encC_eq {r s : List Cla} : (r.map encC = s.map encC) = (r = s) := map_injE fun _ _ => encC_inj
@[simp] theorem map_int_eq {r s : List Int} : (r.map D.int = s.map D.int) = (r = s) := map_injE fun _ _ h => by cases h; rfl
/-- numbers of rooms -/
def natD (n : Nat) : D := .int (n : Int)
theorem natD_inj {a b : Nat} (h : natD a = natD b) : a = b := by unfold natD at h; injection h; omega
@[simp] theorem map_natD_eq {r s : List Nat} : (r.map natD = s.map natD) = (r = s) := map_injE fun _ _ => natD_inj
def encRow (r : List Nat) : D := .tup (r.map natD)
def encRule (r : List Cla) : D := .tup (r.map encC)
@[simp] theorem seqOf_encRow {r : List Nat} : seqOf (encRow r) = some (r.map natD) := (rfl)
theorem encRow_inj {a b : List Nat} (h : encRow a = encRow b) : a = b := by unfold encRow at h; simpa using h
theorem encRule_inj {a b : List Cla} (h : encRule a = encRule b) : a = b := by unfold encRule at h; simpa using h
@[simp] theorem map_encRow_eq {r s : List (List Nat)} : (r.map encRow = s.map encRow) = (r = s) := map_injE fun _ _ => encRow_inj
@[simp] theorem map_encRule_eq {r s : List (List Cla)} : (r.map encRule = s.map encRule) = (r = s) := map_injE fun _ _ => encRule_inj
structure Wld where
  ways : List (List Nat)
  life : Int
  rules : List (List Cla)
deriving DecidableEq
def Wld.n (w : Wld) : Nat := w.ways.length
structure Wld.ok (w : Wld) : Prop where
  n1 : 1 ≤ w.n
  n8 : w.n ≤ 8
  row : ∀ r ∈ w.ways, 1 ≤ r.length ∧ r.length ≤ 4 ∧ ∀ g ∈ r, g < w.n
  l1 : 1 ≤ w.life
  l6 : w.life ≤ 6
  k1 : 1 ≤ w.rules.length
  k3 : w.rules.length ≤ 3
  rule : ∀ r ∈ w.rules, r.length ≤ 4 ∧ ∀ a ∈ r, 0 ≤ a.lo ∧ a.lo ≤ a.hi ∧ a.hi ≤ 9
def wNm : List Str := ["floor", "lasting", "wanted"]
def wVs (w : Wld) : List D := [.tup (w.ways.map encRow), .int w.life, .tup (w.rules.map encRule)]
def encW (C : Addr) (w : Wld) : D := .ins C wNm (wVs w)
@[simp] theorem encW_eq {C : Addr} {w v : Wld} : (encW C w = encW C v) = (w = v) := propext ⟨fun h => by
  unfold encW wVs at h
  injection h with _ _ h
  obtain ⟨a, b, d⟩ := w
  obtain ⟨a', b', d'⟩ := v
  simp at h
  obtain ⟨rfl, rfl, rfl⟩ := h
  rfl, fun h => by rw [h]⟩
@[simp ↓] theorem insK_encW {C : Addr} {w : Wld} {Q : List Str → List D → Prop} : @insK C (encW C w) ⟨Q⟩ = Q wNm (wVs w) := propext ⟨fun h => h.2, fun h => ⟨rfl, h⟩⟩
@[simp] theorem look_floor {w : Wld} : (wNm.zip (wVs w)).lookup ("floor" : Str) = some (.tup (w.ways.map encRow)) := (rfl)
@[simp] theorem look_lasting {w : Wld} : (wNm.zip (wVs w)).lookup ("lasting" : Str) = some (.int w.life) := (rfl)
@[simp] theorem look_wanted {w : Wld} : (wNm.zip (wVs w)).lookup ("wanted" : Str) = some (.tup (w.rules.map encRule)) := (rfl)
theorem insM_encW {C : Addr} {m : Str} {w : Wld} {Q : D → Prop} (h : (wNm.zip (wVs w)).lookup m = none) : @insM C m (encW C w) ⟨Q⟩ = Q (encW C w) := propext ⟨fun z => z.2.2, fun z => ⟨rfl, h, z⟩⟩
@[simp ↓] theorem insM_rooms {C : Addr} {w : Wld} {Q : D → Prop} : @insM C "rooms" (encW C w) ⟨Q⟩ = Q (encW C w) := insM_encW rfl
@[simp ↓] theorem insM_walkers {C : Addr} {w : Wld} {Q : D → Prop} : @insM C "walkers" (encW C w) ⟨Q⟩ = Q (encW C w) := insM_encW rfl
@[simp ↓] theorem insM_life {C : Addr} {w : Wld} {Q : D → Prop} : @insM C "life" (encW C w) ⟨Q⟩ = Q (encW C w) := insM_encW rfl
@[simp ↓] theorem insM_ways {C : Addr} {w : Wld} {Q : D → Prop} : @insM C "ways" (encW C w) ⟨Q⟩ = Q (encW C w) := insM_encW rfl
@[simp ↓] theorem insM_rules {C : Addr} {w : Wld} {Q : D → Prop} : @insM C "rules" (encW C w) ⟨Q⟩ = Q (encW C w) := insM_encW rfl
structure Std where
  rooms : List Nat
  marks : List Int
deriving DecidableEq
def encS (s : Std) : D := .tup [.tup (s.rooms.map natD), .tup (s.marks.map D.int)]
@[simp] theorem encS_eq {s t : Std} : (encS s = encS t) = (s = t) := propext ⟨fun h => by
  obtain ⟨a, b⟩ := s
  obtain ⟨a', b'⟩ := t
  simp [encS] at h
  obtain ⟨rfl, rfl⟩ := h
  rfl, fun h => by rw [h]⟩
@[simp ↓] theorem tupK_encS {s : Std} {Q : List D → Prop} : @tupK (encS s) ⟨Q⟩ = Q [.tup (s.rooms.map natD), .tup (s.marks.map D.int)] := (rfl)
@[simp] theorem seqOf_encS {s : Std} : seqOf (encS s) = some [.tup (s.rooms.map natD), .tup (s.marks.map D.int)] := (rfl)
structure Std.ok (w : Wld) (s : Std) : Prop where
  rl : s.rooms.length = w.rules.length
  rm : ∀ x ∈ s.rooms, x < w.n
  ml : s.marks.length = w.n
  mr : ∀ x ∈ s.marks, 0 ≤ x ∧ x ≤ w.life
/-- the marks that a walker sees -/
def seen (w : Wld) (s : Std) (room : Nat) : List Int := (w.ways.getD room []).map fun g => s.marks.getD g 0
def place (w : Wld) (s : Std) (r : List Cla) (room : Nat) : Int := pickR r (seen w s room)
def placesL (w : Wld) (s : Std) : List Int := (w.rules.zip s.rooms).map fun z => place w s z.1 z.2
def goal (w : Wld) (s : Std) (r : List Cla) (room : Nat) : Nat := (w.ways.getD room []).getD (place w s r room).toNat 0
def fade (m : Int) : Int := max (m - 1) 0
def nxt (w : Wld) (s : Std) : Std := ⟨(w.rules.zip s.rooms).map fun z => goal w s z.1 z.2, s.marks.zipIdx.map fun z => if z.2 ∈ s.rooms then w.life else fade z.1⟩
@[simp] theorem pln_natD {n : Nat} : pln (natD n) = true := pln_int
@[simp] theorem deq_natD {a b : Nat} : deq (natD a) (natD b) = (a == b) := by
  unfold natD
  rw [deq_int_int, Bool.eq_iff_iff, beq_iff_eq, beq_iff_eq]
  exact ⟨fun h => by omega, fun h => by omega⟩
@[simp] theorem deq_natD_int {a b : Nat} : deq (natD a) (.int (b : Int)) = (a == b) := deq_natD
@[simp] theorem deq_int_natD {a b : Nat} : deq (.int (a : Int)) (natD b) = (a == b) := deq_natD
@[simp] theorem flat_natD {n : Nat} : flatD (natD n) = true := (rfl)
@[simp] theorem opIx_natD {x : D} {i : Nat} {Q : D → Prop} : @opK oIx x (natD i) ⟨Q⟩ = @optK _ ((seqOf x).bind fun ds => ds[i]?) ⟨Q⟩ := by
  unfold natD
  rw [oIx_]
  simp
theorem wysD_enc {w : Wld} (h : w.ok) : wysD (.lst (w.ways.map encRow)) = true := by
  have h1 := h.n1
  have h8 := h.n8
  unfold Wld.n at h1 h8
  simp [wysD, h1, h8]
  intro r hr
  obtain ⟨l1, l4, hg⟩ := h.row r hr
  simp [encRow, rowD, l1, l4]
  intro g hg'
  have := hg g hg'
  unfold Wld.n at this
  simp [natD, whD]; omega
theorem rlsD_enc {w : Wld} (h : w.ok) : rlsD (.lst (w.rules.map encRule)) = true := by
  simp [rlsD, h.k1, h.k3]
  intro r hr
  exact rlD_encC (h.rule r hr).1 (h.rule r hr).2
theorem pln_encRow {r : List Nat} (h : r.length ≤ 16777216) : pln (encRow r) = true := by simp [encRow, h]
theorem pln_encRule {r : List Cla} (h : r.length ≤ 16777216) : pln (encRule r) = true := by simp [encRule, h]
theorem pln_ways {w : Wld} (h : w.ok) : pln (.lst (w.ways.map encRow)) = true := by
  have h8 := h.n8
  unfold Wld.n at h8
  simp
  exact ⟨by omega, fun r hr => pln_encRow (by have := (h.row r hr).2.1; omega)⟩
theorem pln_rules {w : Wld} (h : w.ok) : pln (.lst (w.rules.map encRule)) = true := by
  have h8 := h.k3
  simp
  exact ⟨by omega, fun r hr => pln_encRule (by have := (h.rule r hr).1; omega)⟩
def s_World___init__ (c : Cl) : AS := fun ds Q R => match ds with
  | [a, b, d] => ∃ w : Wld, w.ok ∧ a = .lst (w.ways.map encRow) ∧ b = .int w.life ∧ d = .lst (w.rules.map encRule) ∧ Q (encW c.World w)
  | _ => False
@[simp ↓] theorem s_World___init___ {c : Cl} {a b d : D} {Q : D → Prop} {R : EX → Prop} : @caK (s_World___init__ c) [a, b, d] ⟨Q⟩ ⟨R⟩ = (∃ w : Wld, w.ok ∧ a = .lst (w.ways.map encRow) ∧ b = .int w.life ∧ d = .lst (w.rules.map encRule) ∧ Q (encW c.World w)) := (rfl)
def w_World___init__ (c : Cl) : WS :=
    (wsC (wDrop (wCall (s_sure_floor c) (wCons (wVar 1) (wCons (wVar 2) wNil))))
    (wsC (wIfS (wNotT (wTru (wCall (s_are_rules c) (wCons (wVar 3) wNil))))
    (wRai1 c.NoWorld "what" (wC (.str "rules")))
    ws0)
    (wsC (wSetF c.World 0 "floor" (wB bTup (wCons (wVar 1) wNil)))
    (wsC (wSetF c.World 0 "lasting" (wVar 2))
    (wSetF c.World 0 "wanted" (wB bTup (wCons (wVar 3) wNil)))))))
theorem sc_World___init__ : FnScope ["self", "ways", "life", "rules"] ["self", "ways", "life", "rules"] (defScope (clsS 24 0)) := ⟨rfl, rfl, rfl, by decide +kernel, rfl, by decide +kernel, by decide +kernel⟩
theorem d_World___init__ (c : Cl) (T : Txt c mg base) : HB P TabC.w c.K mg base 4 "World.__init__" (clsS 24 0) ["self", "ways", "life", "rules"] (w_World___init__ c) := fun f cdv A outer s H E hr tk hp => by
    have S := sc_World___init__
    exact
      (dss_cons (ds_expr (dc (ok_sure_floor c T) hr (by decide) tk (da_cons (de_var 1) (da_cons (de_var 2) da_nil))))
      (dss_cons (ds_if (dt_not (dt_truth ((dc (ok_are_rules c T) hr (by decide) tk (da_cons (de_var 3) da_nil))).dl))
      (dss_one (ds_raise1 rfl tk (ok_NoWorld___init__ c T) T.x_NoWorld hr (by decide) (de_str)))
      dss_nil)
      (dss_cons (ds_setF 0 T.cls_World T.nf_World_floor (de_callT ca_tup call_tuple_of (by rfl) T.b_tuple (dal_cons ((de_var 1)).dl dal_nil)))
      (dss_cons (ds_setF 0 T.cls_World T.nf_World_lasting (de_var 2))
      (dss_one (ds_setF 0 T.cls_World T.nf_World_wanted (de_callT ca_tup call_tuple_of (by rfl) T.b_tuple (dal_cons ((de_var 3)).dl dal_nil))))))))
theorem h_World___init__ (c : Cl) (X : Xs c) (a : Addr) (ds : List D) (Q : D → Prop) (R : EX → Prop) (h : s_World___init__ c ds Q R) : ds.length + 1 = 4 ∧ w_World___init__ c (fun ex _ => R ex) ⟨fun ρ => ∃ ns es, gt ρ 0 = .slf a c.World ns es ∧ Q (.ins c.World ns es), fun _ _ => False, fun _ => False, fun _ => False⟩ (slotsI ["self", "ways", "life", "rules"] ["self", "ways", "life", "rules"] a c.World ds) := by
  unfold s_World___init__ at h
  split at h
  · rename_i a b d
    refine ⟨rfl, ?_⟩
    obtain ⟨w, ok, rfl, rfl, rfl, h⟩ := h
    simp only [w_World___init__, wsC_, wDrop_, wCall_, wCons_, wNil_, wVar_, slotsI_, List.map_cons, List.map_nil, List.cons_append, gt_succ, gt_zero, valS_val, s_sure_floor_]
    have e1 : whD 1 6 (.int w.life) = true := by simp [whD, ok.l1, ok.l6]
    refine ⟨pln_ways ok, isScr_lst, pln_int, wysD_enc ok, e1, ?_⟩
    simp only [wIfS_, wNotT_, wTru_, wCall_, wCons_, wNil_, wVar_, gt_succ, gt_zero, valS_val, s_are_rules_]
    refine ⟨pln_rules ok, isScr_lst, ?_⟩
    simp [rlsD_enc ok]
    exact ⟨_, _, ⟨rfl, rfl⟩, h⟩
  · exact h.elim
theorem ok_World___init__ (c : Cl) (T : Txt c mg base) : GoodI P TabC.w c.K mg base 5 c.World ["self", "ways", "life", "rules"] (s_World___init__ c) := goodI T.f_World___init__ sc_World___init__ (d_World___init__ c T) fun a ds Q R h => h_World___init__ c T.X a ds Q R h
/-! World_life -/
def s_World_life (c : Cl) : AS := fun ds Q R => match ds with
  | [d] => ∃ w : Wld, d = encW c.World w ∧ Q (.int w.life)
  | _ => False
@[simp ↓] theorem s_World_life_ {c : Cl} {d : D} {Q : D → Prop} {R : EX → Prop} : @caK (s_World_life c) [d] ⟨Q⟩ ⟨R⟩ = (∃ w : Wld, d = encW c.World w ∧ Q (.int w.life)) := (rfl)
def w_World_life (c : Cl) : WS :=
    (wRet (wFld c.World "lasting" (wVar 0)))
theorem sc_World_life : FnScope ["self"] ["self"] (defScope (clsS 24 2)) := ⟨rfl, rfl, rfl, by decide +kernel, rfl, by decide +kernel, by decide +kernel⟩
theorem d_World_life (c : Cl) (T : Txt c mg base) : HB P TabC.w c.K mg base 0 "World.life" (clsS 24 2) ["self"] (w_World_life c) := fun f cdv A outer s H E hr tk hp => by
    have S := sc_World_life
    exact
      (dss_one (ds_ret (de_fld T.cls_World T.nf_World_lasting (de_var 0))))
theorem h_World_life (c : Cl) (X : Xs c) (ds : List D) (Q : D → Prop) (R : EX → Prop) (h : s_World_life c ds Q R) : ds.length = 1 ∧ w_World_life c (fun ex _ => R ex) ⟨fun _ => Q .non, fun _ => Q, fun _ => False, fun _ => False⟩ (slots0 ["self"] ["self"] ds) := by
  unfold s_World_life at h
  split at h
  · rename_i d
    refine ⟨rfl, ?_⟩
    obtain ⟨w, rfl, h⟩ := h
    simp [w_World_life]
    simpa [Wld.n] using h
  · exact h.elim
theorem ok_World_life (c : Cl) (T : Txt c mg base) : GoodM P TabC.w c.K mg base 1 c.World "life" ["self"] (spV c.K (s_World_life c)) := goodM T.f_World_life sc_World_life (d_World_life c T) fun ds Q R h => h_World_life c T.X ds Q R h
/-! World_rooms -/
def s_World_rooms (c : Cl) : AS := fun ds Q R => match ds with
  | [d] => ∃ w : Wld, d = encW c.World w ∧ Q (.int w.n)
  | _ => False
@[simp ↓] theorem s_World_rooms_ {c : Cl} {d : D} {Q : D → Prop} {R : EX → Prop} : @caK (s_World_rooms c) [d] ⟨Q⟩ ⟨R⟩ = (∃ w : Wld, d = encW c.World w ∧ Q (.int w.n)) := (rfl)
def w_World_rooms (c : Cl) : WS :=
    (wRet (wB bLen (wCons (wFld c.World "floor" (wVar 0)) wNil)))
theorem sc_World_rooms : FnScope ["self"] ["self"] (defScope (clsS 24 4)) := ⟨rfl, rfl, rfl, by decide +kernel, rfl, by decide +kernel, by decide +kernel⟩
theorem d_World_rooms (c : Cl) (T : Txt c mg base) : HB P TabC.w c.K mg base 0 "World.rooms" (clsS 24 4) ["self"] (w_World_rooms c) := fun f cdv A outer s H E hr tk hp => by
    have S := sc_World_rooms
    exact
      (dss_one (ds_ret (de_callB ca_len call_len_seq (by rfl) T.b_len (dal_cons ((de_fld T.cls_World T.nf_World_floor (de_var 0))).dl dal_nil))))
theorem h_World_rooms (c : Cl) (X : Xs c) (ds : List D) (Q : D → Prop) (R : EX → Prop) (h : s_World_rooms c ds Q R) : ds.length = 1 ∧ w_World_rooms c (fun ex _ => R ex) ⟨fun _ => Q .non, fun _ => Q, fun _ => False, fun _ => False⟩ (slots0 ["self"] ["self"] ds) := by
  unfold s_World_rooms at h
  split at h
  · rename_i d
    refine ⟨rfl, ?_⟩
    obtain ⟨w, rfl, h⟩ := h
    simp [w_World_rooms]
    simpa [Wld.n] using h
  · exact h.elim
theorem ok_World_rooms (c : Cl) (T : Txt c mg base) : GoodM P TabC.w c.K mg base 1 c.World "rooms" ["self"] (spV c.K (s_World_rooms c)) := goodM T.f_World_rooms sc_World_rooms (d_World_rooms c T) fun ds Q R h => h_World_rooms c T.X ds Q R h
/-! are_marks -/
def s_are_marks (c : Cl) : AS := fun ds Q R => match ds with
  | [t, .int n, .int most] => pln t = true ∧ Q (.bl (mkD n most t))
  | _ => False
@[simp ↓] theorem s_are_marks_ {c : Cl} {t : D} {n most : Int} {Q : D → Prop} {R : EX → Prop} : @caK (s_are_marks c) [t, .int n, .int most] ⟨Q⟩ ⟨R⟩ = (pln t = true ∧ Q (.bl (mkD n most t))) := (rfl)
def w_are_marks (c : Cl) : WS :=
    (wRet ((wAndV (wIsi .tuple (wVar 0)) (wAndV (wOp oEq (wB bLen (wCons (wVar 0) wNil)) (wVar 1)) (wB bAll (wCons (wLc (wSeq (wVar 0)) (gN 3) wYes (wCall (s_is_whole c) (wCons (wVar 3) (wCons (wC (.int 0)) (wCons (wVar 2) wNil)))) [3]) wNil))))))
theorem sc_are_marks : FnScope ["thing", "many", "most", "one"] ["thing", "many", "most"] (defScope (topS 16)) := ⟨rfl, rfl, rfl, by decide +kernel, rfl, by decide +kernel, by decide +kernel⟩
theorem d_are_marks (c : Cl) (T : Txt c mg base) : HB P TabC.w c.K mg base 1 "are_marks" (topS 16) ["thing", "many", "most", "one"] (w_are_marks c) := fun f cdv A outer s H E hr tk hp => by
    have S := sc_are_marks
    exact
      (dss_one (ds_ret (de_and (de_isi (T := .tuple) (by rfl) T.b_isinstance (by rfl) T.b_tuple ((de_var 0)).dl) (de_and (de_cmp (cmp_eq (hu64 hr)) ((de_callB ca_len call_len_seq (by rfl) T.b_len (dal_cons ((de_var 0)).dl dal_nil))).dl ((de_var 1)).dl) (de_one (de_callB ca_all (cr_all rfl) (by rfl) T.b_all (dal_cons ((dn_lc (own := [("one", 3)]) rfl S.nd (dil_seq ((de_var 0)).dl) (blkOk_by (N := ["thing", "many", "most", "one"]) (sc := defScope (topS 16)) (by first | decide +kernel | rfl)) (by decide) (fun _ _ _ _ _ => (dg_name 3 S.nd)) (fun _ _ _ _ _ => dts_nil) (fun _ _ _ _ _ => (dc (ok_is_whole c T) hr (by decide) takes0 (da_cons (de_var 3) (da_cons (de_int) (da_cons (de_var 2) da_nil))))))).de.dl dal_nil)))))))
theorem h_are_marks (c : Cl) (X : Xs c) (ds : List D) (Q : D → Prop) (R : EX → Prop) (h : s_are_marks c ds Q R) : ds.length = 3 ∧ w_are_marks c (fun ex _ => R ex) ⟨fun _ => Q .non, fun _ => Q, fun _ => False, fun _ => False⟩ (slots0 ["thing", "many", "most", "one"] ["thing", "many", "most"] ds) := by
  unfold s_are_marks at h
  split at h
  · rename_i t n most
    refine ⟨rfl, ?_⟩
    obtain ⟨h0, h⟩ := h
    cases t <;> simp [w_are_marks] <;> first | exact h | (cases h0; done) | skip
    rename_i xs
    simp at h0
    by_cases hn : (xs.length : Int) = n
    · simp [hn, h0.1, mkD] at h ⊢
      refine comp_map (fun d => .bl (whD 0 most d)) (fun d hd K1 hk => ?_) ?_
      · have := List.all_eq_true.mp (by rw [plns_all] at h0; exact h0.2) d hd
        simpa [pln_no this] using hk
      · refine ⟨xs.map (whD 0 most), rfl, by simp, ?_⟩
        rw [List.all_map]
        exact h
    · have hb : ((xs.length : Int) == n) = false := by simpa using hn
      simp [hn, mkD, hb] at h ⊢; exact h
  · exact h.elim
theorem ok_are_marks (c : Cl) (T : Txt c mg base) : Good P TabC.w c.K mg base 2 "are_marks" ["thing", "many", "most"] (spV c.K (s_are_marks c)) := goodV T.f_are_marks sc_are_marks (d_are_marks c T) fun ds Q R h => h_are_marks c T.X ds Q R h
/-! World_walkers -/
def s_World_walkers (c : Cl) : AS := fun ds Q R => match ds with
  | [d] => ∃ w : Wld, d = encW c.World w ∧ Q (.int w.rules.length)
  | _ => False
@[simp ↓] theorem s_World_walkers_ {c : Cl} {d : D} {Q : D → Prop} {R : EX → Prop} : @caK (s_World_walkers c) [d] ⟨Q⟩ ⟨R⟩ = (∃ w : Wld, d = encW c.World w ∧ Q (.int w.rules.length)) := (rfl)
def w_World_walkers (c : Cl) : WS :=
    (wRet (wB bLen (wCons (wFld c.World "wanted" (wVar 0)) wNil)))
theorem sc_World_walkers : FnScope ["self"] ["self"] (defScope (clsS 24 5)) := ⟨rfl, rfl, rfl, by decide +kernel, rfl, by decide +kernel, by decide +kernel⟩
theorem d_World_walkers (c : Cl) (T : Txt c mg base) : HB P TabC.w c.K mg base 0 "World.walkers" (clsS 24 5) ["self"] (w_World_walkers c) := fun f cdv A outer s H E hr tk hp => by
    have S := sc_World_walkers
    exact
      (dss_one (ds_ret (de_callB ca_len call_len_seq (by rfl) T.b_len (dal_cons ((de_fld T.cls_World T.nf_World_wanted (de_var 0))).dl dal_nil))))
theorem h_World_walkers (c : Cl) (X : Xs c) (ds : List D) (Q : D → Prop) (R : EX → Prop) (h : s_World_walkers c ds Q R) : ds.length = 1 ∧ w_World_walkers c (fun ex _ => R ex) ⟨fun _ => Q .non, fun _ => Q, fun _ => False, fun _ => False⟩ (slots0 ["self"] ["self"] ds) := by
  unfold s_World_walkers at h
  split at h
  · rename_i d
    refine ⟨rfl, ?_⟩
    obtain ⟨w, rfl, h⟩ := h
    simp [w_World_walkers]
    simpa [Wld.n] using h
  · exact h.elim
theorem ok_World_walkers (c : Cl) (T : Txt c mg base) : GoodM P TabC.w c.K mg base 1 c.World "walkers" ["self"] (spV c.K (s_World_walkers c)) := goodM T.f_World_walkers sc_World_walkers (d_World_walkers c T) fun ds Q R h => h_World_walkers c T.X ds Q R h
/-! is_room -/
def s_is_room (c : Cl) : AS := fun ds Q R => match ds with
  | [d, t] => ∃ w : Wld, d = encW c.World w ∧ noIns t = true ∧ Q (.bl (whD 0 ((w.n : Int) - 1) t))
  | _ => False
@[simp ↓] theorem s_is_room_ {c : Cl} {d t : D} {Q : D → Prop} {R : EX → Prop} : @caK (s_is_room c) [d, t] ⟨Q⟩ ⟨R⟩ = (∃ w : Wld, d = encW c.World w ∧ noIns t = true ∧ Q (.bl (whD 0 ((w.n : Int) - 1) t))) := (rfl)
def w_is_room (c : Cl) : WS :=
    (wRet (wCall (s_is_whole c) (wCons (wVar 1) (wCons (wC (.int 0)) (wCons (wOp oSub (wMeth c.World "rooms" (s_World_rooms c) (wVar 0) wNil) (wC (.int 1))) wNil)))))
theorem sc_is_room : FnScope ["world", "thing"] ["world", "thing"] (defScope (topS 25)) := ⟨rfl, rfl, rfl, by decide +kernel, rfl, by decide +kernel, by decide +kernel⟩
theorem d_is_room (c : Cl) (T : Txt c mg base) : HB P TabC.w c.K mg base 1 "is_room" (topS 25) ["world", "thing"] (w_is_room c) := fun f cdv A outer s H E hr tk hp => by
    have S := sc_is_room
    exact
      (dss_one (ds_ret (dc (ok_is_whole c T) hr (by decide) tk (da_cons (de_var 1) (da_cons (de_int) (da_cons (de_sub ((de_meth0 T.cls_World (ok_World_rooms c T) hr (by decide) tk (de_var 0))).dl ((de_int)).dl) da_nil))))))
theorem h_is_room (c : Cl) (X : Xs c) (ds : List D) (Q : D → Prop) (R : EX → Prop) (h : s_is_room c ds Q R) : ds.length = 2 ∧ w_is_room c (fun ex _ => R ex) ⟨fun _ => Q .non, fun _ => Q, fun _ => False, fun _ => False⟩ (slots0 ["world", "thing"] ["world", "thing"] ds) := by
  unfold s_is_room at h
  split at h
  · rename_i d t
    refine ⟨rfl, ?_⟩
    obtain ⟨w, rfl, h0, h⟩ := h
    simp [w_is_room, h0]
    exact h
  · exact h.elim
theorem ok_is_room (c : Cl) (T : Txt c mg base) : Good P TabC.w c.K mg base 2 "is_room" ["world", "thing"] (spV c.K (s_is_room c)) := goodV T.f_is_room sc_is_room (d_is_room c T) fun ds Q R h => h_is_room c T.X ds Q R h
/-! are_rooms -/
def stdOf : D → Option Std
  | .tup [.tup a, .tup b] => (intsOf a).bind fun x => (intsOf b).map fun y => ⟨x.map Int.toNat, y⟩
  | _ => none
theorem natD_map {r : List Nat} : r.map natD = (r.map fun (n : Nat) => (n : Int)).map D.int := by
  rw [List.map_map]; rfl
theorem intsOf_natD {r : List Nat} : intsOf (r.map natD) = some (r.map fun (n : Nat) => (n : Int)) := by rw [natD_map, intsOf_ints]
@[simp] theorem stdOf_enc {s : Std} : stdOf (encS s) = some s := by
  unfold encS stdOf
  simp only
  rw [intsOf_natD, intsOf_ints]
  simp [Function.comp_def]
def rmsD (w : Wld) : D → Bool
  | .tup xs => (xs.length == w.rules.length) && xs.all (whD 0 ((w.n : Int) - 1))
  | _ => false
def stD (w : Wld) : D → Bool
  | .tup [a, b] => rmsD w a && mkD (w.n : Int) w.life b
  | _ => false
theorem stD_enc {w : Wld} {s : Std} (os : s.ok w) : stD w (encS s) = true := by
  unfold encS stD rmsD mkD
  simp [os.rl, os.ml]
  refine ⟨fun x hx => ?_, fun x hx => ?_⟩
  · have := os.rm x hx
    simp [natD, whD]; omega
  · have := os.mr x hx
    simp [whD, this]
theorem pln_encS {w : Wld} {s : Std} (ok : w.ok) (os : s.ok w) : pln (encS s) = true := by
  have h1 := os.rl
  have h2 := os.ml
  have h3 := ok.k3
  have h4 := ok.n8
  simp [encS]; omega
theorem whD_map {lo hi : Int} {xs : List D} (h : ∀ x ∈ xs, whD lo hi x = true) : ∃ ns : List Int, xs = ns.map D.int ∧ ∀ x ∈ ns, lo ≤ x ∧ x ≤ hi := by
  obtain ⟨r, e, hr⟩ := map_of (f := D.int) (P := fun x => lo ≤ x ∧ x ≤ hi) fun y hy => by
    obtain ⟨i, e, h1, h2⟩ := whD_of (h y hy)
    exact ⟨i, e, h1, h2⟩
  exact ⟨r, e, hr⟩
theorem stD_dec {w : Wld} {t : D} (h : stD w t = true) : ∃ s : Std, t = encS s ∧ s.ok w := by
  unfold stD at h
  split at h
  · rename_i a b
    rw [Bool.and_eq_true] at h
    obtain ⟨h1, h2⟩ := h
    unfold rmsD at h1
    split at h1
    · rename_i xs
      unfold mkD at h2
      split at h2
      · rename_i ys
        rw [Bool.and_eq_true, List.all_eq_true] at h1 h2
        obtain ⟨rs, rfl, hr⟩ := whD_map h1.2
        obtain ⟨ms, rfl, hm⟩ := whD_map h2.2
        have l1 := h1.1
        have l2 := h2.1
        simp at l1 l2
        have e : rs.map D.int = (rs.map Int.toNat).map natD := by
          rw [List.map_map]
          refine List.map_congr_left fun x hx => ?_
          have := hr x hx
          simp [natD]; omega
        refine ⟨⟨rs.map Int.toNat, ms⟩, by rw [e]; rfl, ⟨by simpa using l1, fun x hx => ?_, by simp; omega, hm⟩⟩
        obtain ⟨z, hz, rfl⟩ := List.mem_map.mp hx
        have := hr z hz
        omega
      · cases h2
    · cases h1
  · cases h
def iterS (w : Wld) (s : Std) : Nat → Std
  | 0 => s
  | i + 1 => nxt w (iterS w s i)
theorem place_lt {w : Wld} {s : Std} {r : List Cla} {room : Nat} (ok : w.ok) (h : room < w.n) : 0 ≤ place w s r room ∧ place w s r room < (w.ways.getD room []).length := by
  have h2 := (ok.row _ (List.getElem_mem h)).1
  have := pickR_lt r (seen w s room) (by unfold seen; rw [List.length_map, getD_of h]; omega)
  unfold place
  unfold seen at this ⊢
  rw [List.length_map] at this
  exact this
theorem goal_lt {w : Wld} {s : Std} {r : List Cla} {room : Nat} (ok : w.ok) (h : room < w.n) : goal w s r room < w.n := by
  have pl := place_lt (r := r) (s := s) ok h
  unfold goal
  rw [getD_of (by omega)]
  have hr := getD_of (d := []) h
  refine (ok.row _ (List.getElem_mem h)).2.2 _ ?_
  rw [← hr]
  exact List.getElem_mem _
theorem nxt_ok {w : Wld} {s : Std} (ok : w.ok) (os : s.ok w) : (nxt w s).ok w := by
  refine ⟨?_, fun x hx => ?_, ?_, fun x hx => ?_⟩
  · simp [nxt, os.rl]
  · simp only [nxt, List.mem_map] at hx
    obtain ⟨z, hz, rfl⟩ := hx
    exact goal_lt ok (os.rm _ (List.of_mem_zip (a := z.1) (b := z.2) hz).2)
  · simp [nxt, os.ml]
  · simp only [nxt, List.mem_map] at hx
    obtain ⟨z, hz, rfl⟩ := hx
    have h1 := ok.l1
    split
    · omega
    · have hm : z.1 ∈ s.marks := (List.mem_zipIdx (x := z.1) (i := z.2) hz).2.2 ▸ List.getElem_mem _
      have := os.mr _ hm
      unfold fade; omega
theorem iter_ok {w : Wld} {s : Std} (ok : w.ok) (os : s.ok w) : ∀ i, (iterS w s i).ok w
  | 0 => os
  | i + 1 => nxt_ok ok (iter_ok ok os i)
def s_are_rooms (c : Cl) : AS := fun ds Q R => match ds with
  | [d, t] => ∃ w : Wld, d = encW c.World w ∧ pln t = true ∧ Q (.bl (rmsD w t))
  | _ => False
@[simp ↓] theorem s_are_rooms_ {c : Cl} {d t : D} {Q : D → Prop} {R : EX → Prop} : @caK (s_are_rooms c) [d, t] ⟨Q⟩ ⟨R⟩ = (∃ w : Wld, d = encW c.World w ∧ pln t = true ∧ Q (.bl (rmsD w t))) := (rfl)
def w_are_rooms (c : Cl) : WS :=
    (wsC (wIfS (wOrT (wNotT (wTru (wIsi .tuple (wVar 1)))) (wTest (wOp oNe (wB bLen (wCons (wVar 1) wNil)) (wMeth c.World "walkers" (s_World_walkers c) (wVar 0) wNil))))
    (wRet (wC (.bl false)))
    ws0)
    (wRet (wB bAll (wCons (wLc (wSeq (wVar 1)) (gN 2) wYes (wCall (s_is_room c) (wCons (wVar 0) (wCons (wVar 2) wNil))) [2]) wNil))))
theorem sc_are_rooms : FnScope ["world", "thing", "one"] ["world", "thing"] (defScope (topS 26)) := ⟨rfl, rfl, rfl, by decide +kernel, rfl, by decide +kernel, by decide +kernel⟩
theorem d_are_rooms (c : Cl) (T : Txt c mg base) : HB P TabC.w c.K mg base 2 "are_rooms" (topS 26) ["world", "thing", "one"] (w_are_rooms c) := fun f cdv A outer s H E hr tk hp => by
    have S := sc_are_rooms
    exact
      (dss_cons (ds_if (dw_or (dt_not (dt_truth ((de_isi (T := .tuple) (by rfl) T.b_isinstance (by rfl) T.b_tuple ((de_var 1)).dl)).dl)) (dw_or1 (dt_cmp (cmp_ne (hu64 hr)) ((de_callB ca_len call_len_seq (by rfl) T.b_len (dal_cons ((de_var 1)).dl dal_nil))).dl ((de_meth0 T.cls_World (ok_World_walkers c T) hr (by decide) tk (de_var 0))).dl))).dt
      (dss_one (ds_ret (de_bl)))
      dss_nil)
      (dss_one (ds_ret (de_callB ca_all (cr_all rfl) (by rfl) T.b_all (dal_cons ((dn_lc (own := [("one", 2)]) rfl S.nd (dil_seq ((de_var 1)).dl) (blkOk_by (N := ["world", "thing", "one"]) (sc := defScope (topS 26)) (by first | decide +kernel | rfl)) (by decide) (fun _ _ _ _ _ => (dg_name 2 S.nd)) (fun _ _ _ _ _ => dts_nil) (fun _ _ _ _ _ => (dc (ok_is_room c T) hr (by decide) takes0 (da_cons (de_var 0) (da_cons (de_var 2) da_nil)))))).de.dl dal_nil)))))
theorem h_are_rooms (c : Cl) (X : Xs c) (ds : List D) (Q : D → Prop) (R : EX → Prop) (h : s_are_rooms c ds Q R) : ds.length = 2 ∧ w_are_rooms c (fun ex _ => R ex) ⟨fun _ => Q .non, fun _ => Q, fun _ => False, fun _ => False⟩ (slots0 ["world", "thing", "one"] ["world", "thing"] ds) := by
  unfold s_are_rooms at h
  split at h
  · rename_i d t
    refine ⟨rfl, ?_⟩
    obtain ⟨w, rfl, h0, h⟩ := h
    cases t <;> simp [w_are_rooms, pln_no h0] <;> first | exact h | (cases h0; done) | skip
    rename_i xs
    simp at h0
    by_cases hl : xs.length = w.rules.length
    · have hl' : (xs.length : Int) = (w.rules.length : Int) := by omega
      have hz : w.rules.length ≤ 16777216 := by omega
      simp [hl, hz]
      refine comp_map (fun x => .bl (whD 0 ((w.n : Int) - 1) x)) (fun x hx K1 hk => ?_) ?_
      · have hp := List.all_eq_true.mp (by have := h0.2; rw [plns_all] at this; exact this) x hx
        simp [pln_no hp]
        exact hk
      · simp
        simpa [rmsD, hl, Function.comp_def] using h
    · have hl' : ¬ (xs.length : Int) = (w.rules.length : Int) := by omega
      simp [hl]
      have e : rmsD w (.tup xs) = false := by simp [rmsD, hl]
      rw [e] at h; exact h
  · exact h.elim
theorem ok_are_rooms (c : Cl) (T : Txt c mg base) : Good P TabC.w c.K mg base 3 "are_rooms" ["world", "thing"] (spV c.K (s_are_rooms c)) := goodV T.f_are_rooms sc_are_rooms (d_are_rooms c T) fun ds Q R h => h_are_rooms c T.X ds Q R h
/-! is_stand -/
def s_is_stand (c : Cl) : AS := fun ds Q R => match ds with
  | [d, t] => ∃ w : Wld, d = encW c.World w ∧ pln t = true ∧ Q (.bl (stD w t))
  | _ => False
@[simp ↓] theorem s_is_stand_ {c : Cl} {d t : D} {Q : D → Prop} {R : EX → Prop} : @caK (s_is_stand c) [d, t] ⟨Q⟩ ⟨R⟩ = (∃ w : Wld, d = encW c.World w ∧ pln t = true ∧ Q (.bl (stD w t))) := (rfl)
def w_is_stand (c : Cl) : WS :=
    (wsC (wIfS (wOrT (wNotT (wTru (wIsi .tuple (wVar 1)))) (wTest (wOp oNe (wB bLen (wCons (wVar 1) wNil)) (wC (.int 2)))))
    (wRet (wC (.bl false)))
    ws0)
    (wRet ((wAndV (wCall (s_are_rooms c) (wCons (wVar 0) (wCons (wOp oIx (wVar 1) (wC (.int 0))) wNil))) (wCall (s_are_marks c) (wCons (wOp oIx (wVar 1) (wC (.int 1))) (wCons (wMeth c.World "rooms" (s_World_rooms c) (wVar 0) wNil) (wCons (wMeth c.World "life" (s_World_life c) (wVar 0) wNil) wNil))))))))
theorem sc_is_stand : FnScope ["world", "thing"] ["world", "thing"] (defScope (topS 27)) := ⟨rfl, rfl, rfl, by decide +kernel, rfl, by decide +kernel, by decide +kernel⟩
theorem d_is_stand (c : Cl) (T : Txt c mg base) : HB P TabC.w c.K mg base 3 "is_stand" (topS 27) ["world", "thing"] (w_is_stand c) := fun f cdv A outer s H E hr tk hp => by
    have S := sc_is_stand
    exact
      (dss_cons (ds_if (dw_or (dt_not (dt_truth ((de_isi (T := .tuple) (by rfl) T.b_isinstance (by rfl) T.b_tuple ((de_var 1)).dl)).dl)) (dw_or1 (dt_cmp (cmp_ne (hu64 hr)) ((de_callB ca_len call_len_seq (by rfl) T.b_len (dal_cons ((de_var 1)).dl dal_nil))).dl ((de_int)).dl))).dt
      (dss_one (ds_ret (de_bl)))
      dss_nil)
      (dss_one (ds_ret (de_and (dc (ok_are_rooms c T) hr (by decide) tk (da_cons (de_var 0) (da_cons (de_ix ((de_var 1)).dl (de_int)) da_nil))) (de_one (dc (ok_are_marks c T) hr (by decide) tk (da_cons (de_ix ((de_var 1)).dl (de_int)) (da_cons (de_meth0 T.cls_World (ok_World_rooms c T) hr (by decide) tk (de_var 0)) (da_cons (de_meth0 T.cls_World (ok_World_life c T) hr (by decide) tk (de_var 0)) da_nil)))))))))
theorem h_is_stand (c : Cl) (X : Xs c) (ds : List D) (Q : D → Prop) (R : EX → Prop) (h : s_is_stand c ds Q R) : ds.length = 2 ∧ w_is_stand c (fun ex _ => R ex) ⟨fun _ => Q .non, fun _ => Q, fun _ => False, fun _ => False⟩ (slots0 ["world", "thing"] ["world", "thing"] ds) := by
  unfold s_is_stand at h
  split at h
  · rename_i d t
    refine ⟨rfl, ?_⟩
    obtain ⟨w, rfl, h0, h⟩ := h
    cases t <;> simp [w_is_stand, pln_no h0] <;> first | exact h | (cases h0; done) | skip
    rename_i xs
    rcases xs with _ | ⟨a, _ | ⟨b, _ | ⟨e, r⟩⟩⟩ <;> simp <;> try exact h
    · simp at h0
      simp [h0]
      cases e : rmsD w a <;> simp [stD, e] at h ⊢ <;> exact h
  · exact h.elim
theorem ok_is_stand (c : Cl) (T : Txt c mg base) : Good P TabC.w c.K mg base 4 "is_stand" ["world", "thing"] (spV c.K (s_is_stand c)) := goodV T.f_is_stand sc_is_stand (d_is_stand c T) fun ds Q R h => h_is_stand c T.X ds Q R h
/-! sure_stand -/
def s_sure_stand (c : Cl) : AS := fun ds Q R => match ds with
  | [d, t] => ∃ w : Wld, d = encW c.World w ∧ pln t = true ∧ if stD w t = true then Q .non else R ⟨c.NoStand, [], []⟩
  | _ => False
@[simp ↓] theorem s_sure_stand_ {c : Cl} {d t : D} {Q : D → Prop} {R : EX → Prop} : @caK (s_sure_stand c) [d, t] ⟨Q⟩ ⟨R⟩ = (∃ w : Wld, d = encW c.World w ∧ pln t = true ∧ if stD w t = true then Q .non else R ⟨c.NoStand, [], []⟩) := (rfl)
def w_sure_stand (c : Cl) : WS :=
    (wIfS (wNotT (wTru (wCall (s_is_stand c) (wCons (wVar 0) (wCons (wVar 1) wNil)))))
    (wRai c.NoStand)
    ws0)
theorem sc_sure_stand : FnScope ["world", "thing"] ["world", "thing"] (defScope (topS 28)) := ⟨rfl, rfl, rfl, by decide +kernel, rfl, by decide +kernel, by decide +kernel⟩
theorem d_sure_stand (c : Cl) (T : Txt c mg base) : HB P TabC.w c.K mg base 4 "sure_stand" (topS 28) ["world", "thing"] (w_sure_stand c) := fun f cdv A outer s H E hr tk hp => by
    have S := sc_sure_stand
    exact
      (dss_one (ds_if (dt_not (dt_truth ((dc (ok_is_stand c T) hr (by decide) tk (da_cons (de_var 0) (da_cons (de_var 1) da_nil)))).dl))
      (dss_one (ds_raise rfl tk T.x_NoStand T.xi_NoStand (by rfl)))
      dss_nil))
theorem h_sure_stand (c : Cl) (X : Xs c) (ds : List D) (Q : D → Prop) (R : EX → Prop) (h : s_sure_stand c ds Q R) : ds.length = 2 ∧ w_sure_stand c (fun ex _ => R ex) ⟨fun _ => Q .non, fun _ => Q, fun _ => False, fun _ => False⟩ (slots0 ["world", "thing"] ["world", "thing"] ds) := by
  unfold s_sure_stand at h
  split at h
  · rename_i d t
    refine ⟨rfl, ?_⟩
    obtain ⟨w, rfl, h0, h⟩ := h
    simp [w_sure_stand, h0]
    by_cases e : stD w t = true <;> simp [e] at h ⊢ <;> exact h
  · exact h.elim
theorem ok_sure_stand (c : Cl) (T : Txt c mg base) : Good P TabC.w c.K mg base 5 "sure_stand" ["world", "thing"] (spV c.K (s_sure_stand c)) := goodV T.f_sure_stand sc_sure_stand (d_sure_stand c T) fun ds Q R h => h_sure_stand c T.X ds Q R h
/-! place_picked -/
def s_place_picked (c : Cl) : AS := fun ds Q R => match ds with
  | [.tup rs, .tup ms] => ∃ r : List Cla, rs = r.map encC ∧ @optK _ (intsOf ms) ⟨fun m => m.length ≤ 16777216 ∧ Q (.int (pickR r m))⟩
  | _ => False
@[simp ↓] theorem s_place_picked_ {c : Cl} {rs ms : List D} {Q : D → Prop} {R : EX → Prop} : @caK (s_place_picked c) [.tup rs, .tup ms] ⟨Q⟩ ⟨R⟩ = (∃ r : List Cla, rs = r.map encC ∧ @optK _ (intsOf ms) ⟨fun m => m.length ≤ 16777216 ∧ Q (.int (pickR r m))⟩) := (rfl)
def w_place_picked (c : Cl) : WS :=
    (wsC (wFor (wSeq (wVar 0)) (gT (gs1 (gN 2) (gs1 (gN 3) (gs1 (gN 4) (gs1 (gN 5) gs0)))))
    (wsC (wSet 6 (wLc (wSeq (wVar 1)) (gN 9) (wTest (wChain (oCmp fun i j => decide (i ≤ j)) (oCmp fun i j => decide (i ≤ j)) (wVar 3) (wVar 9) (wVar 4))) (wVar 9) [9]))
    (wIfS (wTru (wVar 6))
    (wsC (wSet 7 (wIf (wTest (wOp oEq (wVar 2) (wC (.str "fresh")))) (wB bMaxL (wCons (wVar 6) wNil)) (wB bMinL (wCons (wVar 6) wNil))))
    (wsC (wSet 8 (wLc (wEnum (wCons (wVar 1) wNil)) (gT (gs1 (gN 10) (gs1 (gN 9) gs0))) (wTest (wOp oEq (wVar 9) (wVar 7))) (wVar 10) [10, 9]))
    (wRet (wIf (wTest (wOp oEq (wVar 5) (wC (.str "first")))) (wOp oIx (wVar 8) (wC (.int 0))) (wOp oIx (wVar 8) (wUn oNeg (wC (.int 1))))))))
    ws0)))
    (wRet (wC (.int 0))))
theorem sc_place_picked : FnScope ["rule", "marks", "word", "low", "high", "side", "some", "wished", "places", "mark", "place"] ["rule", "marks"] (defScope (topS 17)) := ⟨rfl, rfl, rfl, by decide +kernel, rfl, by decide +kernel, by decide +kernel⟩
theorem d_place_picked (c : Cl) (T : Txt c mg base) : HB P TabC.w c.K mg base 0 "place_picked" (topS 17) ["rule", "marks", "word", "low", "high", "side", "some", "wished", "places", "mark", "place"] (w_place_picked c) := fun f cdv A outer s H E hr tk hp => by
    have S := sc_place_picked
    exact
      (dss_cons (ds_for hp rfl (di_seq (de_var 0)) (dg_tup rfl (dgs_cons (dg_name 2 S.nd) (dgs_cons (dg_name 3 S.nd) (dgs_cons (dg_name 4 S.nd) (dgs_cons (dg_name 5 S.nd) dgs_nil)))) (n := 4) rfl (gs_len1 (gs_len1 (gs_len1 (gs_len1 gs_len0)))))
      (dss_cons (ds_setLc 6 (own := [("mark", 9)]) rfl S.nd (dil_seq ((de_var 1)).dl) (blkOk_by (N := ["rule", "marks", "word", "low", "high", "side", "some", "wished", "places", "mark", "place"]) (sc := defScope (topS 17)) (by first | decide +kernel | rfl)) (by decide) (fun _ _ _ _ _ => (dg_name 9 S.nd)) (fun _ _ _ _ _ => (dts_one (dt_chain cmp_le cmp_le ((de_var 3)).dl ((de_var 9)).dl ((de_var 4)).dl))) (fun _ _ _ _ _ => (de_var 9)))
      (dss_one (ds_if (dt_truth ((de_var 6)).dl)
      (dss_cons (ds_set 7 S.nd (de_if (dt_cmp (cmp_eq (hu64 hr)) ((de_var 2)).dl ((de_str)).dl) (de_callB ca_maxL (cr_max rfl) (by rfl) T.b_max (dal_cons ((de_var 6)).dl dal_nil)) (de_callB ca_minL (cr_min rfl) (by rfl) T.b_min (dal_cons ((de_var 6)).dl dal_nil))))
      (dss_cons (ds_setLc 8 (own := [("place", 10), ("mark", 9)]) rfl S.nd (dil_enum (by rfl) T.b_enumerate (dal_cons ((de_var 1)).dl dal_nil)) (blkOk_by (N := ["rule", "marks", "word", "low", "high", "side", "some", "wished", "places", "mark", "place"]) (sc := defScope (topS 17)) (by first | decide +kernel | rfl)) (by decide) (fun _ _ _ _ _ => (dg_tup rfl (dgs_cons (dg_name 10 S.nd) (dgs_cons (dg_name 9 S.nd) dgs_nil)) (n := 2) rfl (gs_len1 (gs_len1 gs_len0)))) (fun _ _ _ _ _ => (dts_one (dt_cmp (cmp_eq (hu64 hr)) ((de_var 9)).dl ((de_var 7)).dl))) (fun _ _ _ _ _ => (de_var 10)))
      (dss_one (ds_ret (de_if (dt_cmp (cmp_eq (hu64 hr)) ((de_var 5)).dl ((de_str)).dl) (de_ix ((de_var 8)).dl (de_int)) (de_ix ((de_var 8)).dl (de_neg ((de_int)).dl)))))))
      dss_nil))))
      (dss_one (ds_ret (de_int))))
theorem h_place_picked (c : Cl) (X : Xs c) (ds : List D) (Q : D → Prop) (R : EX → Prop) (h : s_place_picked c ds Q R) : ds.length = 2 ∧ w_place_picked c (fun ex _ => R ex) ⟨fun _ => Q .non, fun _ => Q, fun _ => False, fun _ => False⟩ (slots0 ["rule", "marks", "word", "low", "high", "side", "some", "wished", "places", "mark", "place"] ["rule", "marks"] ds) := by
  unfold s_place_picked at h
  split at h
  · rename_i rs ms
    refine ⟨rfl, ?_⟩
    obtain ⟨r, rfl, m, hm, hz, h⟩ := h
    cases intsOf_eq hm
    simp [w_place_picked]
    refine for_left encC (fun r ρ => ∃ rr s2 s3 s4 s5 s6 s7 s8, ρ = [.val rr, .val (.tup (m.map .int)), s2, s3, s4, s5, s6, s7, s8, .un, .un] ∧ Q (.int (pickR r m))) (fun a r ρ nx hI ih => ?_) (fun ρ hI => ?_) r _ ⟨_, _, _, _, _, _, _, _, rfl, h⟩
    · obtain ⟨rr, s2, s3, s4, s5, s6, s7, s8, rfl, h⟩ := hI
      simp [encC, hz]
      refine comp_filter D.int (fun i => decide (a.lo ≤ i) && decide (i ≤ a.hi)) D.int (fun i hi K1 K0 h1 h0 => ?_) ?_
      · simp at h1 h0 ⊢
        by_cases e : a.lo ≤ i <;> simp [e] at h1 h0 ⊢
        · by_cases e2 : i ≤ a.hi <;> simp [e2] at h1 h0 ⊢
          · exact h1
          · exact h0 (by omega)
        · exact h0
      · simp only [List.nil_append]
        have es : (m.filter fun i => decide (a.lo ≤ i) && decide (i ≤ a.hi)) = someC a m := rfl
        rw [es]
        by_cases he : someC a m = []
        · simp [he]
          refine ih _ ⟨_, _, _, _, _, _, _, _, rfl, ?_⟩
          simpa [pickR, he] using h
        · have hp : 0 < (someC a m).length := List.length_pos_iff.mpr he
          have hn := plc_len_pos he
          simp only [pickR, if_neg he] at h
          have key : ∀ (w : Int) ρ Q', gt ρ 7 = .val (.int w) → 10 < ρ.length → Q' ((plc w 0 m).map .int) → @compK ρ (enumD 0 (m.map .int)) [] ⟨gT (gs1 (gN 10) (gs1 (gN 9) gs0)), wTest (wOp oEq (wVar 9) (wVar 7)), wVar 10, Q'⟩ := fun w ρ Q' h7 hl q => by
            rw [enumD_enc]
            refine comp_filter _ (fun p => p.1 == w) (fun p => .int p.2) (fun p hp K1 K0 h1 h0 => ?_) ?_
            · simp at h1 h0 ⊢
              have e9 : gt ((ρ.set 10 (.val (.int (p.2 : Int)))).set 9 (.val (.int p.1))) 9 = .val (.int p.1) := by rw [gt_set, if_pos ⟨rfl, by simp; omega⟩]
              have e10 : gt ((ρ.set 10 (.val (.int (p.2 : Int)))).set 9 (.val (.int p.1))) 10 = .val (.int (p.2 : Int)) := by rw [gt_set, if_neg (by simp), gt_set, if_pos ⟨rfl, hl⟩]
              have e7 : gt ((ρ.set 10 (.val (.int (p.2 : Int)))).set 9 (.val (.int p.1))) 7 = .val (.int w) := by rw [gt_set, if_neg (by simp), gt_set, if_neg (by simp), h7]
              simp [e9, e10, e7]
              by_cases ek : p.1 = w
              · simp [ek] at h1 ⊢; exact h1
              · simp [ek] at h0 ⊢; exact h0
            · rw [← plc_zip, List.map_map] at q
              simpa [Function.comp_def] using q
          have e0 := at_head hn
          have e1 := at_last hn
          have hlen : (enumD 0 (m.map D.int)).length ≤ 16777216 := by rw [enumD_length, List.length_map]; exact hz
          unfold placeC at h
          cases ef : a.fresh <;> cases es1 : a.first <;> simp [ef, es1, he, hp, hlen, hz, wishC] at h e0 e1 ⊢ <;> refine key _ _ _ rfl (by simp) ?_ <;> simp [e0, e1] <;> exact h
    · obtain ⟨rr, s2, s3, s4, s5, s6, s7, s8, rfl, h⟩ := hI
      simpa [pickR] using h
  · exact h.elim
theorem ok_place_picked (c : Cl) (T : Txt c mg base) : Good P TabC.w c.K mg base 1 "place_picked" ["rule", "marks"] (spV c.K (s_place_picked c)) := goodV T.f_place_picked sc_place_picked (d_place_picked c T) fun ds Q R h => h_place_picked c T.X ds Q R h
/-! ways_picked -/
theorem at_nth {α : Type} {f : α → D} {xs : List α} {i : Nat} (h : i < xs.length) : (xs.map f)[i]? = some (f xs[i]) := by
  rw [List.getElem?_map, List.getElem?_eq_getElem h]; rfl
theorem zip_split {α β : Type} {xs : List α} {ys : List β} {p r : List (α × β)} {z : α × β} (h : xs.zip ys = p ++ z :: r) : z.1 ∈ xs ∧ z.2 ∈ ys := by
  have : z ∈ xs.zip ys := by rw [h]; simp
  obtain ⟨a, b⟩ := z
  exact List.of_mem_zip this
def s_ways_picked (c : Cl) : AS := fun ds Q R => match ds with
  | [d, t] => ∃ w : Wld, d = encW c.World w ∧ ∃ s : Std, t = encS s ∧ w.ok ∧ s.ok w ∧ Q (.tup ((placesL w s).map D.int))
  | _ => False
@[simp ↓] theorem s_ways_picked_ {c : Cl} {d t : D} {Q : D → Prop} {R : EX → Prop} : @caK (s_ways_picked c) [d, t] ⟨Q⟩ ⟨R⟩ = (∃ w : Wld, d = encW c.World w ∧ ∃ s : Std, t = encS s ∧ w.ok ∧ s.ok w ∧ Q (.tup ((placesL w s).map D.int))) := (rfl)
def w_ways_picked (c : Cl) : WS :=
    (wsC (wAsg (wVar 1) (gT (gs1 (gN 2) (gs1 (gN 3) gs0))))
    (wsC (wNew 4 (wLst wNil))
    (wsC (wFor (wZip (wCons (wFld c.World "wanted" (wVar 0)) (wCons (wVar 2) wNil))) (gT (gs1 (gN 5) (gs1 (gN 6) gs0)))
    (wApp 4 (wCall (s_place_picked c) (wCons (wVar 5) (wCons (wB bTup (wCons (wLc (wSeq (wOp oIx (wFld c.World "floor" (wVar 0)) (wVar 6))) (gN 7) wYes (wOp oIx (wVar 3) (wVar 7)) [7]) wNil)) wNil)))))
    (wRet (wB bTup (wCons (wOwn 4) wNil))))))
theorem sc_ways_picked : FnScope ["world", "stand", "rooms", "marks", "found", "rule", "room", "goal"] ["world", "stand"] (defScope (topS 31)) := ⟨rfl, rfl, rfl, by decide +kernel, rfl, by decide +kernel, by decide +kernel⟩
theorem d_ways_picked (c : Cl) (T : Txt c mg base) : HB P TabC.w c.K mg base 1 "ways_picked" (topS 31) ["world", "stand", "rooms", "marks", "found", "rule", "room", "goal"] (w_ways_picked c) := fun f cdv A outer s H E hr tk hp => by
    have S := sc_ways_picked
    exact
      (dss_cons (ds_asg (de_var 1) (dg_tup rfl (dgs_cons (dg_name 2 S.nd) (dgs_cons (dg_name 3 S.nd) dgs_nil)) (n := 2) rfl (gs_len1 (gs_len1 gs_len0))))
      (dss_cons (ds_new 4 S.nd (dn_lst da_nil))
      (dss_cons (ds_for hp rfl (di_zip (by rfl) T.b_zip (da_cons (de_fld T.cls_World T.nf_World_wanted (de_var 0)) (da_cons (de_var 2) da_nil))) (dg_tup rfl (dgs_cons (dg_name 5 S.nd) (dgs_cons (dg_name 6 S.nd) dgs_nil)) (n := 2) rfl (gs_len1 (gs_len1 gs_len0)))
      (dss_one (ds_app 4 (dc (ok_place_picked c T) hr (by decide) tk (da_cons (de_var 5) (da_cons (de_callT ca_tup call_tuple_of (by rfl) T.b_tuple (dal_cons ((dn_lc (own := [("goal", 7)]) rfl S.nd (dil_seq ((de_ix ((de_fld T.cls_World T.nf_World_floor (de_var 0))).dl (de_var 6))).dl) (blkOk_by (N := ["world", "stand", "rooms", "marks", "found", "rule", "room", "goal"]) (sc := defScope (topS 31)) (by first | decide +kernel | rfl)) (by decide) (fun _ _ _ _ _ => (dg_name 7 S.nd)) (fun _ _ _ _ _ => dts_nil) (fun _ _ _ _ _ => (de_ix ((de_var 3)).dl (de_var 7))))).de.dl dal_nil)) da_nil))))))
      (dss_one (ds_ret (de_callT ca_tup call_tuple_of (by rfl) T.b_tuple (dal_cons (dl_own 4) dal_nil)))))))
theorem h_ways_picked (c : Cl) (X : Xs c) (ds : List D) (Q : D → Prop) (R : EX → Prop) (h : s_ways_picked c ds Q R) : ds.length = 2 ∧ w_ways_picked c (fun ex _ => R ex) ⟨fun _ => Q .non, fun _ => Q, fun _ => False, fun _ => False⟩ (slots0 ["world", "stand", "rooms", "marks", "found", "rule", "room", "goal"] ["world", "stand"] ds) := by
  unfold s_ways_picked at h
  split at h
  · rename_i d t
    refine ⟨rfl, ?_⟩
    obtain ⟨w, rfl, s, rfl, ok, os, h⟩ := h
    simp [w_ways_picked]
    rw [zipD_enc]
    refine for_done _ (w.rules.zip s.rooms) (fun p ρ => ∃ s5 s6, ρ = [.val (encW c.World w), .val (encS s), .val (.tup (s.rooms.map natD)), .val (.tup (s.marks.map D.int)), .own none (p.map fun z => D.int (place w s z.1 z.2)), s5, s6, .un]) (fun p z r ρ nx he hI ih => ?_) (fun ρ hI => ?_) _ ⟨_, _, rfl⟩
    · obtain ⟨s5, s6, rfl⟩ := hI
      obtain ⟨m1, m2⟩ := zip_split he
      have hn := os.rm _ m2
      have hrow : w.ways[z.2]? = some w.ways[z.2] := List.getElem?_eq_getElem hn
      obtain ⟨l1, l4, hg⟩ := ok.row _ (List.getElem_mem hn)
      have hl4 : w.ways[z.2].length ≤ 16777216 := by omega
      simp [hrow, encRow, encRule, hl4]
      refine comp_enc natD (fun g => .int (s.marks.getD g 0)) (fun g hg' K1 hk => ?_) ?_
      · have hgm : g < s.marks.length := by rw [os.ml]; exact hg g hg'
        rw [getD_of hgm] at hk
        simp [List.getElem?_eq_getElem hgm]
        exact hk
      · have k3 := ok.k3
        have hpl : p.length < 16777216 := by
          have := congrArg List.length he
          simp at this; omega
        simp only [encRule]
        simp
        refine ⟨hl4, hpl, ?_⟩
        have e : pickR z.1 (w.ways[z.2].map fun g => s.marks.getD g 0) = place w s z.1 z.2 := by
          unfold place seen
          rw [getD_of hn]
        simp only [List.getD] at e
        simp only [e]
        exact ih _ ⟨_, _, by simp; exact ⟨rfl, rfl⟩⟩
    · obtain ⟨s5, s6, rfl⟩ := hI
      simpa [placesL, Function.comp_def] using h
  · exact h.elim
theorem ok_ways_picked (c : Cl) (T : Txt c mg base) : Good P TabC.w c.K mg base 2 "ways_picked" ["world", "stand"] (spV c.K (s_ways_picked c)) := goodV T.f_ways_picked sc_ways_picked (d_ways_picked c T) fun ds Q R h => h_ways_picked c T.X ds Q R h
/-! picks -/
def s_picks (c : Cl) : AS := fun ds Q R => match ds with
  | [d, t] => ∃ w : Wld, d = encW c.World w ∧ w.ok ∧ pln t = true ∧ if stD w t = true then @optK _ (stdOf t) ⟨fun s => Q (.tup ((placesL w s).map D.int))⟩ else R ⟨c.NoStand, [], []⟩
  | _ => False
@[simp ↓] theorem s_picks_ {c : Cl} {d t : D} {Q : D → Prop} {R : EX → Prop} : @caK (s_picks c) [d, t] ⟨Q⟩ ⟨R⟩ = (∃ w : Wld, d = encW c.World w ∧ w.ok ∧ pln t = true ∧ if stD w t = true then @optK _ (stdOf t) ⟨fun s => Q (.tup ((placesL w s).map D.int))⟩ else R ⟨c.NoStand, [], []⟩) := (rfl)
def w_picks (c : Cl) : WS :=
    (wsC (wDrop (wCall (s_sure_stand c) (wCons (wVar 0) (wCons (wVar 1) wNil))))
    (wRet (wCall (s_ways_picked c) (wCons (wVar 0) (wCons (wVar 1) wNil)))))
theorem sc_picks : FnScope ["world", "stand"] ["world", "stand"] (defScope (topS 34)) := ⟨rfl, rfl, rfl, by decide +kernel, rfl, by decide +kernel, by decide +kernel⟩
theorem d_picks (c : Cl) (T : Txt c mg base) : HB P TabC.w c.K mg base 5 "picks" (topS 34) ["world", "stand"] (w_picks c) := fun f cdv A outer s H E hr tk hp => by
    have S := sc_picks
    exact
      (dss_cons (ds_expr (dc (ok_sure_stand c T) hr (by decide) tk (da_cons (de_var 0) (da_cons (de_var 1) da_nil))))
      (dss_one (ds_ret (dc (ok_ways_picked c T) hr (by decide) tk (da_cons (de_var 0) (da_cons (de_var 1) da_nil))))))
theorem h_picks (c : Cl) (X : Xs c) (ds : List D) (Q : D → Prop) (R : EX → Prop) (h : s_picks c ds Q R) : ds.length = 2 ∧ w_picks c (fun ex _ => R ex) ⟨fun _ => Q .non, fun _ => Q, fun _ => False, fun _ => False⟩ (slots0 ["world", "stand"] ["world", "stand"] ds) := by
  unfold s_picks at h
  split at h
  · rename_i d t
    refine ⟨rfl, ?_⟩
    obtain ⟨w, rfl, ok, hp, h⟩ := h
    simp [w_picks, hp]
    by_cases e : stD w t = true
    · obtain ⟨s, rfl, os⟩ := stD_dec e
      simp [e, ok, os] at h ⊢
      exact h
    · simp [e] at h ⊢; exact h
  · exact h.elim
theorem ok_picks (c : Cl) (T : Txt c mg base) : Good P TabC.w c.K mg base 6 "picks" ["world", "stand"] (spV c.K (s_picks c)) := goodV T.f_picks sc_picks (d_picks c T) fun ds Q R h => h_picks c T.X ds Q R h
/-! _law_alike -/
/-- one more than the last row that has the room -/
def lastIn (rs : List (List Nat)) (x : Nat) : Int := rs.zipIdx.foldl (fun acc z => if x ∈ z.1 then (z.2 : Int) + 1 else acc) 0
def marksOf (n : Nat) (rs : List (List Nat)) : List Int := (List.range n).map (lastIn rs)
theorem lastIn_snoc {rs : List (List Nat)} {r : List Nat} {x : Nat} : lastIn (rs ++ [r]) x = if x ∈ r then (rs.length : Int) + 1 else lastIn rs x := by
  unfold lastIn
  rw [List.zipIdx_append, List.foldl_append]
  simp
theorem lastIn_nil {x : Nat} : lastIn [] x = 0 := rfl
theorem lastIn_le {x : Nat} (rs : List (List Nat)) : 0 ≤ lastIn rs x ∧ lastIn rs x ≤ rs.length := by
  have : ∀ (n : Nat) (rs : List (List Nat)), rs.length = n → 0 ≤ lastIn rs x ∧ lastIn rs x ≤ rs.length := by
    intro n
    induction n with
    | zero => intro rs h; rw [List.eq_nil_of_length_eq_zero h]; simp [lastIn_nil]
    | succ n ih =>
      intro rs h
      obtain ⟨ps, r, rfl⟩ : ∃ ps r, rs = ps ++ [r] := ⟨rs.dropLast, rs.getLast (by intro e; rw [e] at h; cases h), (List.dropLast_concat_getLast _).symm⟩
      have := ih ps (by simp at h; omega)
      rw [lastIn_snoc]
      split
      · simp; omega
      · simp; omega
  exact this _ rs rfl
def rowsD (w : Wld) : D → Bool
  | .lst xs => ((xs.length : Int) == w.life) && xs.all (rmsD w)
  | _ => false
def rowOf : D → Option (List Nat)
  | .tup xs => (intsOf xs).map fun ns => ns.map Int.toNat
  | _ => none
@[simp] theorem rowOf_enc {r : List Nat} : rowOf (encRow r) = some r := by
  unfold encRow rowOf
  simp only
  rw [intsOf_natD]
  simp [Function.comp_def]
def rowsOf : List D → Option (List (List Nat))
  | [] => some []
  | d :: r => (rowOf d).bind fun a => (rowsOf r).map (a :: ·)
@[simp] theorem rowsOf_map {α : Type} (f : α → List Nat) (r : List α) : rowsOf (r.map fun x => encRow (f x)) = some (r.map f) := by
  induction r with
  | nil => rfl
  | cons a r ih => rw [List.map_cons, rowsOf, rowOf_enc, ih]; rfl
@[simp] theorem rowsOf_enc {r : List (List Nat)} : rowsOf (r.map encRow) = some r := by
  have := rowsOf_map id r
  simpa using this
def rowsT : D → Option (List (List Nat))
  | .lst xs => rowsOf xs
  | _ => none
@[simp] theorem rowsT_lst {xs : List D} : rowsT (.lst xs) = rowsOf xs := (rfl)
theorem rmsD_dec {w : Wld} {t : D} (h : rmsD w t = true) : ∃ r : List Nat, t = encRow r ∧ r.length = w.rules.length ∧ ∀ x ∈ r, x < w.n := by
  unfold rmsD at h
  split at h
  · rename_i xs
    rw [Bool.and_eq_true, List.all_eq_true] at h
    obtain ⟨rs, rfl, hr⟩ := whD_map h.2
    have l1 := h.1
    simp at l1
    have e : rs.map D.int = (rs.map Int.toNat).map natD := by
      rw [List.map_map]
      refine List.map_congr_left fun x hx => ?_
      have := hr x hx
      simp [natD]; omega
    refine ⟨rs.map Int.toNat, by rw [e]; rfl, by simpa using l1, fun x hx => ?_⟩
    obtain ⟨z, hz, rfl⟩ := List.mem_map.mp hx
    have := hr z hz
    omega
  · cases h
theorem rmsD_enc {w : Wld} {r : List Nat} (h1 : r.length = w.rules.length) (h2 : ∀ x ∈ r, x < w.n) : rmsD w (encRow r) = true := by
  simp [encRow, rmsD, h1]
  intro x hx
  have := h2 x hx
  simp [natD, whD]; omega
theorem rowsD_dec {w : Wld} {t : D} (h : rowsD w t = true) : ∃ rs : List (List Nat), t = .lst (rs.map encRow) ∧ (rs.length : Int) = w.life ∧ ∀ r ∈ rs, r.length = w.rules.length ∧ ∀ x ∈ r, x < w.n := by
  unfold rowsD at h
  split at h
  · rename_i xs
    rw [Bool.and_eq_true, List.all_eq_true] at h
    obtain ⟨rs, rfl, hr⟩ := map_of (f := encRow) fun y hy => rmsD_dec (h.2 y hy)
    exact ⟨rs, rfl, by simpa using h.1, hr⟩
  · cases h
/-- a beat's mark of one room -/
theorem forget {life m0 : Int} {x : Nat} (h0 : 0 ≤ m0) (f : Nat → Int) (row : Nat → List Nat) (k : Nat) (hk : (k : Int) ≤ life) (f0 : f 0 = m0) (fs : ∀ i, i < k → f (i + 1) = if x ∈ row i then life else fade (f i)) :
    f k = if lastIn ((List.range k).map row) x = 0 then max (m0 - k) 0 else life - (k - lastIn ((List.range k).map row) x) := by
  induction k with
  | zero => simp [lastIn_nil, f0]; omega
  | succ k ih =>
    have ih := ih (by omega) fun i hi => fs i (by omega)
    have e := fs k (by omega)
    rw [List.range_succ, List.map_append, List.map_cons, List.map_nil, lastIn_snoc, e]
    have lb := lastIn_le (x := x) ((List.range k).map row)
    simp only [List.length_map, List.length_range] at lb
    by_cases hx : x ∈ row k
    · simp only [if_pos hx, List.length_map, List.length_range]
      rw [if_neg (by omega)]; omega
    · simp only [if_neg hx]
      rw [ih]
      by_cases hz : lastIn ((List.range k).map row) x = 0
      · rw [if_pos hz, if_pos hz]; unfold fade; omega
      · rw [if_neg hz, if_neg hz]; unfold fade; omega
theorem cut_both {xs : List D} {a b : Int} (h0 : 0 ≤ a) (h : a ≤ b) : cutD xs (some a) (some b) = (xs.drop a.toNat).take (b.toNat - a.toNat) := by
  obtain ⟨m, rfl⟩ : ∃ m : Nat, a = m := ⟨a.toNat, by omega⟩
  obtain ⟨n, rfl⟩ : ∃ n : Nat, b = n := ⟨b.toNat, by omega⟩
  unfold cutD
  rw [HT.sIx_nat, HT.sIx_nat, Int.toNat_natCast, Int.toNat_natCast]
  by_cases hm : m ≤ xs.length
  · rw [Nat.min_eq_left hm, List.take_eq_take_iff, List.length_drop]; omega
  · rw [Nat.min_eq_right (a := m) (by omega), List.drop_of_length_le (Nat.le_refl _), List.drop_of_length_le (by omega), List.take_nil, List.take_nil]
theorem slice_range {α : Type} {f : Nat → α} {n a k : Nat} (h : a + k ≤ n) : (((List.range n).map f).drop a).take k = (List.range k).map fun j => f (a + j) := by
  refine List.ext_getElem? fun i => ?_
  by_cases hi : i < k
  · rw [List.getElem?_take_of_lt hi, List.getElem?_drop, List.getElem?_map, List.getElem?_map, List.getElem?_range hi, List.getElem?_range (by omega)]; rfl
  · rw [List.getElem?_eq_none (by simp; omega), List.getElem?_eq_none (by simp; omega)]
theorem drop_range {α : Type} {f : Nat → α} {n a : Nat} (h : a ≤ n) : ((List.range n).map f).drop a = (List.range (n - a)).map fun j => f (a + j) := by
  refine List.ext_getElem? fun i => ?_
  rw [List.getElem?_drop, List.getElem?_map, List.getElem?_map]
  by_cases hi : i < n - a
  · rw [List.getElem?_range hi, List.getElem?_range (by omega)]; rfl
  · rw [List.getElem?_eq_none (by simp; omega), List.getElem?_eq_none (by simp; omega)]; rfl
theorem iter_add {w : Wld} {s : Std} {a : Nat} : ∀ j, iterS w s (a + j) = iterS w (iterS w s a) j
  | 0 => rfl
  | j + 1 => by
    show nxt w (iterS w s (a + j)) = _
    rw [iter_add j]; rfl
@[simp] theorem deqs_int {xs ys : List Int} : deqs (xs.map D.int) (ys.map D.int) = decide (xs = ys) := by
  induction xs generalizing ys with
  | nil => cases ys <;> simp
  | cons x xs ih =>
    cases ys with
    | nil => simp
    | cons y ys =>
      rw [List.map_cons, List.map_cons, deqs_cons, deq_int_int, ih, Bool.eq_iff_iff]
      simp
@[simp] theorem deqs_nat {xs ys : List Nat} : deqs (xs.map natD) (ys.map natD) = decide (xs = ys) := by
  induction xs generalizing ys with
  | nil => cases ys <;> simp
  | cons x xs ih =>
    cases ys with
    | nil => simp
    | cons y ys =>
      rw [List.map_cons, List.map_cons, deqs_cons, deq_natD, ih, Bool.eq_iff_iff]
      simp
@[simp] theorem deq_encS {s t : Std} : deq (encS s) (encS t) = decide (s = t) := by
  obtain ⟨a, b⟩ := s
  obtain ⟨a', b'⟩ := t
  simp [encS]
@[simp] theorem deqs_std {xs ys : List Std} : deqs (xs.map encS) (ys.map encS) = decide (xs = ys) := by
  induction xs generalizing ys with
  | nil => cases ys <;> simp
  | cons x xs ih =>
    cases ys with
    | nil => simp
    | cons y ys =>
      rw [List.map_cons, List.map_cons, deqs_cons, deq_encS, ih, Bool.eq_iff_iff]
      simp
@[simp] theorem okM_natD {n a : Nat} : okM n (natD a) = True := okM_int
@[simp] theorem okM_encS {n : Nat} {s : Std} : okM (n + 2) (encS s) = True := by simp [encS]
@[simp] theorem lfree_natD {a : Nat} : lfree (natD a) = true := lfree_int
@[simp] theorem lfree_encS {s : Std} : lfree (encS s) = true := by simp [encS]
@[simp] theorem nolst_encS {s : Std} : nolst (encS s) = true := by simp [encS]
@[simp] theorem nolst_encW {C : Addr} {w : Wld} : nolst (encW C w) = true := by
  simp [encW, wVs, encRow, encRule, encC]
@[simp] theorem map_encS_eq {r s : List Std} : (r.map encS = s.map encS) = (r = s) := map_injE fun _ _ h => by simpa using h
@[simp] theorem deqs_stdf {α β : Type} {f : α → Std} {g : β → Std} {xs : List α} {ys : List β} : deqs (xs.map fun i => encS (f i)) (ys.map fun i => encS (g i)) = decide (xs.map f = ys.map g) := by
  have := deqs_std (xs := xs.map f) (ys := ys.map g)
  simpa [Function.comp_def] using this
theorem iter_take {w : Wld} {s : Std} {n k : Nat} : ((List.range n).map fun i => encS (iterS w s i)).take k = ((List.range (min k n)).map fun i => iterS w s i).map encS := by
  rw [← List.map_take, List.take_range, List.map_map]; rfl
theorem iter_chain {w : Wld} {s : Std} {n : Nat} (i : Nat) (a b : Std) (h1 : ((List.range n).map fun i => iterS w s i)[i]? = some a) (h2 : ((List.range n).map fun i => iterS w s i)[i + 1]? = some b) : b = nxt w a := by
  simp at h1 h2
  obtain ⟨x, h1, rfl⟩ := h1
  obtain ⟨y, h2, rfl⟩ := h2
  obtain ⟨l1, e1⟩ := List.getElem?_eq_some_iff.mp h1
  obtain ⟨l2, e2⟩ := List.getElem?_eq_some_iff.mp h2
  simp at e1 e2
  subst e1 e2
  rfl
theorem nxt_mark {w : Wld} {s : Std} {x : Nat} (h : x < s.marks.length) : (nxt w s).marks.getD x 0 = if x ∈ s.rooms then w.life else fade (s.marks.getD x 0) := by
  simp [nxt, List.getD, h]
theorem forgotten {w : Wld} {s : Std} (ok : w.ok) (os : s.ok w) {t : Nat} (ht : w.life.toNat ≤ t) : (iterS w s t).marks = marksOf w.n ((List.range w.life.toNat).map fun j => (iterS w s (t - w.life.toNat + j)).rooms) := by
  have l1 := ok.l1
  refine List.ext_getElem? fun x => ?_
  have o1 := iter_ok ok os t
  by_cases hx : x < w.n
  · have o0 := iter_ok ok os (t - w.life.toNat)
    have hm : ∀ i, x < (iterS w s i).marks.length := fun i => by rw [(iter_ok ok os i).ml]; exact hx
    have f0 := o0.mr ((iterS w s (t - w.life.toNat)).marks.getD x 0) (by rw [getD_of (hm _)]; exact List.getElem_mem _)
    have key := forget (life := w.life) (x := x) f0.1 (fun i => (iterS w s (t - w.life.toNat + i)).marks.getD x 0) (fun i => (iterS w s (t - w.life.toNat + i)).rooms) w.life.toNat (by omega) rfl (fun i _ => nxt_mark (hm _))
    have e : t - w.life.toNat + w.life.toNat = t := by omega
    simp only [e] at key
    have lb := lastIn_le (x := x) ((List.range w.life.toNat).map fun i => (iterS w s (t - w.life.toNat + i)).rooms)
    unfold marksOf
    rw [List.getElem?_map, List.getElem?_range hx, List.getElem?_eq_getElem (hm t)]
    rw [getD_of (hm t)] at key
    rw [key]
    simp only [Option.map_some]
    congr 1
    split
    · rename_i z; rw [z]; omega
    · omega
  · rw [List.getElem?_eq_none (by rw [o1.ml]; omega), List.getElem?_eq_none (by simp [marksOf]; omega)]
@[simp] theorem deqs_row {α β : Type} {f : α → List Nat} {g : β → List Nat} {xs : List α} {ys : List β} : deqs (xs.map fun i => encRow (f i)) (ys.map fun i => encRow (g i)) = decide (xs.map f = ys.map g) := by
  induction xs generalizing ys with
  | nil => cases ys <;> simp
  | cons x xs ih =>
    cases ys with
    | nil => simp
    | cons y ys =>
      rw [List.map_cons, List.map_cons, deqs_cons, ih, Bool.eq_iff_iff]
      simp [encRow]
@[simp] theorem okM_encRow {n : Nat} {r : List Nat} : okM (n + 1) (encRow r) = True := by simp [encRow]
theorem pln_row {w : Wld} {r : List Nat} (ok : w.ok) (h : r.length = w.rules.length) : pln (encRow r) = true := by
  have := ok.k3
  simp [encRow]; omega
theorem rising_zip : ∀ ns : List Int, ((ns.zip (ns.drop 1)).all fun z => decide (z.1 < z.2)) = decide (ns.Pairwise (· < ·))
  | [] => by simp
  | [x] => by simp
  | x :: y :: r => by
    have ih := rising_zip (y :: r)
    simp only [List.drop_succ_cons, List.drop_zero, List.zip_cons_cons, List.all_cons] at ih ⊢
    rw [ih, Bool.eq_iff_iff]
    simp only [Bool.and_eq_true, decide_eq_true_eq]
    rw [List.pairwise_cons (a := x)]
    constructor
    · rintro ⟨h1, h2⟩
      refine ⟨fun z hz => ?_, h2⟩
      rcases List.mem_cons.mp hz with rfl | hz
      · exact h1
      · exact Int.lt_trans h1 ((List.pairwise_cons.mp h2).1 z hz)
    · rintro ⟨h1, h2⟩
      exact ⟨h1 y (List.mem_cons_self ..), h2⟩
/-- no script within a list -/
def noScr : D → Bool
  | .lst xs => xs.all fun x => !isScr x
  | d => !isScr d
theorem noScr_in {xs : List D} (h : noScr (.lst xs) = true) {x : D} (hx : x ∈ xs) : isScr x = false := by
  unfold noScr at h
  simpa using List.all_eq_true.mp h x hx
def encPl (p : List (List Nat)) : D := .lst (p.map fun r => .lst (r.map natD))
@[simp] theorem encPl_inj {a b : List (List Nat)} : encPl a = encPl b ↔ a = b := by
  constructor
  · intro h
    unfold encPl at h
    injection h with h
    refine (List.map_inj_right fun x y e => ?_).mp h
    injection e with e
    exact (List.map_inj_right fun x y => natD_inj).mp e
  · rintro rfl; rfl
/-- a rising list of rooms below n -/
def putL (n : Nat) (r : List Nat) : Prop := r.Pairwise (· < ·) ∧ ∀ x ∈ r, x < n
instance {n : Nat} {r : List Nat} : Decidable (putL n r) := by unfold putL; infer_instance
def puD (n : Nat) : D → Bool
  | .lst xs => match intsOf xs with
    | some ns => decide (ns.Pairwise (· < ·)) && ns.all fun x => decide (0 ≤ x) && decide (x < (n : Int))
    | none => false
  | _ => false
theorem puD_enc {n : Nat} {r : List Nat} (h : putL n r) : puD n (.lst (r.map natD)) = true := by
  simp only [puD, intsOf_natD]
  simp
  refine ⟨?_, fun x hx => h.2 x hx⟩
  rw [List.pairwise_map]
  exact h.1.imp fun h => by omega
theorem puD_dec {n : Nat} {d : D} (h : puD n d = true) : ∃ r : List Nat, d = .lst (r.map natD) ∧ putL n r := by
  unfold puD at h
  split at h
  · split at h
    · rename_i xs ns e
      simp at h
      obtain ⟨h1, h2⟩ := h
      refine ⟨ns.map Int.toNat, ?_, ?_, ?_⟩
      · rw [intsOf_eq e, List.map_map]
        refine congrArg D.lst (List.map_congr_left fun x hx => ?_)
        have := h2 x hx
        simp [natD]; omega
      · rw [List.pairwise_map]
        refine h1.imp_of_mem fun {a b} ha hb hab => ?_
        have := h2 a ha
        have := h2 b hb
        omega
      · intro x hx
        obtain ⟨y, hy, rfl⟩ := List.mem_map.mp hx
        have := h2 y hy
        omega
    · cases h
  · cases h
/-- the places of what are no such lists -/
def fltL (n : Nat) (xs : List D) : List Nat := (xs.zipIdx.filter fun z => !puD n z.1).map (·.2)
def fltD (n : Nat) : D → D
  | .lst xs => if 2000 < xs.length then .int (-1) else match fltL n xs with
    | [] => .non
    | i :: _ => natD i
  | _ => .int (-1)
theorem puD_ints {n : Nat} {xs : List D} : puD n (.lst xs) = (xs.all (whD 0 ((n : Int) - 1)) && match intsOf xs with | some ns => decide (ns.Pairwise (· < ·)) | none => false) := by
  simp only [puD]
  cases e : intsOf xs with
  | none => simp
  | some ns =>
    have := intsOf_eq e
    subst this
    simp only [List.all_map]
    rw [Bool.and_comm]
    congr 1
    refine List.all_congr rfl fun x => ?_
    simp [whD]
    rw [Bool.eq_iff_iff]; simp; omega
theorem fltL_nil {n : Nat} {xs : List D} (h : fltL n xs = []) : ∃ p : List (List Nat), xs = p.map (fun r => .lst (r.map natD)) ∧ ∀ r ∈ p, putL n r := by
  unfold fltL at h
  rw [List.map_eq_nil_iff, List.filter_eq_nil_iff] at h
  have key : ∀ x ∈ xs, puD n x = true := fun x hx => by
    obtain ⟨i, hi⟩ := List.mem_iff_getElem?.mp hx
    have := h (x, i) (by rw [List.mem_zipIdx_iff_getElem?]; exact hi)
    simpa using this
  clear h
  induction xs with
  | nil => exact ⟨[], rfl, by simp⟩
  | cons x xs ih =>
    obtain ⟨p, rfl, hp⟩ := ih fun y hy => key y (List.mem_cons_of_mem _ hy)
    obtain ⟨r, rfl, hr⟩ := puD_dec (key x (List.mem_cons_self ..))
    refine ⟨r :: p, rfl, fun y hy => ?_⟩
    rcases List.mem_cons.mp hy with rfl | hy
    · exact hr
    · exact hp y hy
theorem fltL_right {n : Nat} {p : List (List Nat)} (h : ∀ r ∈ p, putL n r) : fltL n (p.map fun r => .lst (r.map natD)) = [] := by
  unfold fltL
  rw [List.map_eq_nil_iff, List.filter_eq_nil_iff]
  intro z hz
  obtain ⟨d, i⟩ := z
  rw [List.mem_zipIdx_iff_getElem?] at hz
  obtain ⟨r, hr, rfl⟩ := List.mem_map.mp (List.mem_of_getElem? hz)
  simp [puD_enc (h r hr)]
theorem fltD_dec {n : Nat} {d : D} (h : isNon (fltD n d) = true) : ∃ p : List (List Nat), d = encPl p ∧ p.length ≤ 2000 ∧ ∀ r ∈ p, putL n r := by
  unfold fltD at h
  split at h
  · split at h
    · simp [isNon, natD] at h
    · rename_i xs hl
      split at h
      · rename_i e
        obtain ⟨p, rfl, hp⟩ := fltL_nil e
        exact ⟨p, rfl, by simp at hl; omega, hp⟩
      · simp [isNon, natD] at h
  · simp [isNon, natD] at h
theorem fltD_enc {n : Nat} {p : List (List Nat)} (hl : p.length ≤ 2000) (h : ∀ r ∈ p, putL n r) : fltD n (encPl p) = .non := by
  unfold fltD encPl
  simp only
  rw [if_neg (by simp; omega), fltL_right h]
theorem fltD_odd {n : Nat} {p q : List D} {o : D} (hl : (p ++ o :: q).length ≤ 2000) (hp : ∀ x ∈ p, puD n x = true) (ho : puD n o = false) : fltD n (.lst (p ++ o :: q)) = natD p.length := by
  have h1 : (p.zipIdx.filter fun z => !puD n z.1) = [] := by
    rw [List.filter_eq_nil_iff]
    intro z hz
    obtain ⟨d, i⟩ := z
    rw [List.mem_zipIdx_iff_getElem?] at hz
    simp [hp d (List.mem_of_getElem? hz)]
  unfold fltD
  simp only
  rw [if_neg (by omega)]
  unfold fltL
  rw [List.zipIdx_append, List.filter_append, h1, List.zipIdx_cons, List.filter_cons]
  simp [ho]
/-- a mark put -/
def putS (w : Wld) (s : Std) (r : Nat) : Std := ⟨s.rooms, s.marks.take r ++ [w.life] ++ s.marks.drop (r + 1)⟩
theorem putS_ok {w : Wld} {s : Std} {r : Nat} (ok : w.ok) (os : s.ok w) (h : r < w.n) : (putS w s r).ok w := by
  have hm := os.ml
  refine ⟨os.rl, os.rm, ?_, fun x hx => ?_⟩
  · simp [putS]; omega
  · simp only [putS, List.mem_append, List.mem_singleton] at hx
    have := ok.l1
    rcases hx with (hx | rfl) | hx
    · exact os.mr x (List.mem_of_mem_take hx)
    · exact ⟨by omega, Int.le_refl _⟩
    · exact os.mr x (List.mem_of_mem_drop hx)
def stepP (w : Wld) (s : Std) (r : List Nat) : Std := nxt w (r.foldl (putS w) s)
def runP (w : Wld) (s : Std) (p : List (List Nat)) : Std := p.foldl (stepP w) s
theorem puts_ok' {w : Wld} (ok : w.ok) : ∀ (r : List Nat) (s : Std), s.ok w → (∀ x ∈ r, x < w.n) → (r.foldl (putS w) s).ok w
  | [], s, os, _ => os
  | x :: r, s, os, h => puts_ok' ok r _ (putS_ok ok os (h x (List.mem_cons_self ..))) fun y hy => h y (List.mem_cons_of_mem _ hy)
theorem puts_ok {w : Wld} {r : List Nat} {s : Std} (ok : w.ok) (os : s.ok w) (h : ∀ x ∈ r, x < w.n) : (r.foldl (putS w) s).ok w := puts_ok' ok r s os h
theorem runP_ok' {w : Wld} (ok : w.ok) : ∀ (p : List (List Nat)) (s : Std), s.ok w → (∀ r ∈ p, ∀ x ∈ r, x < w.n) → (runP w s p).ok w
  | [], s, os, _ => os
  | r :: p, s, os, h => runP_ok' ok p (stepP w s r) (nxt_ok ok (puts_ok ok os (h r (List.mem_cons_self ..)))) fun y hy => h y (List.mem_cons_of_mem _ hy)
theorem runP_ok {w : Wld} {p : List (List Nat)} {s : Std} (ok : w.ok) (os : s.ok w) (h : ∀ r ∈ p, ∀ x ∈ r, x < w.n) : (runP w s p).ok w := runP_ok' ok p s os h
theorem runP_snoc {w : Wld} {s : Std} {p : List (List Nat)} {r : List Nat} : runP w s (p ++ [r]) = stepP w (runP w s p) r := by simp [runP]
/-- all stands that come of a plan -/
def ledL (w : Wld) (s : Std) (p : List (List Nat)) : List Std := (List.range (p.length + 1)).map fun i => runP w s (p.take i)
theorem ledL_snoc {w : Wld} {s : Std} {p : List (List Nat)} {r : List Nat} : ledL w s (p ++ [r]) = ledL w s p ++ [stepP w (runP w s p) r] := by
  unfold ledL
  rw [List.length_append, List.length_singleton, List.range_succ, List.map_append]
  congr 1
  · refine List.map_congr_left fun i hi => ?_
    rw [List.take_append_of_le_length (by have := List.mem_range.mp hi; omega)]
  · show [runP w s ((p ++ [r]).take (p.length + 1))] = _
    rw [List.take_of_length_le (by simp), runP_snoc]
theorem ledL_nil {w : Wld} {s : Std} : ledL w s [] = [s] := rfl
theorem ledL_len {w : Wld} {s : Std} {p : List (List Nat)} : (ledL w s p).length = p.length + 1 := by simp [ledL]
theorem putL_len {n : Nat} {r : List Nat} (h : putL n r) : r.length ≤ n := by
  have nd : r.Nodup := h.1.imp fun h => Nat.ne_of_lt h
  have := nd.length_le_of_subset (l₂ := List.range n) fun x hx => List.mem_range.mpr (h.2 x hx)
  simpa using this
def sees (w : Wld) (rs : List Nat) (x : Nat) : Bool := rs.any fun r => decide (x ∈ w.ways.getD r [])
def lookL (w : Wld) (rs : List Nat) : List Int := rs.flatMap fun r => (w.ways.getD r []).map fun (g : Nat) => (g : Int)
theorem mem_lookL {w : Wld} {rs : List Nat} {x : Nat} : ((x : Int) ∈ lookL w rs) = (sees w rs x = true) := propext (by
  unfold lookL sees
  rw [List.mem_flatMap, List.any_eq_true]
  constructor
  · rintro ⟨r, hr, h⟩
    obtain ⟨g, hg, e⟩ := List.mem_map.mp h
    exact ⟨r, hr, by have : g = x := by omega
                     subst this; simpa using hg⟩
  · rintro ⟨r, hr, h⟩
    exact ⟨r, hr, List.mem_map.mpr ⟨x, by simpa using h, rfl⟩⟩)
/-- the first beat from h on, within f, at which a walker has a way to x, none behind the first at which one stands in it -/
def lookH (w : Wld) (s : Std) (x : Nat) : Nat → Nat → Option Nat
  | 0, _ => none
  | f + 1, h => if sees w (iterS w s h).rooms x = true then some h else if x ∈ (iterS w s h).rooms then none else lookH w s x f (h + 1)
/-- alike but for the mark at x -/
structure But (x : Nat) (s u : Std) : Prop where
  rooms : u.rooms = s.rooms
  len : u.marks.length = s.marks.length
  marks : ∀ g, g ≠ x → u.marks.getD g 0 = s.marks.getD g 0
theorem place_but {w : Wld} {s u : Std} {x room : Nat} (b : But x s u) (h : x ∉ w.ways.getD room []) (r : List Cla) : place w u r room = place w s r room := by
  unfold place seen
  congr 1
  refine List.map_congr_left fun g hg => b.marks g fun e => h (e ▸ hg)
theorem sees_no {w : Wld} {rs : List Nat} {x : Nat} (h : sees w rs x = false) {r : Nat} (hr : r ∈ rs) : x ∉ w.ways.getD r [] := by
  unfold sees at h
  rw [List.any_eq_false] at h
  simpa using h r hr
theorem places_but {w : Wld} {s u : Std} {x : Nat} (b : But x s u) (h : sees w s.rooms x = false) : placesL w u = placesL w s := by
  unfold placesL
  rw [b.rooms]
  exact List.map_congr_left fun z hz => place_but b (sees_no h (List.of_mem_zip hz).2) z.1
theorem nxt_but {w : Wld} {s u : Std} {x : Nat} (b : But x s u) (h : sees w s.rooms x = false) : But x (nxt w s) (nxt w u) where
  rooms := by
    unfold nxt
    simp only
    rw [b.rooms]
    refine List.map_congr_left fun z hz => ?_
    unfold goal
    rw [place_but b (sees_no h (List.of_mem_zip hz).2) z.1]
  len := by simp [nxt, b.len]
  marks := fun g hg => by
    by_cases hl : g < s.marks.length
    · rw [nxt_mark hl, nxt_mark (by rw [b.len]; exact hl), b.rooms, b.marks g hg]
    · have e1 : (nxt w s).marks.length = s.marks.length := by simp [nxt]
      have e2 : (nxt w u).marks.length = s.marks.length := by simp [nxt, b.len]
      rw [List.getD_eq_getElem?_getD, List.getD_eq_getElem?_getD, List.getElem?_eq_none (by omega), List.getElem?_eq_none (by omega)]
theorem nxt_eq {w : Wld} {s u : Std} {x : Nat} (b : But x s u) (h : sees w s.rooms x = false) (hx : x ∈ s.rooms) : nxt w u = nxt w s := by
  have b2 := nxt_but b h
  have em : (nxt w u).marks = (nxt w s).marks := by
    refine List.ext_getElem? fun g => ?_
    by_cases hl : g < s.marks.length
    · have l1 : g < (nxt w s).marks.length := by simpa [nxt] using hl
      have l2 : g < (nxt w u).marks.length := by rw [b2.len]; exact l1
      have : (nxt w u).marks.getD g 0 = (nxt w s).marks.getD g 0 := by
        by_cases e : g = x
        · subst e
          rw [nxt_mark hl, nxt_mark (by rw [b.len]; exact hl), b.rooms, if_pos hx, if_pos hx]
        · exact b2.marks g e
      rw [getD_of l1, getD_of l2] at this
      rw [List.getElem?_eq_getElem l1, List.getElem?_eq_getElem l2, this]
    · rw [List.getElem?_eq_none (by rw [b2.len]; simp [nxt]; omega), List.getElem?_eq_none (by simp [nxt]; omega)]
  have er := b2.rooms
  cases h1 : nxt w u
  cases h2 : nxt w s
  rw [h1, h2] at em er
  simp at em er
  rw [em, er]
theorem look_some {w : Wld} {s u : Std} {x : Nat} : ∀ {f k h : Nat}, But x (iterS w s k) (iterS w u k) → lookH w s x f k = some h → k ≤ h ∧ (∀ i, k ≤ i → i ≤ h → (iterS w u i).rooms = (iterS w s i).rooms) ∧ ∀ i, k ≤ i → i < h → placesL w (iterS w u i) = placesL w (iterS w s i)
  | 0, k, h, b, e => by simp [lookH] at e
  | f + 1, k, h, b, e => by
    unfold lookH at e
    split at e
    · cases e
      exact ⟨Nat.le_refl _, fun i h1 h2 => by rw [show i = k by omega]; exact b.rooms, fun i h1 h2 => by omega⟩
    · rename_i hs
      split at e
      · cases e
      · obtain ⟨a1, a2, a3⟩ := look_some (f := f) (k := k + 1) (nxt_but b (by simpa using hs)) e
        refine ⟨by omega, fun i h1 h2 => ?_, fun i h1 h2 => ?_⟩
        · by_cases ei : i = k
          · rw [ei]; exact b.rooms
          · exact a2 i (by omega) h2
        · by_cases ei : i = k
          · rw [ei]; exact places_but b (by simpa using hs)
          · exact a3 i (by omega) h2
theorem look_none {w : Wld} {s u : Std} {x : Nat} : ∀ {f k : Nat}, But x (iterS w s k) (iterS w u k) → lookH w s x f k = none → (∀ i, k ≤ i → i ≤ k + f → (iterS w u i).rooms = (iterS w s i).rooms)
  | 0, k, b, e => fun i h1 h2 => by rw [show i = k by omega]; exact b.rooms
  | f + 1, k, b, e => by
    unfold lookH at e
    split at e
    · cases e
    · rename_i hs
      have hs : sees w (iterS w s k).rooms x = false := by simpa using hs
      intro i h1 h2
      by_cases ei : i = k
      · rw [ei]; exact b.rooms
      split at e
      · rename_i hx
        have q := nxt_eq b hs hx
        obtain ⟨j, rfl⟩ : ∃ j, i = (k + 1) + j := ⟨i - (k + 1), by omega⟩
        rw [show iterS w u (k + 1 + j) = iterS w (nxt w (iterS w u k)) j from iter_add j, show iterS w s (k + 1 + j) = iterS w (nxt w (iterS w s k)) j from iter_add j, q]
      · exact look_none (f := f) (k := k + 1) (nxt_but b hs) e i (by omega) (by omega)
theorem look_same {w : Wld} {s u : Std} {x : Nat} (ok : w.ok) (os : s.ok w) (ou : u.ok w) (b : But x s u) (e : lookH w s x w.life.toNat 0 = none) : (∀ i, (iterS w u i).rooms = (iterS w s i).rooms) ∧ ∀ i, w.life.toNat ≤ i → iterS w u i = iterS w s i := by
  have hr := look_none (f := w.life.toNat) (k := 0) b e
  have hm : (iterS w u w.life.toNat).marks = (iterS w s w.life.toNat).marks := by
    rw [forgotten ok ou (Nat.le_refl _), forgotten ok os (Nat.le_refl _)]
    congr 1
    refine List.map_congr_left fun j hj => hr _ (by omega) ?_
    have := List.mem_range.mp hj
    omega
  have hst : iterS w u w.life.toNat = iterS w s w.life.toNat := by
    have er := hr w.life.toNat (by omega) (by omega)
    cases h1 : iterS w u w.life.toNat
    cases h2 : iterS w s w.life.toNat
    rw [h1, h2] at hm er
    simp at hm er
    rw [hm, er]
  have later : ∀ i, w.life.toNat ≤ i → iterS w u i = iterS w s i := fun i hi => by
    obtain ⟨j, rfl⟩ : ∃ j, i = w.life.toNat + j := ⟨i - w.life.toNat, by omega⟩
    rw [iter_add, iter_add, hst]
  refine ⟨fun i => ?_, later⟩
  by_cases hi : i ≤ w.life.toNat
  · exact hr i (by omega) (by omega)
  · rw [later i (by omega)]
def encH : Option Nat → D
  | some n => natD n
  | none => .non
@[simp] theorem encH_some {n : Nat} : encH (some n) = natD n := (rfl)
@[simp] theorem encH_none : encH none = .non := (rfl)
theorem look_len {w : Wld} : ∀ {rs : List Nat}, (∀ r ∈ rs, (w.ways.getD r []).length ≤ 4) → (lookL w rs).length ≤ 4 * rs.length
  | [], _ => by simp [lookL]
  | r :: rs, h => by
    have h1 := h r (List.mem_cons_self ..)
    have h2 := look_len (rs := rs) fun r' hr => h r' (List.mem_cons_of_mem _ hr)
    have e : lookL w (r :: rs) = (w.ways.getD r []).map (fun (g : Nat) => (g : Int)) ++ lookL w rs := by unfold lookL; rw [List.flatMap_cons]
    rw [e, List.length_append, List.length_map, List.length_cons]
    omega
theorem look_lt {w : Wld} {s : Std} {x : Nat} : ∀ {f k h : Nat}, lookH w s x f k = some h → h < k + f
  | 0, k, h, e => by simp [lookH] at e
  | f + 1, k, h, e => by
    unfold lookH at e
    split at e
    · cases e; omega
    · split at e
      · cases e
      · have := look_lt (f := f) (k := k + 1) e
        omega
theorem sees_filter {w : Wld} {rs : List Nat} {x : Nat} : (sees w rs x = true) ↔ rs.filter (fun r => decide (x ∈ w.ways.getD r [])) ≠ [] := by
  unfold sees
  rw [List.any_eq_true, ne_eq, List.filter_eq_nil_iff]
  constructor
  · rintro ⟨r, hr, h⟩ z
    exact z r hr h
  · intro h
    refine Classical.byContradiction fun n => h fun r hr z => n ⟨r, hr, z⟩
theorem range_take {α : Type} {f : Nat → α} {n k : Nat} (h : k ≤ n) : ((List.range n).map f).take k = (List.range k).map f := by
  have := slice_range (f := f) (n := n) (a := 0) (k := k) (by omega)
  simpa using this
theorem deqs_pl {f : Nat → List Int} : ∀ xs : List Nat, deqs (xs.map fun i => .tup ((f i).map D.int)) (xs.map fun i => .tup ((f i).map D.int)) = true
  | [] => rfl
  | x :: xs => by rw [List.map_cons, deqs_cons, deqs_pl xs]; simp
@[simp] theorem okM_encH {n : Nat} {o : Option Nat} : okM (n + 1) (encH o) = True := by cases o <;> simp [encH, natD]
@[simp] theorem deq_encH {o : Option Nat} : deq (encH o) (encH o) = true := by cases o <;> simp [encH]
@[simp] theorem noIns_encH {o : Option Nat} : noIns (encH o) = true := by cases o <;> rfl
@[simp] theorem isB_encH {o : Option Nat} : isB PT.bool (encH o) = false := by cases o <;> rfl
def uS (s : Std) (x : Nat) (m : Int) : Std := ⟨s.rooms, s.marks.take x ++ m :: s.marks.drop (x + 1)⟩
theorem enc_uS {s : Std} {x : Nat} {m : Int} : D.tup [D.tup (s.rooms.map natD), D.tup ((s.marks.map D.int).take x ++ D.int m :: (s.marks.map D.int).drop (x + 1))] = encS (uS s x m) := by simp [encS, uS]
theorem ints_okM {s : Std} {x n : Nat} {m : Int} (d : D) (h : d ∈ (s.marks.map D.int).take x ∨ d = D.int m ∨ d ∈ (s.marks.map D.int).drop (x + 1)) : okM (n + 1) d := by
  rcases h with h | rfl | h
  · obtain ⟨i, _, rfl⟩ := List.mem_map.mp (List.mem_of_mem_take h)
    simp
  · simp
  · obtain ⟨i, _, rfl⟩ := List.mem_map.mp (List.mem_of_mem_drop h)
    simp
theorem uS_ok {w : Wld} {s : Std} {x : Nat} {m : Int} (os : s.ok w) (hx : x < w.n) (m0 : 0 ≤ m) (m1 : m ≤ w.life) : (uS s x m).ok w where
  rl := os.rl
  rm := os.rm
  ml := by have := os.ml; simp [uS]; omega
  mr := by
    intro y hy
    simp only [uS, List.mem_append, List.mem_cons] at hy
    rcases hy with h | rfl | h
    · exact os.mr y (List.mem_of_mem_take h)
    · exact ⟨m0, m1⟩
    · exact os.mr y (List.mem_of_mem_drop h)
theorem put_uS {w : Wld} {s : Std} {x : Nat} : putS w s x = uS s x w.life := by simp [putS, uS]
theorem uS_uS {s : Std} {x : Nat} {m n : Int} (hx : x < s.marks.length) : uS (uS s x m) x n = uS s x n := by
  have h1 : (s.marks.take x ++ m :: s.marks.drop (x + 1)).take x = s.marks.take x := by
    rw [List.take_append_of_le_length (by rw [List.length_take]; omega), List.take_take, Nat.min_self]
  have h2 : (s.marks.take x ++ m :: s.marks.drop (x + 1)).drop (x + 1) = s.marks.drop (x + 1) := by
    rw [List.drop_append, List.drop_eq_nil_of_le (by rw [List.length_take]; omega), List.length_take, Nat.min_eq_left (by omega), Nat.add_sub_cancel_left]; simp
  unfold uS
  simp only [h1, h2]
theorem but_uS {s : Std} {x : Nat} {m : Int} (hx : x < s.marks.length) : But x s (uS s x m) where
  rooms := rfl
  len := by simp [uS]; omega
  marks := fun g hg => by
    simp only [uS]
    rw [List.getD_eq_getElem?_getD, List.getD_eq_getElem?_getD]
    congr 1
    by_cases h : g < x
    · rw [List.getElem?_append_left (by rw [List.length_take]; omega), List.getElem?_take_of_lt h]
    · rw [List.getElem?_append_right (by rw [List.length_take]; omega), List.length_take, Nat.min_eq_left (by omega)]
      obtain ⟨k, rfl⟩ : ∃ k, g = x + 1 + k := ⟨g - (x + 1), by omega⟩
      rw [show x + 1 + k - x = k + 1 by omega, List.getElem?_cons_succ, List.getElem?_drop]
def s__law_alike (c : Cl) : AS := fun ds Q R => match ds with
  | [d, l, tr, tu, hr] => ∃ (w : Wld) (s u : Std) (x N : Nat) (h : Option Nat), d = encW c.World w ∧ l = .int w.life ∧ tr = .lst ((List.range N).map fun i => encS (iterS w s i)) ∧ tu = .lst ((List.range N).map fun i => encS (iterS w u i)) ∧ hr = encH h ∧ w.ok ∧ s.ok w ∧ u.ok w ∧ But x s u ∧ h = lookH w s x w.life.toNat 0 ∧ w.life.toNat ≤ N ∧ N ≤ 100 ∧ Q (.bl true)
  | _ => False
@[simp ↓] theorem s__law_alike_ {c : Cl} {d l tr tu hr : D} {Q : D → Prop} {R : EX → Prop} : @caK (s__law_alike c) [d, l, tr, tu, hr] ⟨Q⟩ ⟨R⟩ = (∃ (w : Wld) (s u : Std) (x N : Nat) (h : Option Nat), d = encW c.World w ∧ l = .int w.life ∧ tr = .lst ((List.range N).map fun i => encS (iterS w s i)) ∧ tu = .lst ((List.range N).map fun i => encS (iterS w u i)) ∧ hr = encH h ∧ w.ok ∧ s.ok w ∧ u.ok w ∧ But x s u ∧ h = lookH w s x w.life.toNat 0 ∧ w.life.toNat ≤ N ∧ N ≤ 100 ∧ Q (.bl true)) := (rfl)
def w__law_alike (c : Cl) : WS :=
    (wsC (wSet 5 (wLc (wSeq (wVar 2)) (gN 8) wYes (wOp oIx (wVar 8) (wC (.int 0))) [8]))
    (wsC (wSet 6 (wLc (wSeq (wVar 3)) (gN 8) wYes (wOp oIx (wVar 8) (wC (.int 0))) [8]))
    (wsC (wIfS (wTest (wOp oIsN (wVar 4) (wC .non)))
    (wRet ((wAndV (wOp oEq (wVar 5) (wVar 6)) (wOp oEq (wCut (wVar 2) (wSo (wVar 1)) wNo) (wCut (wVar 3) (wSo (wVar 1)) wNo)))))
    ws0)
    (wsC (wSet 7 (wLc (wSeq (wCut (wVar 2) wNo (wSo (wVar 4)))) (gN 8) wYes (wCall (s_picks c) (wCons (wVar 0) (wCons (wVar 8) wNil))) [8]))
    (wRet ((wAndV (wOp oEq (wCut (wVar 5) wNo (wSo (wOp oAdd (wVar 4) (wC (.int 1))))) (wCut (wVar 6) wNo (wSo (wOp oAdd (wVar 4) (wC (.int 1)))))) (wOp oEq (wVar 7) (wLc (wSeq (wCut (wVar 3) wNo (wSo (wVar 4)))) (gN 8) wYes (wCall (s_picks c) (wCons (wVar 0) (wCons (wVar 8) wNil))) [8])))))))))
theorem sc__law_alike : FnScope ["_law_world", "_law_life", "_law_track", "_law_other", "_law_hour", "_law_rooms", "_law_its", "_law_ways", "_law_one"] ["_law_world", "_law_life", "_law_track", "_law_other", "_law_hour"] (defScope (topS 52)) := ⟨rfl, rfl, rfl, by decide +kernel, rfl, by decide +kernel, by decide +kernel⟩
theorem d__law_alike (c : Cl) (T : Txt c mg base) : HB P TabC.w c.K mg base 6 "_law_alike" (topS 52) ["_law_world", "_law_life", "_law_track", "_law_other", "_law_hour", "_law_rooms", "_law_its", "_law_ways", "_law_one"] (w__law_alike c) := fun f cdv A outer s H E hr tk hp => by
    have S := sc__law_alike
    exact
      (dss_cons (ds_setLc 5 (own := [("_law_one", 8)]) rfl S.nd (dil_seq ((de_var 2)).dl) (blkOk_by (N := ["_law_world", "_law_life", "_law_track", "_law_other", "_law_hour", "_law_rooms", "_law_its", "_law_ways", "_law_one"]) (sc := defScope (topS 52)) (by first | decide +kernel | rfl)) (by decide) (fun _ _ _ _ _ => (dg_name 8 S.nd)) (fun _ _ _ _ _ => dts_nil) (fun _ _ _ _ _ => (de_ix ((de_var 8)).dl (de_int))))
      (dss_cons (ds_setLc 6 (own := [("_law_one", 8)]) rfl S.nd (dil_seq ((de_var 3)).dl) (blkOk_by (N := ["_law_world", "_law_life", "_law_track", "_law_other", "_law_hour", "_law_rooms", "_law_its", "_law_ways", "_law_one"]) (sc := defScope (topS 52)) (by first | decide +kernel | rfl)) (by decide) (fun _ _ _ _ _ => (dg_name 8 S.nd)) (fun _ _ _ _ _ => dts_nil) (fun _ _ _ _ _ => (de_ix ((de_var 8)).dl (de_int))))
      (dss_cons (ds_if (dt_cmp cmp_is ((de_var 4)).dl ((de_non)).dl)
      (dss_one (ds_ret (de_and (de_cmp (cmp_eq (hu64 hr)) ((de_var 5)).dl ((de_var 6)).dl) (de_one (de_cmp (cmp_eq (hu64 hr)) ((de_cut ((de_var 2)).dl (do_so (de_var 1)) do_no)).dl ((de_cut ((de_var 3)).dl (do_so (de_var 1)) do_no)).dl)))))
      dss_nil)
      (dss_cons (ds_setLc 7 (own := [("_law_one", 8)]) rfl S.nd (dil_seq ((de_cut ((de_var 2)).dl do_no (do_so (de_var 4)))).dl) (blkOk_by (N := ["_law_world", "_law_life", "_law_track", "_law_other", "_law_hour", "_law_rooms", "_law_its", "_law_ways", "_law_one"]) (sc := defScope (topS 52)) (by first | decide +kernel | rfl)) (by decide) (fun _ _ _ _ _ => (dg_name 8 S.nd)) (fun _ _ _ _ _ => dts_nil) (fun _ _ _ _ _ => (dc (ok_picks c T) hr (by decide) takes0 (da_cons (de_var 0) (da_cons (de_var 8) da_nil)))))
      (dss_one (ds_ret (de_and (de_cmp (cmp_eq (hu64 hr)) ((de_cut ((de_var 5)).dl do_no (do_so (de_add ((de_var 4)).dl ((de_int)).dl)))).dl ((de_cut ((de_var 6)).dl do_no (do_so (de_add ((de_var 4)).dl ((de_int)).dl)))).dl) (de_one (de_cmp (cmp_eq (hu64 hr)) ((de_var 7)).dl ((dn_lc (own := [("_law_one", 8)]) rfl S.nd (dil_seq ((de_cut ((de_var 3)).dl do_no (do_so (de_var 4)))).dl) (blkOk_by (N := ["_law_world", "_law_life", "_law_track", "_law_other", "_law_hour", "_law_rooms", "_law_its", "_law_ways", "_law_one"]) (sc := defScope (topS 52)) (by first | decide +kernel | rfl)) (by decide) (fun _ _ _ _ _ => (dg_name 8 S.nd)) (fun _ _ _ _ _ => dts_nil) (fun _ _ _ _ _ => (dc (ok_picks c T) hr (by decide) takes0 (da_cons (de_var 0) (da_cons (de_var 8) da_nil)))))).de.dl)))))))))
theorem h__law_alike (c : Cl) (X : Xs c) (ds : List D) (Q : D → Prop) (R : EX → Prop) (h : s__law_alike c ds Q R) : ds.length = 5 ∧ w__law_alike c (fun ex _ => R ex) ⟨fun _ => Q .non, fun _ => Q, fun _ => False, fun _ => False⟩ (slots0 ["_law_world", "_law_life", "_law_track", "_law_other", "_law_hour", "_law_rooms", "_law_its", "_law_ways", "_law_one"] ["_law_world", "_law_life", "_law_track", "_law_other", "_law_hour"] ds) := by
  unfold s__law_alike at h
  split at h
  · rename_i d l tr tu hr
    refine ⟨rfl, ?_⟩
    obtain ⟨w, s, u, x, N, h0, rfl, rfl, rfl, rfl, rfl, ok, os, ou, but, e, hN, hN2, h⟩ := h
    have l1 := ok.l1
    have l6 := ok.l6
    simp [w__law_alike]
    refine ⟨by omega, ?_⟩
    refine comp_enc _ (fun i => encRow (iterS w s i).rooms) (fun i hi K1 hk => by simp [encS]; exact hk) ?_
    simp
    refine ⟨by omega, ?_⟩
    refine comp_enc _ (fun i => encRow (iterS w u i).rooms) (fun i hi K1 hk => by simp [encS]; exact hk) ?_
    cases h0 with
    | none =>
      obtain ⟨a1, a2⟩ := look_same ok os ou but e.symm
      have d1 : cutD ((List.range N).map fun i => encS (iterS w s i)) (some w.life) none = (List.range (N - w.life.toNat)).map fun j => encS (iterS w s (w.life.toNat + j)) := by
        rw [cut_drop (by omega), drop_range (by omega)]
      have d2 : cutD ((List.range N).map fun i => encS (iterS w u i)) (some w.life) none = (List.range (N - w.life.toNat)).map fun j => encS (iterS w s (w.life.toNat + j)) := by
        rw [cut_drop (by omega), drop_range (by omega)]
        exact List.map_congr_left fun j _ => by rw [a2 _ (by omega)]
      simp [a1, d1, d2]
      exact h
    | some k =>
      obtain ⟨a1, a2, a3⟩ := look_some (k := 0) (f := w.life.toNat) but e.symm
      have hk := look_lt e.symm
      have t1 : cutD ((List.range N).map fun i => encS (iterS w s i)) none (some (k : Int)) = (List.range k).map fun i => encS (iterS w s i) := by rw [cut_take (by omega), Int.toNat_natCast, range_take (by omega)]
      have t2 : cutD ((List.range N).map fun i => encS (iterS w u i)) none (some (k : Int)) = (List.range k).map fun i => encS (iterS w u i) := by rw [cut_take (by omega), Int.toNat_natCast, range_take (by omega)]
      have t3 : cutD ((List.range N).map fun i => encRow (iterS w s i).rooms) none (some ((k : Int) + 1)) = (List.range (k + 1)).map fun i => encRow (iterS w s i).rooms := by rw [cut_take (by omega), show ((k : Int) + 1).toNat = k + 1 by omega, range_take (by omega)]
      have t4 : cutD ((List.range N).map fun i => encRow (iterS w u i).rooms) none (some ((k : Int) + 1)) = (List.range (k + 1)).map fun i => encRow (iterS w s i).rooms := by
        rw [cut_take (by omega), show ((k : Int) + 1).toNat = k + 1 by omega, range_take (by omega)]
        exact List.map_congr_left fun j hj => by rw [a2 j (by omega) (by have := List.mem_range.mp hj; omega)]
      simp [natD, t1]
      refine ⟨by omega, ?_⟩
      refine comp_enc _ (fun i => .tup ((placesL w (iterS w s i)).map D.int)) (fun i hi K1 hk => ?_) ?_
      · have oi := iter_ok ok os i
        simp [ok, stD_enc oi, pln_encS ok oi]
        exact hk
      · simp [natD, t3, t4, t2]
        refine ⟨by omega, ?_⟩
        refine comp_enc _ (fun i => .tup ((placesL w (iterS w s i)).map D.int)) (fun i hi K1 hk => ?_) ?_
        · have oi := iter_ok ok ou i
          have e3 := a3 i (by omega) (List.mem_range.mp hi)
          simp [ok, stD_enc oi, pln_encS ok oi, e3]
          exact hk
        · simp [deqs_pl]
          exact h
  · exact h.elim
theorem ok__law_alike (c : Cl) (T : Txt c mg base) : Good P TabC.w c.K mg base 7 "_law_alike" ["_law_world", "_law_life", "_law_track", "_law_other", "_law_hour"] (spV c.K (s__law_alike c)) := goodV T.f__law_alike sc__law_alike (d__law_alike c T) fun ds Q R h => h__law_alike c T.X ds Q R h
/-! _law_cell_at -/
def s__law_cell_at (c : Cl) : AS := fun ds Q R => match ds with
  | [.scr ns, .int k] => 0 ≤ k ∧ Q (.int (ns.getD k.toNat 0))
  | _ => False
@[simp ↓] theorem s__law_cell_at_ {c : Cl} {ns : List Int} {k : Int} {Q : D → Prop} {R : EX → Prop} : @caK (s__law_cell_at c) [.scr ns, .int k] ⟨Q⟩ ⟨R⟩ = (0 ≤ k ∧ Q (.int (ns.getD k.toNat 0))) := (rfl)
def w__law_cell_at (c : Cl) : WS :=
    (wsC (wIfS (wTest (wOp (oCmp fun i j => decide (i < j)) (wVar 1) (wB bLen (wCons (wVar 0) wNil))))
    (wRet (wOp oIx (wVar 0) (wVar 1)))
    ws0)
    (wRet (wC (.int 0))))
theorem sc__law_cell_at : FnScope ["_law_script", "_law_k"] ["_law_script", "_law_k"] (defScope (topS 44)) := ⟨rfl, rfl, rfl, by decide +kernel, rfl, by decide +kernel, by decide +kernel⟩
theorem d__law_cell_at (c : Cl) (T : Txt c mg base) : HB P TabC.w c.K mg base 0 "_law_cell_at" (topS 44) ["_law_script", "_law_k"] (w__law_cell_at c) := fun f cdv A outer s H E hr tk hp => by
    have S := sc__law_cell_at
    exact
      (dss_cons (ds_if (dt_cmp cmp_lt ((de_var 1)).dl ((de_callB ca_len call_len_seq (by rfl) T.b_len (dal_cons ((de_var 0)).dl dal_nil))).dl)
      (dss_one (ds_ret (de_ix ((de_var 0)).dl (de_var 1))))
      dss_nil)
      (dss_one (ds_ret (de_int))))
theorem h__law_cell_at (c : Cl) (X : Xs c) (ds : List D) (Q : D → Prop) (R : EX → Prop) (h : s__law_cell_at c ds Q R) : ds.length = 2 ∧ w__law_cell_at c (fun ex _ => R ex) ⟨fun _ => Q .non, fun _ => Q, fun _ => False, fun _ => False⟩ (slots0 ["_law_script", "_law_k"] ["_law_script", "_law_k"] ds) := by
  unfold s__law_cell_at at h
  split at h
  · rename_i ns k
    refine ⟨rfl, ?_⟩
    obtain ⟨h0, h⟩ := h
    simp [w__law_cell_at, atI, ixN, h0]
    by_cases hk : k < (ns.length : Int)
    · have hk' : k.toNat < ns.length := by omega
      simp [hk, hk'] at h ⊢
      exact h
    · have hk' : ns.length ≤ k.toNat := by omega
      simp [hk, hk'] at h ⊢
      exact h
  · exact h.elim
theorem ok__law_cell_at (c : Cl) (T : Txt c mg base) : Good P TabC.w c.K mg base 1 "_law_cell_at" ["_law_script", "_law_k"] (spV c.K (s__law_cell_at c)) := goodV T.f__law_cell_at sc__law_cell_at (d__law_cell_at c T) fun ds Q R h => h__law_cell_at c T.X ds Q R h
/-! _law_digit -/
def s__law_digit (_ : Cl) : AS := fun ds Q _ => match ds with | [.int b] => (0 < b ∧ b < 2 ^ 63) ∧ ∀ d, 0 ≤ d → d < b → Q (.int d) | _ => False
@[simp ↓] theorem s__law_digit_ {c : Cl} {b : Int} {Q : D → Prop} {R : EX → Prop} : @caK (s__law_digit c) [.int b] ⟨Q⟩ ⟨R⟩ = ((0 < b ∧ b < 2 ^ 63) ∧ ∀ d, 0 ≤ d → d < b → Q (.int d)) := (rfl)
def w__law_digit (c : Cl) : WS :=
    (wsC (wIfS (wTest (wOp oEq (wB bLen (wCons (wOwn 0) wNil)) (wC (.int 1))))
    (wsC (wSet 2 (wOp oIx (wOwn 0) (wC (.int 0))))
    (wsC (wSetIx 0 (wC (.int 0)) (wOp oIx (wLst (wCons (wC (.int 0)) (wCons (wVar 2) wNil))) (wB bInt (wCons (wOp (oCmp fun i j => decide (j ≤ i)) (wVar 2) (wOp oPow (wC (.int 10)) (wC (.int 18)))) wNil))))
    (wExt 0 (wLst (wCons (wOp oMod (wVar 2) (wC (.int 2147483647))) (wCons (wC (.int 0)) wNil))))))
    ws0)
    (wsC (wIfS (wTest (wOp (oCmp fun i j => decide (j < i)) (wOp oIx (wOwn 0) (wC (.int 0))) (wC (.int 0))))
    (wsC (wSet 3 (wOp oMod (wOp oIx (wOwn 0) (wC (.int 0))) (wVar 1)))
    (wsC (wSetIx 0 (wC (.int 0)) (wOp oFdiv (wOp oIx (wOwn 0) (wC (.int 0))) (wVar 1)))
    (wRet (wVar 3))))
    ws0)
    (wsC (wSetIx 0 (wC (.int 2)) (wOp oAdd (wOp oIx (wOwn 0) (wC (.int 2))) (wC (.int 1))))
    (wsC (wSet 4 (wOp oMod (wOp oMul (wOp oAdd (wOp oAdd (wOp oIx (wOwn 0) (wC (.int 1))) (wOp oMul (wC (.int 7919)) (wOp oIx (wOwn 0) (wC (.int 2))))) (wC (.int 1))) (wC (.int 48271))) (wC (.int 2147483647))))
    (wsC (wSet 4 (wOp oMod (wOp oMul (wVar 4) (wOp oAdd (wOp oFdiv (wVar 4) (wC (.int 1009))) (wC (.int 69621)))) (wC (.int 2147483647))))
    (wRet (wOp oMod (wOp oMod (wOp oMul (wVar 4) (wOp oAdd (wOp oFdiv (wVar 4) (wC (.int 2003))) (wC (.int 40692)))) (wC (.int 2147483399))) (wVar 1))))))))
theorem sc__law_digit : FnScope ["_law_state", "_law_base", "_law_cell", "_law_found", "_law_number"] ["_law_state", "_law_base"] (defScope (topS 45)) := ⟨rfl, rfl, rfl, by decide +kernel, rfl, by decide +kernel, by decide +kernel⟩
theorem d__law_digit (c : Cl) (T : Txt c mg base) : HB P TabC.w c.K mg base 0 "_law_digit" (topS 45) ["_law_state", "_law_base", "_law_cell", "_law_found", "_law_number"] (w__law_digit c) := fun f cdv A outer s H E hr tk hp => by
    have S := sc__law_digit
    exact
      (dss_cons (ds_if (dt_cmp (cmp_eq (hu64 hr)) ((de_callB ca_len call_len_seq (by rfl) T.b_len (dal_cons (dl_own 0) dal_nil))).dl ((de_int)).dl)
      (dss_cons (ds_set 2 S.nd (de_ix (dl_own 0) (de_int)))
      (dss_cons (ds_setIx 0 (de_ix ((dn_lst (da_cons (de_int) (da_cons (de_var 2) da_nil)))).de.dl (de_callT ca_int call_int1 (by rfl) T.b_int (dal_cons ((de_cmp cmp_ge ((de_var 2)).dl ((de_pow ((de_int)).dl ((de_int)).dl)).dl)).dl dal_nil))) (de_int))
      (dss_one (ds_ext 0 ((dn_lst (da_cons (de_mod ((de_var 2)).dl ((de_int)).dl) (da_cons (de_int) da_nil)))).de.dl))))
      dss_nil)
      (dss_cons (ds_if (dt_cmp cmp_gt ((de_ix (dl_own 0) (de_int))).dl ((de_int)).dl)
      (dss_cons (ds_set 3 S.nd (de_mod ((de_ix (dl_own 0) (de_int))).dl ((de_var 1)).dl))
      (dss_cons (ds_setIx 0 (de_fdiv ((de_ix (dl_own 0) (de_int))).dl ((de_var 1)).dl) (de_int))
      (dss_one (ds_ret (de_var 3)))))
      dss_nil)
      (dss_cons (ds_setIx 0 (de_add ((de_ix (dl_own 0) (de_int))).dl ((de_int)).dl) (de_int))
      (dss_cons (ds_set 4 S.nd (de_mod ((de_mul ((de_add ((de_add ((de_ix (dl_own 0) (de_int))).dl ((de_mul ((de_int)).dl ((de_ix (dl_own 0) (de_int))).dl)).dl)).dl ((de_int)).dl)).dl ((de_int)).dl)).dl ((de_int)).dl))
      (dss_cons (ds_set 4 S.nd (de_mod ((de_mul ((de_var 4)).dl ((de_add ((de_fdiv ((de_var 4)).dl ((de_int)).dl)).dl ((de_int)).dl)).dl)).dl ((de_int)).dl))
      (dss_one (ds_ret (de_mod ((de_mod ((de_mul ((de_var 4)).dl ((de_add ((de_fdiv ((de_var 4)).dl ((de_int)).dl)).dl ((de_int)).dl)).dl)).dl ((de_int)).dl)).dl ((de_var 1)).dl))))))))

theorem dig_log {b : Int} (h : b < 2 ^ 63) (h0 : 0 < b) : b.natAbs.log2 < 9000 := by
  have : b.natAbs < 2 ^ 63 := by omega
  exact Nat.lt_of_lt_of_le ((Nat.log2_lt (by omega)).mpr this) (by decide)
theorem good_three {a : Addr} {x y z : Int} {r : Rho} (h1 : 0 ≤ y) (h2 : y < 2147483647) (h3 : 0 ≤ z) : goodS a (.own (some a) [.int x, .int y, .int z] :: r) := ⟨[x, y, z], rfl, .inr ⟨x, y, z, rfl, h1, h2, h3⟩⟩
theorem h__law_digit (c : Cl) (X : Xs c) (a : Addr) (ns : List Int) (ds : List D) (Q : D → Prop) (R : EX → Prop) (h : s__law_digit c ds Q R) (hs : StOkI ns) : ds.length + 1 = 2 ∧ w__law_digit c (fun ex ρ => goodS a ρ ∧ R ex) ⟨fun ρ => goodS a ρ ∧ Q .non, fun ρ d => goodS a ρ ∧ Q d, fun _ => False, fun _ => False⟩ (.own (some a) (ns.map .int) :: ds.map .val ++ List.replicate 3 .un) := by
  unfold s__law_digit at h
  split at h
  · rename_i b
    obtain ⟨⟨hb0, hb1⟩, h⟩ := h
    refine ⟨rfl, ?_⟩
    have hm : ∀ t : Int, Q (.int (t % b)) := fun t => h _ (Int.emod_nonneg _ (by omega)) (Int.emod_lt_of_pos _ hb0)
    have hl := dig_log hb1 hb0
    have l1 : Nat.log2 1009 < 9000 := by decide +kernel
    have l2 : Nat.log2 2003 < 9000 := by decide +kernel
    rcases hs with ⟨n, rfl⟩ | ⟨x, y, z, rfl, h1, h2, h3⟩
    · by_cases hn : 1000000000000000000 ≤ n
      · have hp : 0 < n := by omega
        simp [w__law_digit, atI, ixN, hn, hp, hb0, hl, hm]
        exact good_three (by omega) (by omega) (by omega)
      · simp [w__law_digit, atI, ixN, hn, hb0, hl, hm, l1, l2]
        exact ⟨.inl ⟨by omega, by omega⟩, .inl ⟨by omega, by omega⟩, good_three (by omega) (by omega) (by omega)⟩
    · by_cases hx : 0 < x
      · simp [w__law_digit, atI, ixN, hx, hb0, hl, hm]
        exact good_three (by omega) (by omega) (by omega)
      · simp [w__law_digit, atI, ixN, hx, hb0, hl, hm, l1, l2]
        exact ⟨.inl ⟨by omega, by omega⟩, .inl ⟨by omega, by omega⟩, good_three (by omega) (by omega) (by omega)⟩
  · exact h.elim
theorem ok__law_digit (c : Cl) (T : Txt c mg base) : Good P TabC.w c.K mg base 1 "_law_digit" ["_law_state", "_law_base"] (spS c.K (s__law_digit c)) := goodSO T.f__law_digit sc__law_digit (d__law_digit c T) fun a ns ds Q R hs h => h__law_digit c T.X a ns ds Q R h hs
/-! _law_due -/
def s__law_due (c : Cl) : AS := fun ds Q R => match ds with
  | [ws, l, tr, x] => ∃ (w : Wld) (s : Std) (r N : Nat), ws = .lst (w.ways.map encRow) ∧ l = .int w.life ∧ tr = .lst ((List.range N).map fun i => encS (iterS w s i)) ∧ x = natD r ∧ w.ok ∧ s.ok w ∧ w.life.toNat ≤ N ∧ Q (encH (lookH w s r w.life.toNat 0))
  | _ => False
@[simp ↓] theorem s__law_due_ {c : Cl} {ws l tr x : D} {Q : D → Prop} {R : EX → Prop} : @caK (s__law_due c) [ws, l, tr, x] ⟨Q⟩ ⟨R⟩ = (∃ (w : Wld) (s : Std) (r N : Nat), ws = .lst (w.ways.map encRow) ∧ l = .int w.life ∧ tr = .lst ((List.range N).map fun i => encS (iterS w s i)) ∧ x = natD r ∧ w.ok ∧ s.ok w ∧ w.life.toNat ≤ N ∧ Q (encH (lookH w s r w.life.toNat 0))) := (rfl)
def w__law_due (c : Cl) : WS :=
    (wsC (wFor (wRng1 (wCons (wVar 1) wNil)) (gN 4)
    (wsC (wSet 5 (wOp oIx (wOp oIx (wVar 2) (wVar 4)) (wC (.int 0))))
    (wsC (wIfS (wTest (wOp oNe (wLc (wSeq (wVar 5)) (gN 6) (wTest (wOp (oIn false) (wVar 3) (wOp oIx (wVar 0) (wVar 6)))) (wVar 6) [6]) (wLst wNil)))
    (wRet (wVar 4))
    ws0)
    (wIfS (wTest (wOp (oIn false) (wVar 3) (wVar 5)))
    (wRet (wC .non))
    ws0))))
    (wRet (wC .non)))
theorem sc__law_due : FnScope ["_law_ways", "_law_life", "_law_track", "_law_room", "_law_hour", "_law_rooms", "_law_one"] ["_law_ways", "_law_life", "_law_track", "_law_room"] (defScope (topS 51)) := ⟨rfl, rfl, rfl, by decide +kernel, rfl, by decide +kernel, by decide +kernel⟩
theorem d__law_due (c : Cl) (T : Txt c mg base) : HB P TabC.w c.K mg base 0 "_law_due" (topS 51) ["_law_ways", "_law_life", "_law_track", "_law_room", "_law_hour", "_law_rooms", "_law_one"] (w__law_due c) := fun f cdv A outer s H E hr tk hp => by
    have S := sc__law_due
    exact
      (dss_cons (ds_for hp rfl (di_range1 (by rfl) T.b_range (da_cons (de_var 1) da_nil)) (dg_name 4 S.nd)
      (dss_cons (ds_set 5 S.nd (de_ix ((de_ix ((de_var 2)).dl (de_var 4))).dl (de_int)))
      (dss_cons (ds_if (dt_cmp (cmp_ne (hu64 hr)) ((dn_lc (own := [("_law_one", 6)]) rfl S.nd (dil_seq ((de_var 5)).dl) (blkOk_by (N := ["_law_ways", "_law_life", "_law_track", "_law_room", "_law_hour", "_law_rooms", "_law_one"]) (sc := defScope (topS 51)) (by first | decide +kernel | rfl)) (by decide) (fun _ _ _ _ _ => (dg_name 6 S.nd)) (fun _ _ _ _ _ => (dts_one (dt_cmp (opa_in (hu65 hr)) ((de_var 3)).dl ((de_ix ((de_var 0)).dl (de_var 6))).dl))) (fun _ _ _ _ _ => (de_var 6)))).de.dl ((dn_lst da_nil)).de.dl)
      (dss_one (ds_ret (de_var 4)))
      dss_nil)
      (dss_one (ds_if (dt_cmp (opa_in (hu65 hr)) ((de_var 3)).dl ((de_var 5)).dl)
      (dss_one (ds_ret (de_non)))
      dss_nil)))))
      (dss_one (ds_ret (de_non))))
theorem h__law_due (c : Cl) (X : Xs c) (ds : List D) (Q : D → Prop) (R : EX → Prop) (h : s__law_due c ds Q R) : ds.length = 4 ∧ w__law_due c (fun ex _ => R ex) ⟨fun _ => Q .non, fun _ => Q, fun _ => False, fun _ => False⟩ (slots0 ["_law_ways", "_law_life", "_law_track", "_law_room", "_law_hour", "_law_rooms", "_law_one"] ["_law_ways", "_law_life", "_law_track", "_law_room"] ds) := by
  unfold s__law_due at h
  split at h
  · rename_i ws l tr x
    refine ⟨rfl, ?_⟩
    obtain ⟨w, s, x, N, rfl, rfl, rfl, rfl, ok, os, hN, h⟩ := h
    have l1 := ok.l1
    have l6 := ok.l6
    simp [w__law_due]
    refine ⟨by omega, ?_⟩
    rw [rngL_enc]
    refine for_done _ (List.range w.life.toNat) (fun p ρ => ∃ s4 s5 s6, ρ = [.val (.lst (w.ways.map encRow)), .val (.int w.life), .val (.lst ((List.range N).map fun i => encS (iterS w s i))), .val (natD x), s4, s5, s6] ∧ ¬ isMut s6 ∧ p.length ≤ w.life.toNat ∧ Q (encH (lookH w s x (w.life.toNat - p.length) p.length))) (fun p z r ρ nx he hI ih => ?_) (fun ρ hI => ?_) _ ⟨_, _, _, rfl, fun z => z, Nat.zero_le _, h⟩
    · obtain ⟨s4, s5, s6, rfl, m6, hp, q⟩ := hI
      have hl : p.length < w.life.toNat := by
        have := congrArg List.length he
        simp at this; omega
      have hz : z = p.length := by
        have := congrArg (fun l => l[p.length]?) he
        simpa [List.getElem?_range hl] using this.symm
      subst hz
      have ou := iter_ok ok os p.length
      rw [show w.life.toNat - p.length = (w.life.toNat - (p.length + 1)) + 1 by omega] at q
      unfold lookH at q
      simp [List.getElem?_range (show p.length < N by omega), m6, encS]
      refine ⟨by have := ou.rl; have := ok.k3; omega, ?_⟩
      refine comp_filter natD (fun r => decide (x ∈ w.ways.getD r [])) natD (fun r hr K1 K0 h1 h0 => ?_) ?_
      · have hr2 : r < w.ways.length := ou.rm r hr
        obtain ⟨row, e, e2⟩ : ∃ row, w.ways[r]? = some row ∧ w.ways.getD r [] = row := ⟨w.ways[r], List.getElem?_eq_getElem hr2, by rw [List.getD_eq_getElem?_getD, List.getElem?_eq_getElem hr2]; rfl⟩
        rw [e2] at h1 h0
        simp [natD, e] at h1 h0 ⊢
        by_cases c0 : x ∈ row
        · rw [if_pos c0]; exact h1 c0
        · rw [if_neg c0]; exact h0 c0
      · have hs := sees_filter (w := w) (rs := (iterS w s p.length).rooms) (x := x)
        generalize (iterS w s p.length).rooms.filter (fun r => decide (x ∈ w.ways.getD r [])) = F at hs
        have k0 : deqs [] [] = true := rfl
        have k1 : ∀ a b, deqs (a :: b) [] = false := fun _ _ => rfl
        cases F with
        | nil =>
          have ns : ¬ sees w (iterS w s p.length).rooms x = true := fun z => hs.mp z rfl
          rw [if_neg ns] at q
          simp [k0]
          by_cases c2 : x ∈ (iterS w s p.length).rooms
          · rw [if_pos c2] at q ⊢; exact q
          · rw [if_neg c2] at q ⊢
            refine ih _ ⟨.val (.int p.length), .val (.tup ((iterS w s p.length).rooms.map natD)), s6, rfl, m6, by simp; omega, by simpa using q⟩
        | cons a F =>
          rw [if_pos (hs.mpr (by simp))] at q
          simp [k1, natD]
          exact q
    · obtain ⟨s4, s5, s6, rfl, m6, hp, q⟩ := hI
      simp [lookH] at q ⊢
      exact q
  · exact h.elim
theorem ok__law_due (c : Cl) (T : Txt c mg base) : Good P TabC.w c.K mg base 1 "_law_due" ["_law_ways", "_law_life", "_law_track", "_law_room"] (spV c.K (s__law_due c)) := goodV T.f__law_due sc__law_due (d__law_due c T) fun ds Q R h => h__law_due c T.X ds Q R h
/-! _law_floor -/
theorem cut4 {xs : List D} {k : Int} (h : 0 ≤ k) : cutD xs none (some k) = xs.take k.toNat := cut_take h
def s__law_floor (c : Cl) : AS := fun ds Q R => match ds with
  | [.int most] => (1 ≤ most ∧ most ≤ 8) ∧ ∀ ws : List (List Nat), 1 ≤ ws.length → ws.length ≤ most → (∀ r ∈ ws, 1 ≤ r.length ∧ r.length ≤ 4 ∧ ∀ g ∈ r, g < ws.length) → Q (.lst (ws.map encRow))
  | _ => False
@[simp ↓] theorem s__law_floor_ {c : Cl} {most : Int} {Q : D → Prop} {R : EX → Prop} : @caK (s__law_floor c) [.int most] ⟨Q⟩ ⟨R⟩ = ((1 ≤ most ∧ most ≤ 8) ∧ ∀ ws : List (List Nat), 1 ≤ ws.length → ws.length ≤ most → (∀ r ∈ ws, 1 ≤ r.length ∧ r.length ≤ 4 ∧ ∀ g ∈ r, g < ws.length) → Q (.lst (ws.map encRow))) := (rfl)
def w__law_floor (c : Cl) : WS :=
    (wsC (wSet 2 (wOp oAdd (wC (.int 1)) (wCallS 0 (s__law_digit c) (wCons (wVar 1) wNil))))
    (wsC (wSet 3 (wCallS 0 (s__law_digit c) (wCons (wC (.int 4)) wNil)))
    (wsC (wNew 4 (wLst wNil))
    (wsC (wFor (wRng1 (wCons (wVar 2) wNil)) (gN 5)
    (wsC (wSet 6 (wLc (wRng1 (wCons (wOp oAdd (wC (.int 1)) (wCallS 0 (s__law_digit c) (wCons (wC (.int 4)) wNil))) wNil)) (gN 7) wYes (wCallS 0 (s__law_digit c) (wCons (wVar 2) wNil)) [7]))
    (wsC (wIfS (wTest (wOp oEq (wVar 3) (wC (.int 0))))
    (wSet 6 (wOp oAdd (wLst (wCons (wOp oMod (wOp oAdd (wVar 5) (wC (.int 1))) (wVar 2)) wNil)) (wCut (wVar 6) wNo (wSo (wC (.int 2))))))
    ws0)
    (wsC (wIfS (wTest (wOp oEq (wVar 3) (wC (.int 1))))
    (wSet 6 (wOp oAdd (wLst (wCons (wOp oMod (wOp oAdd (wVar 5) (wC (.int 1))) (wVar 2)) (wCons (wOp oMod (wOp oSub (wOp oAdd (wVar 5) (wVar 2)) (wC (.int 1))) (wVar 2)) wNil))) (wCut (wVar 6) wNo (wSo (wC (.int 1))))))
    ws0)
    (wApp 4 (wB bTup (wCons (wCut (wVar 6) wNo (wSo (wC (.int 4)))) wNil)))))))
    (wMove 4 (wRet (wVar 4)))))))
theorem sc__law_floor : FnScope ["_law_state", "_law_most", "_law_many", "_law_way", "_law_found", "_law_room", "_law_goals", "_law_k"] ["_law_state", "_law_most"] (defScope (topS 48)) := ⟨rfl, rfl, rfl, by decide +kernel, rfl, by decide +kernel, by decide +kernel⟩
theorem d__law_floor (c : Cl) (T : Txt c mg base) : HB P TabC.w c.K mg base 1 "_law_floor" (topS 48) ["_law_state", "_law_most", "_law_many", "_law_way", "_law_found", "_law_room", "_law_goals", "_law_k"] (w__law_floor c) := fun f cdv A outer s H E hr tk hp => by
    have S := sc__law_floor
    exact
      (dss_cons (ds_set 2 S.nd (de_add ((de_int)).dl ((dcS 0 (ok__law_digit c T) hr (by decide) tk (da_cons (de_var 1) da_nil))).dl))
      (dss_cons (ds_set 3 S.nd (dcS 0 (ok__law_digit c T) hr (by decide) tk (da_cons (de_int) da_nil)))
      (dss_cons (ds_new 4 S.nd (dn_lst da_nil))
      (dss_cons (ds_for hp rfl (di_range1 (by rfl) T.b_range (da_cons (de_var 2) da_nil)) (dg_name 5 S.nd)
      (dss_cons (ds_setLc 6 (own := [("_law_k", 7)]) rfl S.nd (di_range1 (by rfl) T.b_range (da_cons (de_add ((de_int)).dl ((dcS 0 (ok__law_digit c T) hr (by decide) tk (da_cons (de_int) da_nil))).dl) da_nil)).l (blkOk_by (N := ["_law_state", "_law_most", "_law_many", "_law_way", "_law_found", "_law_room", "_law_goals", "_law_k"]) (sc := defScope (topS 48)) (by first | decide +kernel | rfl)) (by decide) (fun _ _ _ _ _ => (dg_name 7 S.nd)) (fun _ _ _ _ _ => dts_nil) (fun _ _ _ _ _ => (dcS 0 (ok__law_digit c T) hr (by decide) takes0 (da_cons (de_var 2) da_nil))))
      (dss_cons (ds_if (dt_cmp (cmp_eq (hu64 hr)) ((de_var 3)).dl ((de_int)).dl)
      (dss_one (ds_set 6 S.nd (de_add ((dn_lst (da_cons (de_mod ((de_add ((de_var 5)).dl ((de_int)).dl)).dl ((de_var 2)).dl) da_nil))).de.dl ((de_cut ((de_var 6)).dl do_no (do_so (de_int)))).dl)))
      dss_nil)
      (dss_cons (ds_if (dt_cmp (cmp_eq (hu64 hr)) ((de_var 3)).dl ((de_int)).dl)
      (dss_one (ds_set 6 S.nd (de_add ((dn_lst (da_cons (de_mod ((de_add ((de_var 5)).dl ((de_int)).dl)).dl ((de_var 2)).dl) (da_cons (de_mod ((de_sub ((de_add ((de_var 5)).dl ((de_var 2)).dl)).dl ((de_int)).dl)).dl ((de_var 2)).dl) da_nil)))).de.dl ((de_cut ((de_var 6)).dl do_no (do_so (de_int)))).dl)))
      dss_nil)
      (dss_one (ds_app 4 (de_callT ca_tup call_tuple_of (by rfl) T.b_tuple (dal_cons ((de_cut ((de_var 6)).dl do_no (do_so (de_int)))).dl dal_nil))))))))
      (dss_one (ds_move 4 (ds_ret (de_var 4))))))))
theorem h__law_floor (c : Cl) (X : Xs c) (ds : List D) (Q : D → Prop) (R : EX → Prop) (h : s__law_floor c ds Q R) : ds.length + 1 = 2 ∧ w__law_floor c (fun ex _ => R ex) ⟨fun _ => Q .non, fun _ => Q, fun _ => False, fun _ => False⟩ (slotsS ["_law_state", "_law_most", "_law_many", "_law_way", "_law_found", "_law_room", "_law_goals", "_law_k"] ["_law_state", "_law_most"] ds) := by
  unfold s__law_floor at h
  split at h
  · rename_i most
    refine ⟨rfl, ?_⟩
    obtain ⟨⟨m1, m8⟩, h⟩ := h
    simp [w__law_floor]
    refine ⟨by omega, fun n n0 n1 way w0 w1 => ⟨by omega, ?_⟩⟩
    rw [rngL_enc]
    refine for_done _ (List.range (1 + n).toNat) (fun p ρ => ∃ (ws : List (List Nat)) (s5 s6 : Slot), ρ = [.stt, .val (.int most), .val (.int (1 + n)), .val (.int way), .own none (ws.map encRow), s5, s6, .un] ∧ ws.length = p.length ∧ (∀ r ∈ ws, 1 ≤ r.length ∧ r.length ≤ 4 ∧ ∀ g ∈ r, (g : Int) < 1 + n)) (fun p i r ρ nx he hI ih => ?_) (fun ρ hI => ?_) _ ⟨[], _, _, rfl, rfl, by simp⟩
    · obtain ⟨ws, s5, s6, rfl, hl, hw⟩ := hI
      have hp : p.length < (1 + n).toNat := by
        have := congrArg List.length he
        simp at this; omega
      have hi : i < (1 + n).toNat := by
        have : i ∈ List.range (1 + n).toNat := by rw [he]; simp
        simpa using this
      simp
      intro k k0 k1
      refine ⟨⟨by omega, by omega⟩, by omega, ?_⟩
      refine comp_all (fun y => ∃ x : Nat, y = natD x ∧ (x : Int) < 1 + n) (fun e he' K1 hk => ?_) (fun ys hys hpy => ?_)
      · obtain ⟨j, hj, rfl⟩ := rng_mem he'
        simp
        refine ⟨by omega, fun x x0 x1 => ?_⟩
        obtain ⟨z, rfl⟩ : ∃ z : Nat, x = z := ⟨x.toNat, by omega⟩
        exact hk _ ⟨z, rfl, x1⟩
      · obtain ⟨m, rfl, hm⟩ := map_of hpy
        simp at hys ⊢
        have key : ∀ (gs : List Nat) (s6 : Slot), 1 ≤ gs.length → gs.length ≤ 4 → (∀ g ∈ gs, (g : Int) < 1 + n) → ws.length < 16777216 ∧ nx [.stt, .val (.int most), .val (.int (1 + n)), .val (.int way), .own none (ws.map encRow ++ [.tup (gs.map natD)]), .val (.int i), s6, .un] := fun gs s6 g1 g4 hg => by
          refine ⟨by omega, ih _ ⟨ws ++ [gs], _, _, by simp [encRow]; exact ⟨rfl, rfl⟩, by simp [hl], fun r hr => ?_⟩⟩
          rcases List.mem_append.mp hr with hr | hr
          · exact hw r hr
          · simp at hr; subst hr; exact ⟨g1, g4, hg⟩
        have c4 := fun xs : List D => cut_take (xs := xs) (k := 4) (by omega)
        have c2 := fun xs : List D => cut_take (xs := xs) (k := 2) (by omega)
        have c1 := fun xs : List D => cut_take (xs := xs) (k := 1) (by omega)
        have e1 : ∃ z : Nat, ((i : Int) + 1) % (1 + n) = z ∧ (z : Int) < 1 + n := ⟨(((i : Int) + 1) % (1 + n)).toNat, by have := Int.emod_nonneg ((i : Int) + 1) (by omega : (1 + n) ≠ 0); omega, by
          have := Int.emod_nonneg ((i : Int) + 1) (by omega : (1 + n) ≠ 0)
          have := Int.emod_lt_of_pos ((i : Int) + 1) (by omega : 0 < 1 + n)
          omega⟩
        have e2 : ∃ z : Nat, ((i : Int) + (1 + n) - 1) % (1 + n) = z ∧ (z : Int) < 1 + n := ⟨(((i : Int) + (1 + n) - 1) % (1 + n)).toNat, by have := Int.emod_nonneg ((i : Int) + (1 + n) - 1) (by omega : (1 + n) ≠ 0); omega, by
          have := Int.emod_nonneg ((i : Int) + (1 + n) - 1) (by omega : (1 + n) ≠ 0)
          have := Int.emod_lt_of_pos ((i : Int) + (1 + n) - 1) (by omega : 0 < 1 + n)
          omega⟩
        obtain ⟨z1, q1, r1⟩ := e1
        obtain ⟨z2, q2, r2⟩ := e2
        have hn0 : 0 < 1 + n := by omega
        by_cases cw : way = 0
        · subst cw
          have := key ((z1 :: m.take 2).take 4) (.val (.lst ((z1 :: m.take 2).map natD))) (by simp) (by simp; omega) (fun g hg => by
            have hg := List.mem_of_mem_take hg
            rcases List.mem_cons.mp hg with rfl | hg
            · exact r1
            · exact hm g (List.mem_of_mem_take hg))
          simp [c4, c2, hn0, q1]
          refine ⟨by omega, ?_⟩
          simp only [show D.int (z1 : Int) = natD z1 from rfl]
          simpa using this
        · by_cases cw1 : way = 1
          · subst cw1
            have := key ((z1 :: z2 :: m.take 1).take 4) (.val (.lst ((z1 :: z2 :: m.take 1).map natD))) (by simp) (by simp; omega) (fun g hg => by
              have hg := List.mem_of_mem_take hg
              rcases List.mem_cons.mp hg with rfl | hg
              · exact r1
              · rcases List.mem_cons.mp hg with rfl | hg
                · exact r2
                · exact hm g (List.mem_of_mem_take hg))
            simp [c4, c1, hn0, q1, q2]
            refine ⟨by omega, ?_⟩
            simp only [show D.int (z1 : Int) = natD z1 from rfl, show D.int (z2 : Int) = natD z2 from rfl]
            simpa using this
          · have := key (m.take 4) (.val (.lst (m.map natD))) (by simp; omega) (by simp; omega) (fun g hg => hm g (List.mem_of_mem_take hg))
            simp [cw, cw1, c4]
            simpa using this
    · obtain ⟨ws, s5, s6, rfl, hl, hw⟩ := hI
      simp at hl ⊢
      refine h ws (by omega) (by omega) fun r hr => ?_
      obtain ⟨a, b, cc⟩ := hw r hr
      exact ⟨a, b, fun g hg => by have := cc g hg; omega⟩
  · exact h.elim
theorem ok__law_floor (c : Cl) (T : Txt c mg base) : Good P TabC.w c.K mg base 2 "_law_floor" ["_law_state", "_law_most"] (spS c.K (s__law_floor c)) := goodS' T.f__law_floor sc__law_floor (d__law_floor c T) fun ds Q R h => h__law_floor c T.X ds Q R h
/-! _law_clause -/
def s__law_clause (c : Cl) : AS := fun ds Q R => match ds with
  | [.int most] => (0 ≤ most ∧ most < 2 ^ 62) ∧ ∀ a : Cla, 0 ≤ a.lo → a.lo ≤ a.hi → a.hi ≤ most → Q (encC a)
  | _ => False
@[simp ↓] theorem s__law_clause_ {c : Cl} {most : Int} {Q : D → Prop} {R : EX → Prop} : @caK (s__law_clause c) [.int most] ⟨Q⟩ ⟨R⟩ = ((0 ≤ most ∧ most < 2 ^ 62) ∧ ∀ a : Cla, 0 ≤ a.lo → a.lo ≤ a.hi → a.hi ≤ most → Q (encC a)) := (rfl)
def w__law_clause (c : Cl) : WS :=
    (wsC (wSet 2 (wCallS 0 (s__law_digit c) (wCons (wOp oAdd (wVar 1) (wC (.int 1))) wNil)))
    (wsC (wSet 3 (wOp oIx (wLst (wCons (wVar 2) (wCons (wVar 1) (wCons (wOp oAdd (wVar 2) (wCallS 0 (s__law_digit c) (wCons (wOp oSub (wOp oAdd (wVar 1) (wC (.int 1))) (wVar 2)) wNil))) wNil)))) (wCallS 0 (s__law_digit c) (wCons (wC (.int 3)) wNil))))
    (wRet (wTup (wCons (wOp oIx (wLst (wCons (wC (.str "fresh")) (wCons (wC (.str "stale")) wNil))) (wCallS 0 (s__law_digit c) (wCons (wC (.int 2)) wNil))) (wCons (wVar 2) (wCons (wVar 3) (wCons (wOp oIx (wLst (wCons (wC (.str "first")) (wCons (wC (.str "last")) wNil))) (wCallS 0 (s__law_digit c) (wCons (wC (.int 2)) wNil))) wNil))))))))
theorem sc__law_clause : FnScope ["_law_state", "_law_most", "_law_low", "_law_high"] ["_law_state", "_law_most"] (defScope (topS 46)) := ⟨rfl, rfl, rfl, by decide +kernel, rfl, by decide +kernel, by decide +kernel⟩
theorem d__law_clause (c : Cl) (T : Txt c mg base) : HB P TabC.w c.K mg base 1 "_law_clause" (topS 46) ["_law_state", "_law_most", "_law_low", "_law_high"] (w__law_clause c) := fun f cdv A outer s H E hr tk hp => by
    have S := sc__law_clause
    exact
      (dss_cons (ds_set 2 S.nd (dcS 0 (ok__law_digit c T) hr (by decide) tk (da_cons (de_add ((de_var 1)).dl ((de_int)).dl) da_nil)))
      (dss_cons (ds_set 3 S.nd (de_ix ((dn_lst (da_cons (de_var 2) (da_cons (de_var 1) (da_cons (de_add ((de_var 2)).dl ((dcS 0 (ok__law_digit c T) hr (by decide) tk (da_cons (de_sub ((de_add ((de_var 1)).dl ((de_int)).dl)).dl ((de_var 2)).dl) da_nil))).dl) da_nil))))).de.dl (dcS 0 (ok__law_digit c T) hr (by decide) tk (da_cons (de_int) da_nil))))
      (dss_one (ds_ret (de_tup (da_cons (de_ix ((dn_lst (da_cons (de_str) (da_cons (de_str) da_nil)))).de.dl (dcS 0 (ok__law_digit c T) hr (by decide) tk (da_cons (de_int) da_nil))) (da_cons (de_var 2) (da_cons (de_var 3) (da_cons (de_ix ((dn_lst (da_cons (de_str) (da_cons (de_str) da_nil)))).de.dl (dcS 0 (ok__law_digit c T) hr (by decide) tk (da_cons (de_int) da_nil))) da_nil)))))))))
theorem h__law_clause (c : Cl) (X : Xs c) (ds : List D) (Q : D → Prop) (R : EX → Prop) (h : s__law_clause c ds Q R) : ds.length + 1 = 2 ∧ w__law_clause c (fun ex _ => R ex) ⟨fun _ => Q .non, fun _ => Q, fun _ => False, fun _ => False⟩ (slotsS ["_law_state", "_law_most", "_law_low", "_law_high"] ["_law_state", "_law_most"] ds) := by
  unfold s__law_clause at h
  split at h
  · rename_i most
    refine ⟨rfl, ?_⟩
    obtain ⟨⟨h0, h2⟩, h⟩ := h
    simp [w__law_clause]
    refine ⟨by omega, fun lo l0 l1 => ⟨by omega, fun x x0 x1 y y0 y1 => ?_⟩⟩
    refine at_pick y0 (by simpa using y1) fun d hd => ?_
    simp
    intro z z0 z1
    refine at_pick z0 (by simpa using z1) fun e he => ?_
    simp
    intro u u0 u1
    refine at_pick u0 (by simpa using u1) fun f hf => ?_
    simp
    have hh : ∃ hi, d = .int hi ∧ lo ≤ hi ∧ hi ≤ most := by
      simp at hd
      rcases hd with rfl | rfl | rfl
      · exact ⟨_, rfl, by omega, by omega⟩
      · exact ⟨_, rfl, by omega, by omega⟩
      · exact ⟨_, rfl, by omega, by omega⟩
    obtain ⟨hi, rfl, g1, g2⟩ := hh
    simp at he hf
    rcases he with rfl | rfl <;> rcases hf with rfl | rfl
    · exact h ⟨true, lo, hi, true⟩ l0 g1 g2
    · exact h ⟨true, lo, hi, false⟩ l0 g1 g2
    · exact h ⟨false, lo, hi, true⟩ l0 g1 g2
    · exact h ⟨false, lo, hi, false⟩ l0 g1 g2
  · exact h.elim
theorem ok__law_clause (c : Cl) (T : Txt c mg base) : Good P TabC.w c.K mg base 2 "_law_clause" ["_law_state", "_law_most"] (spS c.K (s__law_clause c)) := goodS' T.f__law_clause sc__law_clause (d__law_clause c T) fun ds Q R h => h__law_clause c T.X ds Q R h
/-! _law_rule -/
def s__law_rule (c : Cl) : AS := fun ds Q R => match ds with
  | [.int most] => (0 ≤ most ∧ most < 2 ^ 62) ∧ ∀ r : List Cla, r.length ≤ 4 → (∀ a ∈ r, 0 ≤ a.lo ∧ a.lo ≤ a.hi ∧ a.hi ≤ most) → Q (.tup (r.map encC))
  | _ => False
@[simp ↓] theorem s__law_rule_ {c : Cl} {most : Int} {Q : D → Prop} {R : EX → Prop} : @caK (s__law_rule c) [.int most] ⟨Q⟩ ⟨R⟩ = ((0 ≤ most ∧ most < 2 ^ 62) ∧ ∀ r : List Cla, r.length ≤ 4 → (∀ a ∈ r, 0 ≤ a.lo ∧ a.lo ≤ a.hi ∧ a.hi ≤ most) → Q (.tup (r.map encC))) := (rfl)
def w__law_rule (c : Cl) : WS :=
    (wRet (wB bTup (wCons (wLc (wRng1 (wCons (wCallS 0 (s__law_digit c) (wCons (wC (.int 5)) wNil)) wNil)) (gN 2) wYes (wCallS 0 (s__law_clause c) (wCons (wVar 1) wNil)) [2]) wNil)))
theorem sc__law_rule : FnScope ["_law_state", "_law_most", "_law_k"] ["_law_state", "_law_most"] (defScope (topS 47)) := ⟨rfl, rfl, rfl, by decide +kernel, rfl, by decide +kernel, by decide +kernel⟩
theorem d__law_rule (c : Cl) (T : Txt c mg base) : HB P TabC.w c.K mg base 2 "_law_rule" (topS 47) ["_law_state", "_law_most", "_law_k"] (w__law_rule c) := fun f cdv A outer s H E hr tk hp => by
    have S := sc__law_rule
    exact
      (dss_one (ds_ret (de_callT ca_tup call_tuple_of (by rfl) T.b_tuple (dal_cons ((dn_lc (own := [("_law_k", 2)]) rfl S.nd (di_range1 (by rfl) T.b_range (da_cons (dcS 0 (ok__law_digit c T) hr (by decide) tk (da_cons (de_int) da_nil)) da_nil)).l (blkOk_by (N := ["_law_state", "_law_most", "_law_k"]) (sc := defScope (topS 47)) (by first | decide +kernel | rfl)) (by decide) (fun _ _ _ _ _ => (dg_name 2 S.nd)) (fun _ _ _ _ _ => dts_nil) (fun _ _ _ _ _ => (dcS 0 (ok__law_clause c T) hr (by decide) takes0 (da_cons (de_var 1) da_nil))))).de.dl dal_nil))))
theorem h__law_rule (c : Cl) (X : Xs c) (ds : List D) (Q : D → Prop) (R : EX → Prop) (h : s__law_rule c ds Q R) : ds.length + 1 = 2 ∧ w__law_rule c (fun ex _ => R ex) ⟨fun _ => Q .non, fun _ => Q, fun _ => False, fun _ => False⟩ (slotsS ["_law_state", "_law_most", "_law_k"] ["_law_state", "_law_most"] ds) := by
  unfold s__law_rule at h
  split at h
  · rename_i most
    refine ⟨rfl, ?_⟩
    obtain ⟨⟨h0, h2⟩, h⟩ := h
    simp [w__law_rule]
    intro n n0 n5
    refine ⟨by omega, by omega, ?_⟩
    refine comp_all (fun y => ∃ a : Cla, y = encC a ∧ 0 ≤ a.lo ∧ a.lo ≤ a.hi ∧ a.hi ≤ most) (fun d hd K1 hk => ?_) (fun ys hl hp => ?_)
    · obtain ⟨i, hi, rfl⟩ := rng_mem hd
      simp
      refine ⟨⟨h0, by omega⟩, fun a a1 a2 a3 => hk _ ⟨a, rfl, a1, a2, a3⟩⟩
    · obtain ⟨r, rfl, hr⟩ := map_of hp
      simp at hl ⊢
      exact h r (by omega) hr
  · exact h.elim
theorem ok__law_rule (c : Cl) (T : Txt c mg base) : Good P TabC.w c.K mg base 3 "_law_rule" ["_law_state", "_law_most"] (spS c.K (s__law_rule c)) := goodS' T.f__law_rule sc__law_rule (d__law_rule c T) fun ds Q R h => h__law_rule c T.X ds Q R h
/-! _law_parts -/
def s__law_parts (c : Cl) : AS := fun ds Q R => match ds with
  | [.int most, .int great, .int walkers] => (1 ≤ most ∧ most ≤ 8 ∧ 1 ≤ great ∧ great ≤ 6 ∧ 1 ≤ walkers ∧ walkers ≤ 3) ∧ ∀ w : Wld, w.ok → w.n ≤ most → w.life ≤ great → w.rules.length ≤ walkers → (∀ r ∈ w.rules, ∀ a ∈ r, a.hi ≤ 6) → Q (.tup [.lst (w.ways.map encRow), .int w.life, .lst (w.rules.map encRule)])
  | _ => False
@[simp ↓] theorem s__law_parts_ {c : Cl} {most great walkers : Int} {Q : D → Prop} {R : EX → Prop} : @caK (s__law_parts c) [.int most, .int great, .int walkers] ⟨Q⟩ ⟨R⟩ = ((1 ≤ most ∧ most ≤ 8 ∧ 1 ≤ great ∧ great ≤ 6 ∧ 1 ≤ walkers ∧ walkers ≤ 3) ∧ ∀ w : Wld, w.ok → w.n ≤ most → w.life ≤ great → w.rules.length ≤ walkers → (∀ r ∈ w.rules, ∀ a ∈ r, a.hi ≤ 6) → Q (.tup [.lst (w.ways.map encRow), .int w.life, .lst (w.rules.map encRule)])) := (rfl)
def w__law_parts (c : Cl) : WS :=
    (wsC (wSet 4 (wCallS 0 (s__law_floor c) (wCons (wVar 1) wNil)))
    (wsC (wSet 5 (wOp oAdd (wC (.int 1)) (wCallS 0 (s__law_digit c) (wCons (wVar 2) wNil))))
    (wRet (wTup (wCons (wVar 4) (wCons (wVar 5) (wCons (wLc (wRng1 (wCons (wOp oAdd (wC (.int 1)) (wCallS 0 (s__law_digit c) (wCons (wVar 3) wNil))) wNil)) (gN 6) wYes (wCallS 0 (s__law_rule c) (wCons (wC (.int 6)) wNil)) [6]) wNil)))))))
theorem sc__law_parts : FnScope ["_law_state", "_law_most", "_law_great", "_law_walkers", "_law_ways", "_law_life", "_law_k"] ["_law_state", "_law_most", "_law_great", "_law_walkers"] (defScope (topS 50)) := ⟨rfl, rfl, rfl, by decide +kernel, rfl, by decide +kernel, by decide +kernel⟩
theorem d__law_parts (c : Cl) (T : Txt c mg base) : HB P TabC.w c.K mg base 3 "_law_parts" (topS 50) ["_law_state", "_law_most", "_law_great", "_law_walkers", "_law_ways", "_law_life", "_law_k"] (w__law_parts c) := fun f cdv A outer s H E hr tk hp => by
    have S := sc__law_parts
    exact
      (dss_cons (ds_set 4 S.nd (dcS 0 (ok__law_floor c T) hr (by decide) tk (da_cons (de_var 1) da_nil)))
      (dss_cons (ds_set 5 S.nd (de_add ((de_int)).dl ((dcS 0 (ok__law_digit c T) hr (by decide) tk (da_cons (de_var 2) da_nil))).dl))
      (dss_one (ds_ret (de_tup (da_cons (de_var 4) (da_cons (de_var 5) (da_cons ((dn_lc (own := [("_law_k", 6)]) rfl S.nd (di_range1 (by rfl) T.b_range (da_cons (de_add ((de_int)).dl ((dcS 0 (ok__law_digit c T) hr (by decide) tk (da_cons (de_var 3) da_nil))).dl) da_nil)).l (blkOk_by (N := ["_law_state", "_law_most", "_law_great", "_law_walkers", "_law_ways", "_law_life", "_law_k"]) (sc := defScope (topS 50)) (by first | decide +kernel | rfl)) (by decide) (fun _ _ _ _ _ => (dg_name 6 S.nd)) (fun _ _ _ _ _ => dts_nil) (fun _ _ _ _ _ => (dcS 0 (ok__law_rule c T) hr (by decide) takes0 (da_cons (de_int) da_nil))))).de da_nil))))))))
theorem h__law_parts (c : Cl) (X : Xs c) (ds : List D) (Q : D → Prop) (R : EX → Prop) (h : s__law_parts c ds Q R) : ds.length + 1 = 4 ∧ w__law_parts c (fun ex _ => R ex) ⟨fun _ => Q .non, fun _ => Q, fun _ => False, fun _ => False⟩ (slotsS ["_law_state", "_law_most", "_law_great", "_law_walkers", "_law_ways", "_law_life", "_law_k"] ["_law_state", "_law_most", "_law_great", "_law_walkers"] ds) := by
  unfold s__law_parts at h
  split at h
  · rename_i most great walkers
    refine ⟨rfl, ?_⟩
    obtain ⟨⟨m1, m8, g1, g6, k1, k3⟩, h⟩ := h
    simp [w__law_parts]
    refine ⟨⟨m1, m8⟩, fun ws w1 w2 hw => ?_⟩
    refine ⟨by omega, fun l l0 l1 => ⟨by omega, fun n n0 n1 => ?_⟩⟩
    refine ⟨⟨by omega, by omega⟩, by omega, ?_⟩
    refine comp_all (fun y => ∃ r : List Cla, y = encRule r ∧ r.length ≤ 4 ∧ ∀ a ∈ r, 0 ≤ a.lo ∧ a.lo ≤ a.hi ∧ a.hi ≤ 6) (fun e he K1 hk => ?_) (fun ys hys hp => ?_)
    · obtain ⟨j, hj, rfl⟩ := rng_mem he
      simp
      exact fun r r1 r2 => hk _ ⟨r, rfl, r1, r2⟩
    · obtain ⟨rs, rfl, hr⟩ := map_of hp
      simp at hys ⊢
      have hl : rs.length = (1 + n).toNat := hys
      refine h ⟨ws, 1 + l, rs⟩ ⟨w1, by unfold Wld.n; simp; omega, hw, by simp; omega, by simp; omega, by simp; omega, by simp; omega, fun r hr' => ⟨(hr r hr').1, fun a ha => ?_⟩⟩ w2 (by simp; omega) (by simp; omega) fun r hr' a ha => ((hr r hr').2 a ha).2.2
      have := (hr r hr').2 a ha
      omega
  · exact h.elim
theorem ok__law_parts (c : Cl) (T : Txt c mg base) : Good P TabC.w c.K mg base 4 "_law_parts" ["_law_state", "_law_most", "_law_great", "_law_walkers"] (spS c.K (s__law_parts c)) := goodS' T.f__law_parts sc__law_parts (d__law_parts c T) fun ds Q R h => h__law_parts c T.X ds Q R h
/-! _law_said -/
def s__law_said (c : Cl) : AskT → (D → Prop) → Prop := fun A Q => A (fun _ => Q (.str "told")) (fun ex => (ex = ⟨c.NoStand, [], []⟩ ∧ Q (.str "stand")) ∨ (ex = ⟨c.NoRoom, [], []⟩ ∧ Q (.str "room")))
@[simp ↓] theorem s__law_said_ {c : Cl} {A : AskT} {Q : D → Prop} : @laK (s__law_said c) ⟨A⟩ ⟨Q⟩ = (A (fun _ => Q (.str "told")) (fun ex => (ex = ⟨c.NoStand, [], []⟩ ∧ Q (.str "stand")) ∨ (ex = ⟨c.NoRoom, [], []⟩ ∧ Q (.str "room")))) := (rfl)
def w__law_said (f c' : Addr) (q : Str) (Gl : GS) (Hl : Hp) (AA : AskT) (c : Cl) : WS :=
    (wsC (wTry c.K [(c.NoStand, some 1, fun a cls d => (wRet (wOp oIx (wLst (wCons (wC (.str "stand")) (wCons (wC (.str "both")) wNil))) (wB bInt (wCons (wIsE c.K 1 a cls d c.NoStand c.NoRoom) wNil))))), (c.NoRoom, none, fun a cls d => (wRet (wC (.str "room")))), (c.FadeError, none, fun a cls d => (wRet (wC (.str "other"))))]
    (wDrop (wAsk 0 f c' q Gl Hl AA)))
    (wRet (wC (.str "told"))))
theorem sc__law_said : FnScope ["_law_ask", "e"] ["_law_ask"] (defScope (topS 53)) := ⟨rfl, rfl, rfl, by decide +kernel, rfl, by decide +kernel, by decide +kernel⟩
theorem d__law_said (c : Cl) (T : Txt c mg base) : HBL P TabC.w c.K mg base 0 "_law_said" "_law_ask" (topS 53) ["_law_ask", "e"] (fun f c' q Gl Hl AA => w__law_said f c' q Gl Hl AA c) := fun g cdv A outer s H f c' q Gl Hl AA hr hA => by
    have S := sc__law_said
    exact
      (dss_cons (ds_try rfl rfl S.nd takes0 (fun W pn xe tk hp => (dss_one (ds_expr (hA _ _ _ _ _ tk))))
      (dh_named 1 (by rfl) T.x_NoStand.g (fun a oe cls d pn hz hf => (dss_one (ds_ret (de_ix ((dn_lst (da_cons (de_str) (da_cons (de_str) da_nil)))).de.dl (de_callT ca_int call_int1 (by rfl) T.b_int (dal_cons ((de_isE 1 T.ec_NoStand hz hf (by rfl) T.b_isinstance (by rfl) T.x_NoRoom.g)).dl dal_nil)))))) (dh_cons (by rfl) T.x_NoRoom.g (fun a oe cls d pn hz hf => (dss_one (ds_ret (de_str)))) (dh_cons (by rfl) T.x_FadeError.g (fun a oe cls d pn hz hf => (dss_one (ds_ret (de_str)))) dh_nil))))
      (dss_one (ds_ret (de_str))))
theorem h__law_said (c : Cl) (X : Xs c) (f c' : Addr) (q : Str) (Gl : GS) (Hl : Hp) (AA : AskT) (Q : D → Prop) (h : s__law_said c AA Q) : w__law_said f c' q Gl Hl AA c (fun _ _ => False) ⟨fun _ => Q .non, fun _ => Q, fun _ => False, fun _ => False⟩ (.clo f c' q Gl Hl :: List.replicate 1 .un) := by
  unfold s__law_said at h
  simp [w__law_said]
  refine ⟨_, _, h, fun d hd => ?_, fun ex hex => ?_⟩
  · exact hd
  · rcases hex with ⟨rfl, hq⟩ | ⟨rfl, hq⟩
    · simp [X.ex_NoStand_NoStand, X.ki_NoStand_NoRoom]
      exact hq
    · simp [X.ex_NoRoom_NoStand, X.ex_NoRoom_NoRoom]
      exact hq
theorem ok__law_said (c : Cl) (T : Txt c mg base) : GoodL P TabC.w c.K mg base 0 "_law_said" "_law_ask" (s__law_said c) := goodL T.f__law_said sc__law_said (d__law_said c T) rfl (by exact Or.inl rfl) fun f c' q Gl Hl AA Q h => h__law_said c T.X f c' q Gl Hl AA Q h
/-! _law_stand -/
def s__law_stand (c : Cl) : AS := fun ds Q R => match ds with
  | [.int many, .int life, .int walkers] => (1 ≤ many ∧ many ≤ 8 ∧ 1 ≤ life ∧ life ≤ 6 ∧ 0 ≤ walkers ∧ walkers ≤ 3) ∧ ∀ s : Std, (s.rooms.length : Int) = walkers → (∀ x ∈ s.rooms, (x : Int) < many) → (s.marks.length : Int) = many → (∀ x ∈ s.marks, 0 ≤ x ∧ x ≤ life) → Q (encS s)
  | _ => False
@[simp ↓] theorem s__law_stand_ {c : Cl} {many life walkers : Int} {Q : D → Prop} {R : EX → Prop} : @caK (s__law_stand c) [.int many, .int life, .int walkers] ⟨Q⟩ ⟨R⟩ = ((1 ≤ many ∧ many ≤ 8 ∧ 1 ≤ life ∧ life ≤ 6 ∧ 0 ≤ walkers ∧ walkers ≤ 3) ∧ ∀ s : Std, (s.rooms.length : Int) = walkers → (∀ x ∈ s.rooms, (x : Int) < many) → (s.marks.length : Int) = many → (∀ x ∈ s.marks, 0 ≤ x ∧ x ≤ life) → Q (encS s)) := (rfl)
def w__law_stand (c : Cl) : WS :=
    (wsC (wSet 4 (wB bTup (wCons (wLc (wRng1 (wCons (wVar 3) wNil)) (gN 6) wYes (wCallS 0 (s__law_digit c) (wCons (wVar 1) wNil)) [6]) wNil)))
    (wsC (wSet 5 (wCallS 0 (s__law_digit c) (wCons (wC (.int 3)) wNil)))
    (wRet (wTup (wCons (wVar 4) (wCons (wB bTup (wCons (wLc (wRng1 (wCons (wVar 1) wNil)) (gN 7) wYes (wOp oMul (wCallS 0 (s__law_digit c) (wCons (wOp oAdd (wVar 2) (wC (.int 1))) wNil)) (wB bInt (wCons (wOp (oCmp fun i j => decide (j < i)) (wVar 5) (wC (.int 0))) wNil))) [7]) wNil)) wNil))))))
theorem sc__law_stand : FnScope ["_law_state", "_law_many", "_law_life", "_law_walkers", "_law_rooms", "_law_some", "_law_k", "_law_room"] ["_law_state", "_law_many", "_law_life", "_law_walkers"] (defScope (topS 49)) := ⟨rfl, rfl, rfl, by decide +kernel, rfl, by decide +kernel, by decide +kernel⟩
theorem d__law_stand (c : Cl) (T : Txt c mg base) : HB P TabC.w c.K mg base 1 "_law_stand" (topS 49) ["_law_state", "_law_many", "_law_life", "_law_walkers", "_law_rooms", "_law_some", "_law_k", "_law_room"] (w__law_stand c) := fun f cdv A outer s H E hr tk hp => by
    have S := sc__law_stand
    exact
      (dss_cons (ds_set 4 S.nd (de_callT ca_tup call_tuple_of (by rfl) T.b_tuple (dal_cons ((dn_lc (own := [("_law_k", 6)]) rfl S.nd (di_range1 (by rfl) T.b_range (da_cons (de_var 3) da_nil)).l (blkOk_by (N := ["_law_state", "_law_many", "_law_life", "_law_walkers", "_law_rooms", "_law_some", "_law_k", "_law_room"]) (sc := defScope (topS 49)) (by first | decide +kernel | rfl)) (by decide) (fun _ _ _ _ _ => (dg_name 6 S.nd)) (fun _ _ _ _ _ => dts_nil) (fun _ _ _ _ _ => (dcS 0 (ok__law_digit c T) hr (by decide) takes0 (da_cons (de_var 1) da_nil))))).de.dl dal_nil)))
      (dss_cons (ds_set 5 S.nd (dcS 0 (ok__law_digit c T) hr (by decide) tk (da_cons (de_int) da_nil)))
      (dss_one (ds_ret (de_tup (da_cons (de_var 4) (da_cons (de_callT ca_tup call_tuple_of (by rfl) T.b_tuple (dal_cons ((dn_lc (own := [("_law_room", 7)]) rfl S.nd (di_range1 (by rfl) T.b_range (da_cons (de_var 1) da_nil)).l (blkOk_by (N := ["_law_state", "_law_many", "_law_life", "_law_walkers", "_law_rooms", "_law_some", "_law_k", "_law_room"]) (sc := defScope (topS 49)) (by first | decide +kernel | rfl)) (by decide) (fun _ _ _ _ _ => (dg_name 7 S.nd)) (fun _ _ _ _ _ => dts_nil) (fun _ _ _ _ _ => (de_mul ((dcS 0 (ok__law_digit c T) hr (by decide) takes0 (da_cons (de_add ((de_var 2)).dl ((de_int)).dl) da_nil))).dl ((de_callT ca_int call_int1 (by rfl) T.b_int (dal_cons ((de_cmp cmp_gt ((de_var 5)).dl ((de_int)).dl)).dl dal_nil))).dl)))).de.dl dal_nil)) da_nil)))))))
theorem h__law_stand (c : Cl) (X : Xs c) (ds : List D) (Q : D → Prop) (R : EX → Prop) (h : s__law_stand c ds Q R) : ds.length + 1 = 4 ∧ w__law_stand c (fun ex _ => R ex) ⟨fun _ => Q .non, fun _ => Q, fun _ => False, fun _ => False⟩ (slotsS ["_law_state", "_law_many", "_law_life", "_law_walkers", "_law_rooms", "_law_some", "_law_k", "_law_room"] ["_law_state", "_law_many", "_law_life", "_law_walkers"] ds) := by
  unfold s__law_stand at h
  split at h
  · rename_i many life walkers
    refine ⟨rfl, ?_⟩
    obtain ⟨⟨m1, m8, g1, g6, k1, k3⟩, h⟩ := h
    simp [w__law_stand]
    refine ⟨⟨by omega, by omega⟩, by omega, ?_⟩
    refine comp_all (fun y => ∃ x : Nat, y = natD x ∧ (x : Int) < many) (fun e he K1 hk => ?_) (fun ys hys hp => ?_)
    · obtain ⟨j, hj, rfl⟩ := rng_mem he
      simp
      refine ⟨by omega, fun x x0 x1 => ?_⟩
      obtain ⟨z, rfl⟩ : ∃ z : Nat, x = z := ⟨x.toNat, by omega⟩
      exact hk _ ⟨z, rfl, x1⟩
    · obtain ⟨rs, rfl, hr⟩ := map_of hp
      simp at hys ⊢
      intro so s0 s1
      refine ⟨⟨by omega, by omega⟩, by omega, ?_⟩
      refine comp_all (fun y => ∃ x : Int, y = .int x ∧ 0 ≤ x ∧ x ≤ life) (fun e he K1 hk => ?_) (fun ys hys2 hp2 => ?_)
      · obtain ⟨j, hj, rfl⟩ := rng_mem he
        simp
        refine ⟨by omega, fun x x0 x1 => ?_⟩
        by_cases c0 : 0 < so
        · simp [c0]
          exact hk _ ⟨x, rfl, x0, by omega⟩
        · simp [c0]
          exact hk _ ⟨0, rfl, by omega, by omega⟩
      · obtain ⟨ms, rfl, hm⟩ := map_of hp2
        simp at hys2 ⊢
        exact h ⟨rs, ms⟩ (by simp; omega) hr (by simp; omega) hm
  · exact h.elim
theorem ok__law_stand (c : Cl) (T : Txt c mg base) : Good P TabC.w c.K mg base 2 "_law_stand" ["_law_state", "_law_many", "_law_life", "_law_walkers"] (spS c.K (s__law_stand c)) := goodS' T.f__law_stand sc__law_stand (d__law_stand c T) fun ds Q R h => h__law_stand c T.X ds Q R h
/-! faded -/
def s_faded (c : Cl) : AS := fun ds Q R => match ds with
  | [.int m] => Q (.int (fade m))
  | _ => False
@[simp ↓] theorem s_faded_ {c : Cl} {m : Int} {Q : D → Prop} {R : EX → Prop} : @caK (s_faded c) [.int m] ⟨Q⟩ ⟨R⟩ = (Q (.int (fade m))) := (rfl)
def w_faded (c : Cl) : WS :=
    (wRet (wB bMax (wCons (wOp oSub (wVar 0) (wC (.int 1))) (wCons (wC (.int 0)) wNil))))
theorem sc_faded : FnScope ["mark"] ["mark"] (defScope (topS 32)) := ⟨rfl, rfl, rfl, by decide +kernel, rfl, by decide +kernel, by decide +kernel⟩
theorem d_faded (c : Cl) (T : Txt c mg base) : HB P TabC.w c.K mg base 0 "faded" (topS 32) ["mark"] (w_faded c) := fun f cdv A outer s H E hr tk hp => by
    have S := sc_faded
    exact
      (dss_one (ds_ret (de_callB ca_max2 (call_max2 rfl) (by rfl) T.b_max (dal_cons ((de_sub ((de_var 0)).dl ((de_int)).dl)).dl (dal_cons ((de_int)).dl dal_nil)))))
theorem h_faded (c : Cl) (X : Xs c) (ds : List D) (Q : D → Prop) (R : EX → Prop) (h : s_faded c ds Q R) : ds.length = 1 ∧ w_faded c (fun ex _ => R ex) ⟨fun _ => Q .non, fun _ => Q, fun _ => False, fun _ => False⟩ (slots0 ["mark"] ["mark"] ds) := by
  unfold s_faded at h
  split at h
  · rename_i m
    refine ⟨rfl, ?_⟩
    simp [w_faded]
    exact h
  · exact h.elim
theorem ok_faded (c : Cl) (T : Txt c mg base) : Good P TabC.w c.K mg base 1 "faded" ["mark"] (spV c.K (s_faded c)) := goodV T.f_faded sc_faded (d_faded c T) fun ds Q R h => h_faded c T.X ds Q R h
/-! behind -/
theorem mem_any {r : Nat} {xs : List Nat} : ((xs.map natD).any fun z => deq z (natD r)) = decide (r ∈ xs) := by
  rw [List.any_map, Bool.eq_iff_iff]
  simp only [List.any_eq_true, Function.comp_def, deq_natD, beq_iff_eq, decide_eq_true_eq]
  exact ⟨fun ⟨x, hx, e⟩ => e ▸ hx, fun h => ⟨r, h, rfl⟩⟩
theorem all_flat_nat {xs : List Nat} : (xs.map natD).all flatD = true := by simp
theorem zip_zip {α β γ : Type} {f : α × β → γ} : ∀ {xs : List α} {ys : List β}, ys.zip ((xs.zip ys).map f) = (xs.zip ys).map fun z => (z.2, f z)
  | [], ys => by simp
  | x :: xs, [] => by simp
  | x :: xs, y :: ys => by simp [zip_zip (f := f) (xs := xs) (ys := ys)]
def s_behind (c : Cl) : AS := fun ds Q R => match ds with
  | [d, t] => ∃ w : Wld, d = encW c.World w ∧ ∃ s : Std, t = encS s ∧ w.ok ∧ s.ok w ∧ Q (encS (nxt w s))
  | _ => False
@[simp ↓] theorem s_behind_ {c : Cl} {d t : D} {Q : D → Prop} {R : EX → Prop} : @caK (s_behind c) [d, t] ⟨Q⟩ ⟨R⟩ = (∃ w : Wld, d = encW c.World w ∧ ∃ s : Std, t = encS s ∧ w.ok ∧ s.ok w ∧ Q (encS (nxt w s))) := (rfl)
def w_behind (c : Cl) : WS :=
    (wsC (wAsg (wVar 1) (gT (gs1 (gN 2) (gs1 (gN 3) gs0))))
    (wsC (wSet 4 (wCall (s_ways_picked c) (wCons (wVar 0) (wCons (wVar 1) wNil))))
    (wsC (wSet 5 (wB bTup (wCons (wLc (wZip (wCons (wVar 2) (wCons (wVar 4) wNil))) (gT (gs1 (gN 7) (gs1 (gN 8) gs0))) wYes (wOp oIx (wOp oIx (wFld c.World "floor" (wVar 0)) (wVar 7)) (wVar 8)) [7, 8]) wNil)))
    (wsC (wSet 6 (wLc (wEnum (wCons (wVar 3) wNil)) (gT (gs1 (gN 7) (gs1 (gN 9) gs0))) wYes (wIf (wTest (wOp (oIn false) (wVar 7) (wVar 2))) (wFld c.World "lasting" (wVar 0)) (wCall (s_faded c) (wCons (wVar 9) wNil))) [7, 9]))
    (wRet (wTup (wCons (wVar 5) (wCons (wB bTup (wCons (wVar 6) wNil)) wNil))))))))
theorem sc_behind : FnScope ["world", "stand", "rooms", "marks", "places", "goals", "later", "room", "place", "mark"] ["world", "stand"] (defScope (topS 33)) := ⟨rfl, rfl, rfl, by decide +kernel, rfl, by decide +kernel, by decide +kernel⟩
theorem d_behind (c : Cl) (T : Txt c mg base) : HB P TabC.w c.K mg base 2 "behind" (topS 33) ["world", "stand", "rooms", "marks", "places", "goals", "later", "room", "place", "mark"] (w_behind c) := fun f cdv A outer s H E hr tk hp => by
    have S := sc_behind
    exact
      (dss_cons (ds_asg (de_var 1) (dg_tup rfl (dgs_cons (dg_name 2 S.nd) (dgs_cons (dg_name 3 S.nd) dgs_nil)) (n := 2) rfl (gs_len1 (gs_len1 gs_len0))))
      (dss_cons (ds_set 4 S.nd (dc (ok_ways_picked c T) hr (by decide) tk (da_cons (de_var 0) (da_cons (de_var 1) da_nil))))
      (dss_cons (ds_set 5 S.nd (de_callT ca_tup call_tuple_of (by rfl) T.b_tuple (dal_cons ((dn_lc (own := [("room", 7), ("place", 8)]) rfl S.nd (dil_zip (by rfl) T.b_zip (dal_cons ((de_var 2)).dl (dal_cons ((de_var 4)).dl dal_nil))) (blkOk_by (N := ["world", "stand", "rooms", "marks", "places", "goals", "later", "room", "place", "mark"]) (sc := defScope (topS 33)) (by first | decide +kernel | rfl)) (by decide) (fun _ _ _ _ _ => (dg_tup rfl (dgs_cons (dg_name 7 S.nd) (dgs_cons (dg_name 8 S.nd) dgs_nil)) (n := 2) rfl (gs_len1 (gs_len1 gs_len0)))) (fun _ _ _ _ _ => dts_nil) (fun _ _ _ _ _ => (de_ix ((de_ix ((de_fld T.cls_World T.nf_World_floor (de_var 0))).dl (de_var 7))).dl (de_var 8))))).de.dl dal_nil)))
      (dss_cons (ds_setLc 6 (own := [("room", 7), ("mark", 9)]) rfl S.nd (dil_enum (by rfl) T.b_enumerate (dal_cons ((de_var 3)).dl dal_nil)) (blkOk_by (N := ["world", "stand", "rooms", "marks", "places", "goals", "later", "room", "place", "mark"]) (sc := defScope (topS 33)) (by first | decide +kernel | rfl)) (by decide) (fun _ _ _ _ _ => (dg_tup rfl (dgs_cons (dg_name 7 S.nd) (dgs_cons (dg_name 9 S.nd) dgs_nil)) (n := 2) rfl (gs_len1 (gs_len1 gs_len0)))) (fun _ _ _ _ _ => dts_nil) (fun _ _ _ _ _ => (de_if (dt_cmp (opa_in (hu65 hr)) ((de_var 7)).dl ((de_var 2)).dl) (de_fld T.cls_World T.nf_World_lasting (de_var 0)) (dc (ok_faded c T) hr (by decide) takes0 (da_cons (de_var 9) da_nil)))))
      (dss_one (ds_ret (de_tup (da_cons (de_var 5) (da_cons (de_callT ca_tup call_tuple_of (by rfl) T.b_tuple (dal_cons ((de_var 6)).dl dal_nil)) da_nil)))))))))
theorem h_behind (c : Cl) (X : Xs c) (ds : List D) (Q : D → Prop) (R : EX → Prop) (h : s_behind c ds Q R) : ds.length = 2 ∧ w_behind c (fun ex _ => R ex) ⟨fun _ => Q .non, fun _ => Q, fun _ => False, fun _ => False⟩ (slots0 ["world", "stand", "rooms", "marks", "places", "goals", "later", "room", "place", "mark"] ["world", "stand"] ds) := by
  unfold s_behind at h
  split at h
  · rename_i d t
    refine ⟨rfl, ?_⟩
    obtain ⟨w, rfl, s, rfl, ok, os, h⟩ := h
    have hz : s.rooms.length ≤ 16777216 := by rw [os.rl]; have := ok.k3; omega
    have hz2 : w.rules.length ≤ 16777216 := by have := ok.k3; omega
    have hm : s.marks.length ≤ 16777216 := by rw [os.ml]; have := ok.n8; omega
    simp [w_behind, ok, os]
    have ez : zipD (s.rooms.map natD) ((placesL w s).map D.int) = (w.rules.zip s.rooms).map fun z => .tup [natD z.2, .int (place w s z.1 z.2)] := by
      rw [zipD_enc]
      unfold placesL
      rw [zip_zip, List.map_map]; rfl
    have hlz : (w.rules.zip s.rooms).length ≤ 16777216 := by rw [List.length_zip]; omega
    simp [ez]
    refine ⟨by omega, ?_⟩
    refine comp_enc _ (fun z => natD (goal w s z.1 z.2)) (fun z hz' K1 hk => ?_) ?_
    · have hn := os.rm _ (List.of_mem_zip (a := z.1) (b := z.2) hz').2
      have hrow : w.ways[z.2]? = some w.ways[z.2] := List.getElem?_eq_getElem hn
      have pl := place_lt (r := z.1) (s := s) ok hn
      rw [getD_of hn] at pl
      have hg : atI (w.ways[z.2].map natD) (place w s z.1 z.2) = some (natD (goal w s z.1 z.2)) := by
        refine at_nat pl.1 ?_
        rw [List.getElem?_map]
        unfold goal
        rw [getD_of hn, getD_of (by omega), List.getElem?_eq_getElem (by omega)]; rfl
      simp [hrow, encRow, hg]
      exact hk
    · simp [hm]
      refine comp_enumM D.int (fun i m => .int (if i ∈ s.rooms then w.life else fade m)) (fun i m him K1 hk => ?_) ?_
      · simp at hk ⊢
        by_cases hi : i ∈ s.rooms <;> simp [hi] at hk ⊢ <;> exact hk
      · simp
        have e : encS (nxt w s) = .tup [.tup ((w.rules.zip s.rooms).map fun z => natD (goal w s z.1 z.2)), .tup (s.marks.zipIdx.map fun z => .int (if z.2 ∈ s.rooms then w.life else fade z.1))] := by
          simp [encS, nxt, Function.comp_def]
        rw [e] at h
        exact h
  · exact h.elim
theorem ok_behind (c : Cl) (T : Txt c mg base) : Good P TabC.w c.K mg base 3 "behind" ["world", "stand"] (spV c.K (s_behind c)) := goodV T.f_behind sc_behind (d_behind c T) fun ds Q R h => h_behind c T.X ds Q R h
/-! looked_at -/
theorem innS_go {K : List Int → Prop} {a b e : Slot} : ∀ {gs : List Nat} {acc : List Int}, acc.length + gs.length ≤ 64 → K (acc ++ gs.map fun (g : Nat) => (g : Int)) → innS (gN 3) (wVar 3) [a, b, e, .un] (gs.map natD) acc K
  | [], acc, _, k => by simpa [innS] using k
  | g :: gs, acc, hl, k => by
    simp at hl
    show acc.length < 64 ∧ innS (gN 3) (wVar 3) [a, b, e, .un] (gs.map natD) (acc ++ [(g : Int)]) K
    exact ⟨by omega, innS_go (by simp; omega) (by simpa using k)⟩
theorem cmpS_go {C : Addr} {w : Wld} {K : List Int → Prop} {b : Slot} (hb : ¬ isMut b) : ∀ {rs : List Nat} {acc : List Int}, (∀ r ∈ rs, r < w.ways.length ∧ (w.ways.getD r []).length ≤ 4) → acc.length + 4 * rs.length ≤ 64 → K (acc ++ lookL w rs) →
    cmpS (gN 2) (wSeq (wOp oIx (wFld C "floor" (wVar 0)) (wVar 2))) [3] (gN 3) (wVar 3) [.val (encW C w), b, .un, .un] (rs.map natD) acc K
  | [], acc, _, _, k => by simpa [cmpS, lookL] using k
  | r :: rs, acc, h4, hl, k => by
    simp at hl
    obtain ⟨hr, hr4⟩ := h4 r (List.mem_cons_self ..)
    show gN 2 (natD r) _ _
    obtain ⟨row, e, e2⟩ : ∃ row, w.ways[r]? = some row ∧ w.ways.getD r [] = row := ⟨w.ways[r], List.getElem?_eq_getElem hr, by rw [List.getD_eq_getElem?_getD, List.getElem?_eq_getElem hr]; rfl⟩
    have k2 : K ((acc ++ row.map fun (g : Nat) => (g : Int)) ++ lookL w rs) := by
      have : lookL w (r :: rs) = row.map (fun (g : Nat) => (g : Int)) ++ lookL w rs := by unfold lookL; rw [List.flatMap_cons, e2]
      rw [this] at k
      rw [List.append_assoc]; exact k
    rw [e2] at hr4
    have next : innS (gN 3) (wVar 3) [.val (encW C w), b, .val (natD r), .un] (row.map natD) acc fun acc' => cmpS (gN 2) (wSeq (wOp oIx (wFld C "floor" (wVar 0)) (wVar 2))) [3] (gN 3) (wVar 3) [.val (encW C w), b, .un, .un] (rs.map natD) acc' K :=
      innS_go (by omega) (cmpS_go hb (fun r' h' => h4 r' (List.mem_cons_of_mem _ h')) (by simp; omega) k2)
    simp [natD, noMut, e]
    exact next
def s_looked_at (c : Cl) : AS := fun ds Q R => match ds with
  | [d, t] => ∃ (w : Wld) (rs : List Nat), d = encW c.World w ∧ t = .tup (rs.map natD) ∧ w.ok ∧ rs.length ≤ 3 ∧ (∀ r ∈ rs, r < w.n) ∧ Q (.lst ((sset (lookL w rs)).map .int))
  | _ => False
@[simp ↓] theorem s_looked_at_ {c : Cl} {d t : D} {Q : D → Prop} {R : EX → Prop} : @caK (s_looked_at c) [d, t] ⟨Q⟩ ⟨R⟩ = (∃ (w : Wld) (rs : List Nat), d = encW c.World w ∧ t = .tup (rs.map natD) ∧ w.ok ∧ rs.length ≤ 3 ∧ (∀ r ∈ rs, r < w.n) ∧ Q (.lst ((sset (lookL w rs)).map .int))) := (rfl)
def w_looked_at (c : Cl) : WS :=
    (wRet (wSS2 (wSeq (wVar 1)) (gN 2) (wSeq (wOp oIx (wFld c.World "floor" (wVar 0)) (wVar 2))) (gN 3) (wVar 3) [2, 3] [3]))
theorem sc_looked_at : FnScope ["world", "rooms", "room", "goal"] ["world", "rooms"] (defScope (topS 37)) := ⟨rfl, rfl, rfl, by decide +kernel, rfl, by decide +kernel, by decide +kernel⟩
theorem d_looked_at (c : Cl) (T : Txt c mg base) : HB P TabC.w c.K mg base 0 "looked_at" (topS 37) ["world", "rooms", "room", "goal"] (w_looked_at c) := fun f cdv A outer s H E hr tk hp => by
    have S := sc_looked_at
    exact
      (dss_one (ds_ret ((dn_sset2 (own := [("room", 2), ("goal", 3)]) rfl S.nd (by rfl) T.b_sorted (dil_seq ((de_var 1)).dl) (blkOk_by (N := ["world", "rooms", "room", "goal"]) (sc := defScope (topS 37)) (by first | decide +kernel | rfl)) (by decide) (by decide) (fun _ _ _ _ _ => (dg_name 2 S.nd)) (fun _ _ _ _ _ => (di_seq (de_ix ((de_fld T.cls_World T.nf_World_floor (de_var 0))).dl (de_var 2)))) (fun _ _ _ _ _ => (dg_name 3 S.nd)) (fun _ _ _ _ _ => (de_var 3)))).de))
theorem h_looked_at (c : Cl) (X : Xs c) (ds : List D) (Q : D → Prop) (R : EX → Prop) (h : s_looked_at c ds Q R) : ds.length = 2 ∧ w_looked_at c (fun ex _ => R ex) ⟨fun _ => Q .non, fun _ => Q, fun _ => False, fun _ => False⟩ (slots0 ["world", "rooms", "room", "goal"] ["world", "rooms"] ds) := by
  unfold s_looked_at at h
  split at h
  · rename_i d t
    refine ⟨rfl, ?_⟩
    obtain ⟨w, rs, rfl, rfl, ok, hl, hr, h⟩ := h
    have hb : ¬ isMut (.val (encRow rs)) := fun z => z
    show noMut _ [2, 3] ∧ _
    refine ⟨by simp [noMut], ?_⟩
    have n8 := ok.n8
    show ∃ ds, seqOf (encRow rs) = some ds ∧ _
    refine ⟨rs.map natD, rfl, ?_⟩
    have h4 : ∀ r ∈ rs, r < w.ways.length ∧ (w.ways.getD r []).length ≤ 4 := fun r hr' => by
      have hr2 : r < w.ways.length := hr r hr'
      refine ⟨hr2, ?_⟩
      rw [List.getD_eq_getElem?_getD, List.getElem?_eq_getElem hr2]
      exact (ok.row _ (List.getElem_mem hr2)).2.1
    refine cmpS_go hb h4 (by simp; omega) ?_
    have := look_len fun r hr' => (h4 r hr').2
    exact ⟨by simp; omega, h⟩
  · exact h.elim
theorem ok_looked_at (c : Cl) (T : Txt c mg base) : Good P TabC.w c.K mg base 1 "looked_at" ["world", "rooms"] (spV c.K (s_looked_at c)) := goodV T.f_looked_at sc_looked_at (d_looked_at c T) fun ds Q R h => h_looked_at c T.X ds Q R h
/-! sure_room -/
def s_sure_room (c : Cl) : AS := fun ds Q R => match ds with
  | [d, r] => ∃ w : Wld, d = encW c.World w ∧ noIns r = true ∧ if whD 0 ((w.n : Int) - 1) r = true then Q .non else R ⟨c.NoRoom, [], []⟩
  | _ => False
@[simp ↓] theorem s_sure_room_ {c : Cl} {d r : D} {Q : D → Prop} {R : EX → Prop} : @caK (s_sure_room c) [d, r] ⟨Q⟩ ⟨R⟩ = (∃ w : Wld, d = encW c.World w ∧ noIns r = true ∧ if whD 0 ((w.n : Int) - 1) r = true then Q .non else R ⟨c.NoRoom, [], []⟩) := (rfl)
def w_sure_room (c : Cl) : WS :=
    (wIfS (wNotT (wTru (wCall (s_is_room c) (wCons (wVar 0) (wCons (wVar 1) wNil)))))
    (wRai c.NoRoom)
    ws0)
theorem sc_sure_room : FnScope ["world", "thing"] ["world", "thing"] (defScope (topS 40)) := ⟨rfl, rfl, rfl, by decide +kernel, rfl, by decide +kernel, by decide +kernel⟩
theorem d_sure_room (c : Cl) (T : Txt c mg base) : HB P TabC.w c.K mg base 2 "sure_room" (topS 40) ["world", "thing"] (w_sure_room c) := fun f cdv A outer s H E hr tk hp => by
    have S := sc_sure_room
    exact
      (dss_one (ds_if (dt_not (dt_truth ((dc (ok_is_room c T) hr (by decide) tk (da_cons (de_var 0) (da_cons (de_var 1) da_nil)))).dl))
      (dss_one (ds_raise rfl tk T.x_NoRoom T.xi_NoRoom (by rfl)))
      dss_nil))
theorem h_sure_room (c : Cl) (X : Xs c) (ds : List D) (Q : D → Prop) (R : EX → Prop) (h : s_sure_room c ds Q R) : ds.length = 2 ∧ w_sure_room c (fun ex _ => R ex) ⟨fun _ => Q .non, fun _ => Q, fun _ => False, fun _ => False⟩ (slots0 ["world", "thing"] ["world", "thing"] ds) := by
  unfold s_sure_room at h
  split at h
  · rename_i d r
    refine ⟨rfl, ?_⟩
    obtain ⟨w, rfl, h0, h⟩ := h
    simp [w_sure_room, h0]
    by_cases e : whD 0 ((w.n : Int) - 1) r = true <;> simp [e] at h ⊢ <;> exact h
  · exact h.elim
theorem ok_sure_room (c : Cl) (T : Txt c mg base) : Good P TabC.w c.K mg base 3 "sure_room" ["world", "thing"] (spV c.K (s_sure_room c)) := goodV T.f_sure_room sc_sure_room (d_sure_room c T) fun ds Q R h => h_sure_room c T.X ds Q R h
/-! looked -/
def s_looked (c : Cl) : AS := fun ds Q R => match ds with
  | [d, t, r] => ∃ w : Wld, d = encW c.World w ∧ w.ok ∧ pln t = true ∧ noIns r = true ∧ if stD w t = true then (if whD 0 ((w.n : Int) - 1) r = true then @optK _ (stdOf t) ⟨fun s => @optK _ (intD r) ⟨fun x => Q (encH (lookH w s x.toNat w.life.toNat 0))⟩⟩ else R ⟨c.NoRoom, [], []⟩) else R ⟨c.NoStand, [], []⟩
  | _ => False
@[simp ↓] theorem s_looked_ {c : Cl} {d t r : D} {Q : D → Prop} {R : EX → Prop} : @caK (s_looked c) [d, t, r] ⟨Q⟩ ⟨R⟩ = (∃ w : Wld, d = encW c.World w ∧ w.ok ∧ pln t = true ∧ noIns r = true ∧ if stD w t = true then (if whD 0 ((w.n : Int) - 1) r = true then @optK _ (stdOf t) ⟨fun s => @optK _ (intD r) ⟨fun x => Q (encH (lookH w s x.toNat w.life.toNat 0))⟩⟩ else R ⟨c.NoRoom, [], []⟩) else R ⟨c.NoStand, [], []⟩) := (rfl)
def w_looked (c : Cl) : WS :=
    (wsC (wDrop (wCall (s_sure_stand c) (wCons (wVar 0) (wCons (wVar 1) wNil))))
    (wsC (wDrop (wCall (s_sure_room c) (wCons (wVar 0) (wCons (wVar 2) wNil))))
    (wsC (wFor (wRng1 (wCons (wFld c.World "lasting" (wVar 0)) wNil)) (gN 3)
    (wsC (wIfS (wTest (wOp (oIn false) (wVar 2) (wCall (s_looked_at c) (wCons (wVar 0) (wCons (wOp oIx (wVar 1) (wC (.int 0))) wNil)))))
    (wRet (wVar 3))
    ws0)
    (wsC (wIfS (wTest (wOp (oIn false) (wVar 2) (wOp oIx (wVar 1) (wC (.int 0)))))
    (wRet (wC .non))
    ws0)
    (wSet 1 (wCall (s_behind c) (wCons (wVar 0) (wCons (wVar 1) wNil)))))))
    (wRet (wC .non)))))
theorem sc_looked : FnScope ["world", "stand", "room", "beat"] ["world", "stand", "room"] (defScope (topS 42)) := ⟨rfl, rfl, rfl, by decide +kernel, rfl, by decide +kernel, by decide +kernel⟩
theorem d_looked (c : Cl) (T : Txt c mg base) : HB P TabC.w c.K mg base 5 "looked" (topS 42) ["world", "stand", "room", "beat"] (w_looked c) := fun f cdv A outer s H E hr tk hp => by
    have S := sc_looked
    exact
      (dss_cons (ds_expr (dc (ok_sure_stand c T) hr (by decide) tk (da_cons (de_var 0) (da_cons (de_var 1) da_nil))))
      (dss_cons (ds_expr (dc (ok_sure_room c T) hr (by decide) tk (da_cons (de_var 0) (da_cons (de_var 2) da_nil))))
      (dss_cons (ds_for hp rfl (di_range1 (by rfl) T.b_range (da_cons (de_fld T.cls_World T.nf_World_lasting (de_var 0)) da_nil)) (dg_name 3 S.nd)
      (dss_cons (ds_if (dt_cmp (opa_in (hu65 hr)) ((de_var 2)).dl ((dc (ok_looked_at c T) hr (by decide) tk (da_cons (de_var 0) (da_cons (de_ix ((de_var 1)).dl (de_int)) da_nil)))).dl)
      (dss_one (ds_ret (de_var 3)))
      dss_nil)
      (dss_cons (ds_if (dt_cmp (opa_in (hu65 hr)) ((de_var 2)).dl ((de_ix ((de_var 1)).dl (de_int))).dl)
      (dss_one (ds_ret (de_non)))
      dss_nil)
      (dss_one (ds_set 1 S.nd (dc (ok_behind c T) hr (by decide) tk (da_cons (de_var 0) (da_cons (de_var 1) da_nil))))))))
      (dss_one (ds_ret (de_non))))))
theorem h_looked (c : Cl) (X : Xs c) (ds : List D) (Q : D → Prop) (R : EX → Prop) (h : s_looked c ds Q R) : ds.length = 3 ∧ w_looked c (fun ex _ => R ex) ⟨fun _ => Q .non, fun _ => Q, fun _ => False, fun _ => False⟩ (slots0 ["world", "stand", "room", "beat"] ["world", "stand", "room"] ds) := by
  unfold s_looked at h
  split at h
  · rename_i d t r
    refine ⟨rfl, ?_⟩
    obtain ⟨w, rfl, ok, h0, h1, h⟩ := h
    simp [w_looked, h0, h1]
    by_cases e : stD w t = true
    · obtain ⟨s, rfl, os⟩ := stD_dec e
      by_cases e2 : whD 0 ((w.n : Int) - 1) r = true
      · obtain ⟨x, rfl, x0, x1⟩ := whD_of e2
        obtain ⟨x, rfl⟩ : ∃ n : Nat, x = n := ⟨x.toNat, by omega⟩
        simp [e, e2] at h ⊢
        have l1 := ok.l1
        have l6 := ok.l6
        have rl := os.rl
        refine ⟨by omega, ?_⟩
        rw [rngL_enc]
        refine for_done _ (List.range w.life.toNat) (fun p ρ => ∃ s3, ρ = [.val (encW c.World w), .val (encS (iterS w s p.length)), .val (.int x), s3] ∧ p.length ≤ w.life.toNat ∧ Q (encH (lookH w s x (w.life.toNat - p.length) p.length))) (fun p z r ρ nx he hI ih => ?_) (fun ρ hI => ?_) _ ⟨_, rfl, Nat.zero_le _, h⟩
        · obtain ⟨s3, rfl, hp, q⟩ := hI
          have hl : p.length < w.life.toNat := by
            have := congrArg List.length he
            simp at this; omega
          have hz : z = p.length := by
            have := congrArg (fun l => l[p.length]?) he
            simpa [List.getElem?_range hl] using this.symm
          subst hz
          have ou := iter_ok ok os p.length
          rw [show w.life.toNat - p.length = (w.life.toNat - (p.length + 1)) + 1 by omega] at q
          unfold lookH at q
          simp [ok, ou]
          refine ⟨by have := ou.rl; have := ok.k3; omega, ou.rm, ?_⟩
          have em : (x : Int) ∈ sset (lookL w (iterS w s p.length).rooms) ↔ sees w (iterS w s p.length).rooms x = true := by rw [← mem_lookL]; exact mem_sset
          by_cases c1 : (x : Int) ∈ sset (lookL w (iterS w s p.length).rooms)
          · rw [if_pos (em.mp c1)] at q
            rw [if_pos c1]; exact q
          · rw [if_neg fun z => c1 (em.mpr z)] at q
            rw [if_neg c1]
            by_cases c2 : x ∈ (iterS w s p.length).rooms
            · rw [if_pos c2] at q ⊢; exact q
            · rw [if_neg c2] at q ⊢
              refine ih _ ⟨.val (.int p.length), ?_, by simp; omega, by simpa using q⟩
              simp; rfl
        · obtain ⟨s3, rfl, hp, q⟩ := hI
          simp [lookH] at q ⊢
          exact q
      · simp [e, e2] at h ⊢; exact h
    · simp [e] at h ⊢; exact h
  · exact h.elim
theorem ok_looked (c : Cl) (T : Txt c mg base) : Good P TabC.w c.K mg base 6 "looked" ["world", "stand", "room"] (spV c.K (s_looked c)) := goodV T.f_looked sc_looked (d_looked c T) fun ds Q R h => h_looked c T.X ds Q R h
/-! with_mark -/
theorem while_run {Wc : WT} {Wb : WS} {RR : RS} {E : EndsA} (I : Nat → Rho → Prop) (h : ∀ k ρ (nx : Rho → Prop), I k ρ → (∀ ρ', 0 < k → I (k - 1) ρ' → nx ρ') → Wc (fun ex => RR ex ρ) ρ fun b => if b = true then Wb RR { nx := nx, rt := E.rt, bk := E.nx, ct := nx } ρ else E.nx ρ) (n : Nat) (ρ : Rho) (hI : I n ρ) : wWhile Wc Wb RR E ρ := by
  refine ⟨n + 1, ?_⟩
  induction n generalizing ρ with
  | zero => exact h 0 ρ _ hI fun _ h0 _ => absurd h0 (by omega)
  | succ n ih => exact h (n + 1) ρ _ hI fun ρ' _ hi => ih ρ' hi
/-! the track of a stand, up to its first return -/
def repS (w : Wld) (s : Std) (n : Nat) : Prop := ∃ i, i < n ∧ iterS w s i = iterS w s n
instance {w : Wld} {s : Std} {n : Nat} : Decidable (repS w s n) := decidable_of_iff ((List.range n).any fun i => iterS w s i = iterS w s n) (by simp [repS])
def trkF (w : Wld) (s : Std) : Nat → Nat → Nat
  | 0, n => n
  | f + 1, n => if repS w s n then n else trkF w s f (n + 1)
/-- how many stands the track holds -/
def trkN (w : Wld) (s : Std) : Nat := trkF w s 801 0
def firstI (f : Nat → Std) (n : Nat) (t : Std) : Option Nat := (List.range n).find? fun i => decide (f i = t)
/-- where the track's end was before -/
def trkI (w : Wld) (s : Std) : Option Nat := firstI (iterS w s) (trkN w s) (iterS w s (trkN w s))
/-- the same, as the program tells it -/
def trkA (w : Wld) (s : Std) : Option Nat := if trkN w s = 801 then none else trkI w s
theorem trkF_is {w : Wld} {s : Std} : ∀ f n, n ≤ trkF w s f n ∧ trkF w s f n ≤ n + f ∧ (∀ m, n ≤ m → m < trkF w s f n → ¬ repS w s m) ∧ (trkF w s f n < n + f → repS w s (trkF w s f n))
  | 0, n => by simp [trkF]; omega
  | f + 1, n => by
    unfold trkF
    split
    · rename_i h
      exact ⟨by omega, by omega, fun m h1 h2 => by omega, fun _ => h⟩
    · rename_i h
      obtain ⟨h1, h2, h3, h4⟩ := trkF_is (w := w) (s := s) f (n + 1)
      refine ⟨by omega, by omega, fun m k1 k2 => ?_, fun k => h4 (by omega)⟩
      by_cases e : m = n
      · rw [e]; exact h
      · exact h3 m (by omega) k2
theorem trk_le {w : Wld} {s : Std} : trkN w s ≤ 801 := by have := (trkF_is (w := w) (s := s) 801 0).2.1; unfold trkN; omega
theorem trk_no {w : Wld} {s : Std} {m : Nat} (h : m < trkN w s) : ¬ repS w s m := (trkF_is 801 0).2.2.1 m (by omega) h
theorem trk_rep {w : Wld} {s : Std} (h : trkN w s < 801) : repS w s (trkN w s) := (trkF_is 801 0).2.2.2 (by unfold trkN at h; omega)
theorem trk_is {w : Wld} {s : Std} {n : Nat} (h1 : n < 801) (h2 : ∀ m, m < n → ¬ repS w s m) (h3 : repS w s n) : trkN w s = n := by
  by_cases e : trkN w s < n
  · exact absurd (trk_rep (w := w) (s := s) (by omega)) (h2 _ e)
  · by_cases e2 : n < trkN w s
    · exact absurd h3 (trk_no e2)
    · omega
theorem trk_pos {w : Wld} {s : Std} : 0 < trkN w s := by
  by_cases e : trkN w s < 801
  · obtain ⟨i, hi, _⟩ := trk_rep e
    omega
  · omega
theorem first_none {f : Nat → Std} {n : Nat} {t : Std} : firstI f n t = none ↔ ∀ i, i < n → f i ≠ t := by
  unfold firstI
  simp [List.find?_eq_none]
theorem first_some {f : Nat → Std} {t : Std} : ∀ {n a : Nat}, firstI f n t = some a ↔ a < n ∧ f a = t ∧ ∀ i, i < a → f i ≠ t
  | 0, a => by simp [firstI]
  | n + 1, a => by
    have ih := @first_some f t n
    have e : firstI f (n + 1) t = (firstI f n t).or (if f n = t then some n else none) := by
      unfold firstI
      rw [List.range_succ, List.find?_append]
      simp [List.find?_cons]
      split <;> simp_all
    rw [e]
    cases hn : firstI f n t with
    | some b =>
      obtain ⟨b1, b2, b3⟩ := ih.mp hn
      simp
      constructor
      · rintro rfl; exact ⟨by omega, b2, b3⟩
      · rintro ⟨c1, c2, c3⟩
        by_cases l : b < a
        · exact absurd b2 (c3 b l)
        · by_cases l2 : a < b
          · exact absurd c2 (b3 a l2)
          · omega
    | none =>
      have hn := first_none.mp hn
      simp
      constructor
      · rintro ⟨c1, rfl⟩; exact ⟨by omega, c1, hn⟩
      · rintro ⟨c1, c2, c3⟩
        by_cases l : a < n
        · exact absurd c2 (hn a l)
        · obtain rfl : a = n := by omega
          exact ⟨c2, rfl⟩
theorem trk_ex {w : Wld} {s : Std} (h : trkN w s < 801) : ∃ a, trkI w s = some a := by
  cases e : trkI w s with
  | some a => exact ⟨a, rfl⟩
  | none =>
    obtain ⟨i, hi, hr⟩ := trk_rep h
    exact absurd hr (first_none.mp e i hi)
theorem trkA_none {w : Wld} {s : Std} : trkA w s = none ↔ trkN w s = 801 := by
  unfold trkA
  split
  · rename_i h; simp [h]
  · rename_i h
    have := trk_le (w := w) (s := s)
    obtain ⟨a, e⟩ := trk_ex (w := w) (s := s) (by omega)
    simp [e, h]
theorem trkA_some {w : Wld} {s : Std} {a : Nat} : trkA w s = some a ↔ trkN w s < 801 ∧ a < trkN w s ∧ iterS w s a = iterS w s (trkN w s) := by
  have hle := trk_le (w := w) (s := s)
  unfold trkA
  split
  · rename_i h; simp [h]
  · rename_i h
    unfold trkI
    rw [first_some]
    constructor
    · rintro ⟨h1, h2, _⟩; exact ⟨by omega, h1, h2⟩
    · rintro ⟨_, h1, h2⟩
      refine ⟨h1, h2, fun i hi e => ?_⟩
      exact trk_no (w := w) (s := s) (m := a) h1 ⟨i, hi, by rw [e, h2]⟩
theorem trk_inj {w : Wld} {s : Std} {i j : Nat} (hi : i < trkN w s) (hj : j < trkN w s) (h : iterS w s i = iterS w s j) : i = j := by
  by_cases l : i < j
  · exact absurd ⟨i, l, h⟩ (trk_no hj)
  · by_cases l2 : j < i
    · exact absurd ⟨j, l2, h.symm⟩ (trk_no hi)
    · omega
/-- a stand ahead of the round -/
theorem trk_ahead {w : Wld} {s : Std} {a j : Nat} (h : trkA w s = some a) (hj : j ≤ a) : trkN w (iterS w s j) = trkN w s - j ∧ trkA w (iterS w s j) = some (a - j) := by
  obtain ⟨h1, h2, h3⟩ := trkA_some.mp h
  have key : ∀ i, iterS w (iterS w s j) i = iterS w s (j + i) := fun i => (iter_add i).symm
  have hN : trkN w (iterS w s j) = trkN w s - j := by
    refine trk_is (by omega) (fun m hm ⟨i, hi, e⟩ => ?_) ⟨a - j, by omega, ?_⟩
    · rw [key, key] at e
      have := trk_inj (w := w) (s := s) (i := j + i) (j := j + m) (by omega) (by omega) e
      omega
    · rw [key, key, show j + (a - j) = a by omega, show j + (trkN w s - j) = trkN w s by omega, h3]
  refine ⟨hN, trkA_some.mpr ⟨by omega, by omega, ?_⟩⟩
  rw [hN, key, key, show j + (a - j) = a by omega, show j + (trkN w s - j) = trkN w s by omega, h3]
theorem trk_per {w : Wld} {s : Std} {a : Nat} (h : trkA w s = some a) : ∀ i, a ≤ i → iterS w s (i + (trkN w s - a)) = iterS w s i := by
  obtain ⟨h1, h2, h3⟩ := trkA_some.mp h
  intro i hi
  obtain ⟨k, rfl⟩ : ∃ k, i = a + k := ⟨i - a, by omega⟩
  rw [show a + k + (trkN w s - a) = trkN w s + k by omega, iter_add, iter_add, h3]
/-- a stand of the round -/
theorem trk_round {w : Wld} {s : Std} {a j : Nat} (h : trkA w s = some a) (hj : a ≤ j) (hj2 : j < trkN w s) : trkN w (iterS w s j) = trkN w s - a ∧ trkA w (iterS w s j) = some 0 := by
  obtain ⟨h1, h2, h3⟩ := trkA_some.mp h
  have per := trk_per h
  have key : ∀ i, iterS w (iterS w s j) i = iterS w s (j + i) := fun i => (iter_add i).symm
  have red : ∀ i, i < trkN w s - a → ∃ u, a ≤ u ∧ u < trkN w s ∧ iterS w s (j + i) = iterS w s u ∧ (u = j + i ∨ u + (trkN w s - a) = j + i) := fun i hi => by
    by_cases l : j + i < trkN w s
    · exact ⟨j + i, by omega, l, rfl, .inl rfl⟩
    · refine ⟨j + i - (trkN w s - a), by omega, by omega, ?_, .inr (by omega)⟩
      have := per (j + i - (trkN w s - a)) (by omega)
      rw [show j + i - (trkN w s - a) + (trkN w s - a) = j + i by omega] at this
      exact this
  have r0 : iterS w (iterS w s j) 0 = iterS w (iterS w s j) (trkN w s - a) := by
    rw [key, key, per j hj]; rfl
  have hN : trkN w (iterS w s j) = trkN w s - a := by
    refine trk_is (by omega) (fun m hm ⟨i, hi, e⟩ => ?_) ⟨0, by omega, r0⟩
    rw [key, key] at e
    obtain ⟨u, u1, u2, u3, u4⟩ := red i (by omega)
    obtain ⟨v, v1, v2, v3, v4⟩ := red m (by omega)
    have := trk_inj u2 v2 (by rw [← u3, ← v3, e])
    omega
  exact ⟨hN, trkA_some.mpr ⟨by omega, by omega, by rw [hN]; exact r0⟩⟩
/-! the dict of the stands met -/
def encN : Option Nat → D
  | some n => natD n
  | none => .non
theorem nkDs_int {xs ys : List Int} (h : nkDs (xs.map D.int) = nkDs (ys.map D.int)) : xs = ys := by
  induction xs generalizing ys with
  | nil => cases ys <;> simp [nkDs] at h <;> rfl
  | cons x xs ih =>
    cases ys with
    | nil => simp [nkDs] at h
    | cons y ys => simp [nkDs, nkD] at h; rw [h.1, ih h.2]
theorem nkDs_nat {xs ys : List Nat} (h : nkDs (xs.map natD) = nkDs (ys.map natD)) : xs = ys := by
  induction xs generalizing ys with
  | nil => cases ys <;> simp [nkDs] at h <;> rfl
  | cons x xs ih =>
    cases ys with
    | nil => simp [nkDs] at h
    | cons y ys =>
      simp [nkDs, nkD, natD] at h
      rw [ih h.2]
      have := h.1
      rw [show x = y by omega]
theorem nkD_encS {s t : Std} : (nkD (encS s) = nkD (encS t)) = (s = t) := propext ⟨fun h => by
  obtain ⟨a, b⟩ := s
  obtain ⟨a', b'⟩ := t
  simp [encS, nkD, nkDs] at h
  rw [nkDs_nat h.1, nkDs_int h.2], fun h => by rw [h]⟩
theorem okKs_int {xs : List Int} {n : Nat} : okKs n (xs.map D.int) = true := by
  induction xs with
  | nil => cases n <;> rfl
  | cons x xs ih => cases n <;> simp [okKs, okK, ih]
theorem okKs_nat {xs : List Nat} {n : Nat} : okKs n (xs.map natD) = true := by
  induction xs with
  | nil => cases n <;> rfl
  | cons x xs ih => cases n <;> simp [okKs, okK, ih, natD]
theorem okK_encS {s : Std} : okK 8 (encS s) = true := by simp [encS, okK, okKs, okKs_int, okKs_nat]
theorem isTup_encS {s : Std} : isTup (encS s) = true := rfl
theorem allTup_encS {f : Nat → Std} {n : Nat} : ((List.range n).map fun i => encS (f i)).all isTup = true := by simp [isTup_encS]
theorem dGet_append {q : D} : ∀ {ks ds kr dr : List D}, ks.length = ds.length → dGet (ks ++ kr) (ds ++ dr) q = (dGet ks ds q).or (dGet kr dr q)
  | [], [], kr, dr, _ => by simp [dGet]
  | k :: ks, d :: ds, kr, dr, h => by
    simp only [List.cons_append, dGet]
    split
    · simp
    · exact dGet_append (by simpa using h)
  | [], d :: ds, _, _, h => by simp at h
  | k :: ks, [], _, _, h => by simp at h
theorem dGet_trk {f : Nat → Std} {t : Std} : ∀ {n : Nat}, dGet ((List.range n).map fun i => encS (f i)) ((List.range n).map natD) (encS t) = (firstI f n t).map natD
  | 0 => rfl
  | n + 1 => by
    rw [List.range_succ, List.map_append, List.map_append, dGet_append (by simp), dGet_trk]
    have e : firstI f (n + 1) t = (firstI f n t).or (if f n = t then some n else none) := by
      unfold firstI
      rw [List.range_succ, List.find?_append]
      simp [List.find?_cons]
      split <;> simp_all
    rw [e]
    simp only [List.map_cons, List.map_nil, dGet, nkD_encS]
    cases firstI f n t with
    | some i => simp
    | none => by_cases e2 : f n = t <;> simp [e2]
def trkL (w : Wld) (s : Std) : List D := (List.range (trkN w s)).map fun i => encS (iterS w s i)
theorem trk_stop {w : Wld} {s : Std} {m : Nat} (hm : m ≤ trkN w s) : ((firstI (iterS w s) m (iterS w s m)).isSome = true ∨ 800 < m) ↔ m = trkN w s := by
  have hle := trk_le (w := w) (s := s)
  constructor
  · intro h
    by_cases e : m = trkN w s
    · exact e
    · rcases h with h | h
      · obtain ⟨i, hi⟩ := Option.isSome_iff_exists.mp h
        obtain ⟨h1, h2, _⟩ := first_some.mp hi
        exact absurd ⟨i, h1, h2⟩ (trk_no (w := w) (s := s) (m := m) (by omega))
      · omega
  · rintro rfl
    by_cases e : trkN w s = 801
    · exact .inr (by omega)
    · obtain ⟨i, hi⟩ := trk_ex (w := w) (s := s) (by omega)
      exact .inl (by unfold trkI at hi; rw [hi]; rfl)
/-! a told track -/
def tNm : List Str := ["world", "stands", "ahead"]
def tVs (C : Addr) (w : Wld) (s : Std) : List D := [encW C w, .lst (trkL w s), encN (trkA w s)]
def encT (C T : Addr) (w : Wld) (s : Std) : D := .ins T tNm (tVs C w s)
@[simp ↓] theorem insK_encT {C T : Addr} {w : Wld} {s : Std} {Q : List Str → List D → Prop} : @insK T (encT C T w s) ⟨Q⟩ = Q tNm (tVs C w s) := propext ⟨fun h => h.2, fun h => ⟨rfl, h⟩⟩
@[simp] theorem look_world {C : Addr} {w : Wld} {s : Std} : (tNm.zip (tVs C w s)).lookup ("world" : Str) = some (encW C w) := (rfl)
@[simp] theorem look_stands {C : Addr} {w : Wld} {s : Std} : (tNm.zip (tVs C w s)).lookup ("stands" : Str) = some (.lst (trkL w s)) := (rfl)
@[simp] theorem look_ahead {C : Addr} {w : Wld} {s : Std} : (tNm.zip (tVs C w s)).lookup ("ahead" : Str) = some (encN (trkA w s)) := (rfl)
theorem insM_encT {C T : Addr} {m : Str} {w : Wld} {s : Std} {Q : D → Prop} (h : (tNm.zip (tVs C w s)).lookup m = none) : @insM T m (encT C T w s) ⟨Q⟩ = Q (encT C T w s) := propext ⟨fun z => z.2.2, fun z => ⟨rfl, h, z⟩⟩
@[simp ↓] theorem insM_sure_round {C T : Addr} {w : Wld} {s : Std} {Q : D → Prop} : @insM T "sure_round" (encT C T w s) ⟨Q⟩ = Q (encT C T w s) := insM_encT rfl
@[simp ↓] theorem insM_long {C T : Addr} {w : Wld} {s : Std} {Q : D → Prop} : @insM T "long" (encT C T w s) ⟨Q⟩ = Q (encT C T w s) := insM_encT rfl
@[simp ↓] theorem insM_place {C T : Addr} {w : Wld} {s : Std} {Q : D → Prop} : @insM T "place" (encT C T w s) ⟨Q⟩ = Q (encT C T w s) := insM_encT rfl
@[simp ↓] theorem insM_often {C T : Addr} {w : Wld} {s : Std} {Q : D → Prop} : @insM T "often" (encT C T w s) ⟨Q⟩ = Q (encT C T w s) := insM_encT rfl
@[simp] theorem len_trkL {w : Wld} {s : Std} : (trkL w s).length = trkN w s := by simp [trkL]
@[simp] theorem encN_some {n : Nat} : encN (some n) = natD n := (rfl)
@[simp] theorem encN_none : encN none = .non := (rfl)
@[simp] theorem nolst_encN {o : Option Nat} : nolst (encN o) = true := by cases o <;> rfl
@[simp] theorem isNon_natD {n : Nat} : isNon (natD n) = false := (rfl)
@[simp ↓] theorem seqRev_encS {s : Std} {Q : D → Prop} : @seqRevK (encS s) ⟨Q⟩ = Q (.tup [.tup (s.marks.map D.int), .tup (s.rooms.map natD)]) := (rfl)
@[simp] theorem stD_non {w : Wld} : stD w .non = false := (rfl)
@[simp] theorem stD_three {w : Wld} {a b d : D} : stD w (.tup [a, b, d]) = false := (rfl)
@[simp] theorem pln_encN {o : Option Nat} : pln (encN o) = true := by cases o <;> rfl
theorem trkL_at {w : Wld} {s : Std} {i : Nat} (h : i < trkN w s) : atI (trkL w s) (i : Int) = some (encS (iterS w s i)) := by
  rw [atI_nat]; simp [trkL, h]
theorem trk_per2 {w : Wld} {s : Std} {a p : Nat} (h : trkA w s = some a) (hp : p = trkN w s - a) : ∀ m i, a ≤ i → iterS w s (i + p * m) = iterS w s i
  | 0, i, _ => by simp
  | m + 1, i, hi => by
    rw [Nat.mul_succ, ← Nat.add_assoc]
    have := trk_per h (i + p * m) (by omega)
    rw [← hp] at this
    rw [this, trk_per2 h hp m i hi]
/-- the place in the track of a far beat -/
def farI (w : Wld) (s : Std) (a k : Nat) : Nat := a + (k - a) % (trkN w s - a)
theorem far_lt {w : Wld} {s : Std} {a k : Nat} (h : trkA w s = some a) : farI w s a k < trkN w s := by
  obtain ⟨_, h2, _⟩ := trkA_some.mp h
  have := Nat.mod_lt (k - a) (show 0 < trkN w s - a by omega)
  unfold farI; omega
theorem far_is {w : Wld} {s : Std} {a k : Nat} (h : trkA w s = some a) (hk : a ≤ k) : iterS w s (farI w s a k) = iterS w s k := by
  have := trk_per2 h rfl ((k - a) / (trkN w s - a)) (farI w s a k) (by unfold farI; omega)
  rw [← this]
  congr 1
  unfold farI
  have := Nat.mod_add_div (k - a) (trkN w s - a)
  omega
/-- the stand of a beat, if it is known -/
def atS (w : Wld) (s : Std) (k : Nat) : Option Std := if k < trkN w s ∨ trkN w s < 801 then some (iterS w s k) else none
theorem sub_int {w : Wld} {s : Std} {a : Nat} (h : trkA w s = some a) : ((trkN w s : Nat) : Int) - (a : Int) = ((trkN w s - a : Nat) : Int) := by
  obtain ⟨_, h2, _⟩ := trkA_some.mp h
  omega
theorem far_int {w : Wld} {s : Std} {a k : Nat} (h : trkA w s = some a) (hk : a ≤ k) : (a : Int) + ((k : Int) - (a : Int)) % ((trkN w s - a : Nat) : Int) = (farI w s a k : Int) := by
  unfold farI
  rw [show (k : Int) - (a : Int) = ((k - a : Nat) : Int) by omega]
  push_cast
  rfl
theorem trkL_get {w : Wld} {s : Std} {k : Nat} (h : k < trkN w s) : (trkL w s)[k]? = some (encS (iterS w s k)) := by simp [trkL, h]
theorem at_in {w : Wld} {s : Std} {k : Nat} (h : k < trkN w s) : atS w s k = some (iterS w s k) := if_pos (.inl h)
theorem at_out {w : Wld} {s : Std} {k : Nat} (h : ¬ k < trkN w s) (h2 : trkN w s = 801) : atS w s k = none := if_neg (by omega)
theorem at_far {w : Wld} {s : Std} {k : Nat} (h2 : trkN w s ≠ 801) : atS w s k = some (iterS w s k) := if_pos (.inr (by have := trk_le (w := w) (s := s); omega))
@[simp] theorem trkL_idx {w : Wld} {s : Std} {k : Nat} {h : k < (trkL w s).length} : (trkL w s)[k] = encS (iterS w s k) := by simp [trkL]
theorem trkL_enc {w : Wld} {s : Std} : trkL w s = ((List.range (trkN w s)).map (iterS w s)).map encS := by
  unfold trkL; rw [List.map_map]; rfl
theorem plc_head {w : Int} : ∀ {i : Nat} {m : List Int} {q : Nat}, ((i + q : Nat) : Int) < (plc w i m).headD 0 → m[q]? ≠ some w
  | i, [], q, h => by simp
  | i, x :: m, q, h => by
    unfold plc at h
    split at h
    · simp at h; omega
    · rename_i hx
      cases q with
      | zero => simpa using hx
      | succ q =>
        have := plc_head (w := w) (i := i + 1) (m := m) (q := q) (by have e : i + 1 + q = i + (q + 1) := by omega
                                                                     rw [e]; exact h)
        simpa using this
theorem plc_mem_of {w : Int} : ∀ {i : Nat} {m : List Int} {q : Nat}, m[q]? = some w → ((i + q : Nat) : Int) ∈ plc w i m
  | i, [], q, h => by simp at h
  | i, x :: m, 0, h => by
    simp at h; unfold plc; rw [if_pos h]; simp
  | i, x :: m, q + 1, h => by
    have h2 := plc_mem_of (i := i + 1) (m := m) (q := q) (w := w) (by simpa using h)
    have e : i + 1 + q = i + (q + 1) := by omega
    rw [e] at h2
    unfold plc; split
    · exact List.mem_cons_of_mem _ h2
    · exact h2
theorem plc_sorted {w : Int} : ∀ {i : Nat} {m : List Int}, (plc w i m).Pairwise (· < ·)
  | _, [] => by simp [plc]
  | i, x :: m => by
    have ih := plc_sorted (w := w) (i := i + 1) (m := m)
    unfold plc; split
    · refine List.pairwise_cons.mpr ⟨fun y hy => ?_, ih⟩
      have := plc_mem hy
      omega
    · exact ih
theorem plc_last {w : Int} {m : List Int} {q : Nat} (h : (plc w 0 m).getLastD 0 < (q : Int)) : m[q]? ≠ some w := fun e => by
  have h1 := plc_mem_of (i := 0) e
  have h2 := plc_sorted (w := w) (i := 0) (m := m)
  have : ∀ (l : List Int) (x : Int), l.Pairwise (· < ·) → x ∈ l → x ≤ l.getLastD 0 := by
    intro l x hl hx
    obtain ⟨l', y, rfl⟩ : ∃ l' y, l = l' ++ [y] := ⟨l.dropLast, l.getLast (List.ne_nil_of_mem hx), (List.dropLast_concat_getLast _).symm⟩
    rw [List.getLastD_eq_getLast?, List.getLast?_concat]
    rcases List.mem_append.mp hx with hx | hx
    · have := (List.pairwise_append.mp hl).2.2 x hx y (by simp)
      simp; omega
    · simp at hx; simp [hx]
  have := this _ _ h2 h1
  omega
/-- of two marks -/
def two (r : List Cla) (x y : Int) : Bool := pickR r [x, y] == 1
theorem someC_two {a : Cla} {x y : Int} : someC a [x, y] = (if inC a x = true then [x] else []) ++ (if inC a y = true then [y] else []) := by
  have := someC_snoc (a := a) (p := [x]) (x := y)
  have h0 := someC_snoc (a := a) (p := []) (x := x)
  have e : someC a [] = [] := rfl
  rw [e] at h0
  simp only [List.nil_append] at h0
  rw [h0] at this
  exact this
theorem place_two {a : Cla} {x y : Int} (h : someC a [x, y] ≠ []) : placeC a [x, y] = if inC a x = true then (if inC a y = true then (if x = y then (if a.first = true then 0 else 1) else if decide (x < y) = a.fresh then 1 else 0) else 0) else 1 := by
  by_cases hx : inC a x = true
  · have b1 : bestC a [x] = some 0 := bestC_first (p := []) rfl hx
    by_cases hy : inC a y = true
    · by_cases e : x = y
      · subst e
        have w : x = wishC a [x] := by
          have := bestC_some b1
          have h5 := this.2.2.2.2
          simp at h5; exact h5
        have b2 := bestC_same b1 hy w
        have := (bestC_some b2).2.1
        simp only [List.cons_append, List.nil_append] at this
        rw [← this]; simp [hx]
      · have w : wishC a [x] = x := by
          have := (bestC_some b1).2.2.2.2
          simp at this; exact this.symm
        have b2 := bestC_other b1 hy (by rw [w]; exact fun z => e z.symm)
        rw [w] at b2
        have := (bestC_some b2).2.1
        simp only [List.cons_append, List.nil_append] at this
        rw [← this]; simp [hx, hy, e]
    · have b2 := bestC_out (p := [x]) (x := y) (a := a) (by simpa using hy)
      rw [b1] at b2
      have := (bestC_some b2).2.1
      simp only [List.cons_append, List.nil_append] at this
      rw [← this]; simp [hx, hy]
  · have b1 : bestC a [x] = none := by
      have := bestC_out (p := []) (x := x) (a := a) (by simpa using hx)
      rw [List.nil_append] at this
      rw [this]; rfl
    have hy : inC a y = true := by
      by_cases hy : inC a y = true
      · exact hy
      · refine absurd ?_ h
        rw [someC_two]; simp [hx, hy]
    have b2 := bestC_first b1 hy
    have := (bestC_some b2).2.1
    simp only [List.cons_append, List.nil_append] at this
    rw [← this]; simp [hx]
theorem someC_nil_iff {a : Cla} {m : List Int} : someC a m = [] ↔ ∀ x ∈ m, inC a x = false := by
  unfold someC
  rw [List.filter_eq_nil_iff]
  exact ⟨fun h x hx => by simpa [inC] using h x hx, fun h x hx => by simpa [inC] using h x hx⟩
/-- the picked place is picked of it and each other one -/
theorem pick_wins : ∀ (r : List Cla) (m : List Int) (p q : Nat) (x y : Int), pickR r m = p → m[p]? = some x → m[q]? = some y → (q < p → two r y x = true) ∧ (p < q → two r x y = false)
  | [], m, p, q, x, y, h, hp, hq => by
    unfold pickR at h
    have : p = 0 := by omega
    subst this
    exact ⟨fun h => by omega, fun _ => rfl⟩
  | a :: r, m, p, q, x, y, h, hp, hq => by
    have mx : x ∈ m := List.mem_of_getElem? hp
    have my : y ∈ m := List.mem_of_getElem? hq
    by_cases e : someC a m = []
    · have ix := someC_nil_iff.mp e x mx
      have iy := someC_nil_iff.mp e y my
      have e1 : someC a [x, y] = [] := someC_nil_iff.mpr (by simp [ix, iy])
      have e2 : someC a [y, x] = [] := someC_nil_iff.mpr (by simp [ix, iy])
      have ih := pick_wins r m p q x y (by rwa [pickR, if_pos e] at h) hp hq
      unfold two
      rw [pickR, if_pos e2, pickR, if_pos e1]
      exact ih
    · rw [pickR, if_neg e] at h
      have g := placeC_get e
      rw [h] at g
      simp only [Int.toNat_natCast] at g
      rw [hp] at g
      have hw : x = wishC a m := by simpa using g
      have ix : inC a x = true := by rw [hw]; exact wish_in e
      have n1 : someC a [y, x] ≠ [] := by rw [someC_two]; simp [ix]
      have n2 : someC a [x, y] ≠ [] := by rw [someC_two]; simp [ix]
      unfold two
      rw [pickR, if_neg n1, pickR, if_neg n2, place_two n1, place_two n2]
      have fi : a.first = true → q < p → y ≠ x := fun hf hq' e' => by
        unfold placeC at h
        rw [if_pos hf] at h
        have := plc_head (w := wishC a m) (i := 0) (m := m) (q := q) (by rw [h]; omega)
        rw [hq, e', hw] at this; exact this rfl
      have la : a.first = false → p < q → y ≠ x := fun hf hq' e' => by
        unfold placeC at h
        rw [if_neg (by simp [hf])] at h
        have := plc_last (w := wishC a m) (m := m) (q := q) (by rw [h]; omega)
        rw [hq, e', hw] at this; exact this rfl
      have be : inC a y = true → if a.fresh = true then y ≤ x else x ≤ y := fun hi => by rw [hw]; exact wish_best my hi
      constructor
      · intro hq'
        by_cases iy : inC a y = true
        · have be := be iy
          cases ef : a.first <;> cases eh : a.fresh <;> simp [ix, iy, ef, eh] at be fi ⊢
          · by_cases z : y = x <;> simp [z]; omega
          · by_cases z : y = x <;> simp [z]; omega
          · have := fi hq'
            simp [this]; omega
          · have := fi hq'
            simp [this]; omega
        · simp [iy]
      · intro hq'
        by_cases iy : inC a y = true
        · have be := be iy
          cases ef : a.first <;> cases eh : a.fresh <;> simp [ix, iy, ef, eh] at be la ⊢
          · have := la hq'
            have t : ¬ x = y := fun z => this z.symm
            simp [t]; omega
          · have := la hq'
            have t : ¬ x = y := fun z => this z.symm
            simp [t]; omega
          · by_cases z : x = y <;> simp [z]; omega
          · by_cases z : x = y <;> simp [z]; omega
        · simp [ix, iy]
/-- a place that beats all others -/
def Wins (r : List Cla) (m : List Int) (p : Nat) : Prop := ∀ q x y, m[p]? = some x → m[q]? = some y → (q < p → two r y x = true) ∧ (p < q → two r x y = false)
theorem pick_of_wins {r : List Cla} {m : List Int} {p : Nat} (hp : p < m.length) (h : Wins r m p) : pickR r m = p := by
  have hl := pickR_lt r m (by omega)
  obtain ⟨k, hk⟩ : ∃ k : Nat, pickR r m = k := ⟨(pickR r m).toNat, by omega⟩
  have hkl : k < m.length := by omega
  rw [hk]
  have gp := List.getElem?_eq_getElem hp
  have gk := List.getElem?_eq_getElem hkl
  have h1 := pick_wins r m k p _ _ hk gk gp
  have h2 := h k _ _ gp gk
  rcases Nat.lt_trichotomy k p with c | c | c
  · have a := h1.2 c
    have b := h2.1 c
    rw [a] at b; cases b
  · rw [c]
  · have a := h1.1 c
    have b := h2.2 c
    rw [a] at b; cases b
theorem wins_iff {r : List Cla} {m : List Int} {p : Nat} (hp : p < m.length) : Wins r m p ↔ pickR r m = p := ⟨pick_of_wins hp, fun h q x y hx hy => pick_wins r m p q x y h hx hy⟩
def pairsL (n : Nat) : List (Int × Int) := (List.range n).flatMap fun (a : Nat) => (List.range n).map fun (b : Nat) => ((a : Int), (b : Int))
def encP (p : Int × Int) : D := .tup [.int p.1, .int p.2]
def apartL (r s : List Cla) (n : Nat) : List (Int × Int) := (pairsL n).filter fun p => !(pickR r [p.1, p.2] == pickR s [p.1, p.2])
theorem pairs_len (n : Nat) : (pairsL n).length = n * n := by
  unfold pairsL
  rw [List.length_flatMap]
  simp [List.map_const']
theorem mem_pairs {n : Nat} {p : Int × Int} : p ∈ pairsL n ↔ ∃ a b : Nat, a < n ∧ b < n ∧ p = ((a : Int), (b : Int)) := by
  unfold pairsL
  simp only [List.mem_flatMap, List.mem_map, List.mem_range]
  constructor
  · rintro ⟨a, ha, b, hb, rfl⟩; exact ⟨a, b, ha, hb, rfl⟩
  · rintro ⟨a, b, ha, hb, rfl⟩; exact ⟨a, ha, b, hb, rfl⟩
def encO : Option (Int × Int) → D
  | none => .non
  | some p => encP p
@[simp] theorem isNon_encO {o : Option (Int × Int)} : isNon (encO o) = o.isNone := by cases o <;> rfl
theorem pw_eq {α : Type} {R : α → α → Prop} (as : ∀ a b, R a b → ¬ R b a) : ∀ {xs ys : List α}, xs.Pairwise R → ys.Pairwise R → (∀ a, a ∈ xs ↔ a ∈ ys) → xs = ys
  | [], [], _, _, _ => rfl
  | [], y :: ys, _, _, h => absurd ((h y).mpr (List.mem_cons_self ..)) (by simp)
  | x :: xs, [], _, _, h => absurd ((h x).mp (List.mem_cons_self ..)) (by simp)
  | x :: xs, y :: ys, h1, h2, h => by
    obtain ⟨a1, b1⟩ := List.pairwise_cons.mp h1
    obtain ⟨a2, b2⟩ := List.pairwise_cons.mp h2
    have e : x = y := by
      rcases List.mem_cons.mp ((h x).mp (List.mem_cons_self ..)) with e | e
      · exact e
      · rcases List.mem_cons.mp ((h y).mpr (List.mem_cons_self ..)) with e' | e'
        · exact e'.symm
        · exact absurd (a1 _ e') (as _ _ (a2 _ e))
    subst e
    rw [pw_eq as b1 b2 fun a => ⟨fun m => ?_, fun m => ?_⟩]
    · rcases List.mem_cons.mp ((h a).mp (List.mem_cons_of_mem _ m)) with e | e
      · subst e; exact absurd (a1 _ m) (as _ _ (a1 _ m))
      · exact e
    · rcases List.mem_cons.mp ((h a).mpr (List.mem_cons_of_mem _ m)) with e | e
      · subst e; exact absurd (a2 _ m) (as _ _ (a2 _ m))
      · exact e
structure Rk (t : Int → Int → Bool) (l : List Int) (O : List (Int × Bool)) (L : List Int) : Prop where
  srt : L.Pairwise (· < ·)
  mem : ∀ x, x ∈ l ↔ (∃ b, (x, b) ∈ O) ∨ x ∈ L
  ord : O.Pairwise fun p q => t p.1 q.1 = false ∧ t q.1 p.1 = true
  sd : ∀ p ∈ O, p.2 = !t p.1 p.1
  win : ∀ p ∈ O, ∀ y ∈ L, t p.1 y = false ∧ t y p.1 = true
  lft : ∀ x ∈ L, ∀ y ∈ L, t x y = false
  two : L.length ≠ 1
theorem pw_two {α : Type} {R : α → α → Prop} : ∀ {xs : List α}, xs.Pairwise R → ∀ {x y : α}, x ∈ xs → y ∈ xs → x = y ∨ R x y ∨ R y x
  | z :: zs, h, x, y, hx, hy => by
    obtain ⟨a, b⟩ := List.pairwise_cons.mp h
    rcases List.mem_cons.mp hx with ex | hx'
    · rcases List.mem_cons.mp hy with ey | hy'
      · exact .inl (ex.trans ey.symm)
      · exact .inr (.inl (ex ▸ a _ hy'))
    · rcases List.mem_cons.mp hy with ey | hy'
      · exact .inr (.inr (ey ▸ a _ hx'))
      · exact pw_two b hx' hy'
theorem rk_same {t u : Int → Int → Bool} {l : List Int} {O : List (Int × Bool)} {L : List Int} (h : Rk t l O L) (g : Rk u l O L) {x y : Int} (hx : x ∈ l) (hy : y ∈ l) : t x y = u x y := by
  rcases (h.mem x).mp hx with ⟨b, hx⟩ | hx
  · rcases (h.mem y).mp hy with ⟨d, hy⟩ | hy
    · by_cases e : x = y
      · subst e
        have := h.sd _ hx
        have g' := g.sd _ hx
        simp only at this g'
        rw [this] at g'
        simpa using g'
      · rcases pw_two (h.ord.and g.ord) hx hy with e' | e' | e'
        · exact absurd (congrArg Prod.fst e') e
        · rw [e'.1.1, e'.2.1]
        · rw [e'.1.2, e'.2.2]
    · rw [(h.win _ hx y hy).1, (g.win _ hx y hy).1]
  · rcases (h.mem y).mp hy with ⟨d, hy⟩ | hy
    · rw [(h.win _ hy x hx).2, (g.win _ hy x hx).2]
    · rw [h.lft x hx y hy, g.lft x hx y hy]
theorem rk_left {t : Int → Int → Bool} {l : List Int} {O : List (Int × Bool)} {L : List Int} (h : Rk t l O L) {x : Int} : x ∈ L ↔ x ∈ l ∧ ∃ y ∈ l, y ≠ x ∧ t x y = false ∧ t y x = false := by
  constructor
  · intro hx
    refine ⟨(h.mem x).mpr (.inr hx), ?_⟩
    have : ∃ y ∈ L, y ≠ x := by
      have h2 := h.two
      have h3 := h.srt
      cases L with
      | nil => cases hx
      | cons a L =>
        cases L with
        | nil => exact absurd rfl h2
        | cons b L =>
          have := (List.pairwise_cons.mp h3).1 b (List.mem_cons_self ..)
          by_cases e : x = a
          · exact ⟨b, by simp, by omega⟩
          · exact ⟨a, by simp, fun z => e z.symm⟩
    obtain ⟨y, hy, e⟩ := this
    exact ⟨y, (h.mem y).mpr (.inr hy), e, h.lft x hx y hy, h.lft y hy x hx⟩
  · rintro ⟨hx, y, hy, e, e1, e2⟩
    rcases (h.mem x).mp hx with ⟨b, hx⟩ | hx
    · rcases (h.mem y).mp hy with ⟨d, hy⟩ | hy
      · rcases pw_two h.ord hx hy with e' | e' | e'
        · exact absurd (congrArg Prod.fst e').symm e
        · have := e'.2; simp only at this; rw [e2] at this; cases this
        · have := e'.2; simp only at this; rw [e1] at this; cases this
      · have := (h.win _ hx y hy).2; simp only at this; rw [e2] at this; cases this
    · exact hx
theorem rk_ord {t : Int → Int → Bool} {l : List Int} {O : List (Int × Bool)} {L : List Int} (h : Rk t l O L) {p : Int × Bool} : p ∈ O ↔ (p.1 ∈ l ∧ p.1 ∉ L) ∧ p.2 = !t p.1 p.1 := by
  constructor
  · intro hp
    refine ⟨⟨(h.mem _).mpr (.inl ⟨p.2, hp⟩), fun hl => ?_⟩, h.sd p hp⟩
    have := h.win p hp p.1 hl
    rw [this.1] at this
    cases this.2
  · rintro ⟨⟨h1, h2⟩, h3⟩
    rcases (h.mem _).mp h1 with ⟨b, hb⟩ | hl
    · have := h.sd _ hb
      simp only at this
      have e : p = (p.1, b) := by rw [this, ← h3]
      rw [e]; exact hb
    · exact absurd hl h2
theorem rk_eq {t u : Int → Int → Bool} {l : List Int} {O O' : List (Int × Bool)} {L L' : List Int} (h : Rk t l O L) (g : Rk u l O' L') (e : ∀ x ∈ l, ∀ y ∈ l, t x y = u x y) : O = O' ∧ L = L' := by
  have eL : L = L' := by
    refine pw_eq (fun a b h1 h2 => by omega) h.srt g.srt fun x => ?_
    rw [rk_left h, rk_left g]
    constructor
    · rintro ⟨hx, y, hy, n, e1, e2⟩
      exact ⟨hx, y, hy, n, by rw [← e x hx y hy]; exact e1, by rw [← e y hy x hx]; exact e2⟩
    · rintro ⟨hx, y, hy, n, e1, e2⟩
      exact ⟨hx, y, hy, n, by rw [e x hx y hy]; exact e1, by rw [e y hy x hx]; exact e2⟩
  subst eL
  have hO : ∀ p, p ∈ O ↔ p ∈ O' := fun p => by
    rw [rk_ord h, rk_ord g]
    constructor
    · rintro ⟨⟨h1, h2⟩, h3⟩; exact ⟨⟨h1, h2⟩, by rw [← e _ h1 _ h1]; exact h3⟩
    · rintro ⟨⟨h1, h2⟩, h3⟩; exact ⟨⟨h1, h2⟩, by rw [e _ h1 _ h1]; exact h3⟩
  refine ⟨?_, rfl⟩
  have go : O'.Pairwise fun p q => t p.1 q.1 = false ∧ t q.1 p.1 = true := by
    refine g.ord.imp_of_mem fun {p q} hp hq k => ?_
    have m1 := ((rk_ord g).mp hp).1.1
    have m2 := ((rk_ord g).mp hq).1.1
    exact ⟨by rw [e _ m1 _ m2]; exact k.1, by rw [e _ m2 _ m1]; exact k.2⟩
  exact pw_eq (fun a b h1 h2 => by rw [h2.1] at h1; cases h1.2) h.ord go hO
/-- the ranked marks of a rule -/
def rkO : List Cla → List Int → List (Int × Bool)
  | [], _ => []
  | a :: r, l => (if a.fresh then (someC a l).reverse else someC a l).map (fun m => (m, a.first)) ++ rkO r (l.filter fun x => !inC a x)
def rkL : List Cla → List Int → List Int
  | [], l => l
  | a :: r, l => rkL r (l.filter fun x => !inC a x)
def rank (r : List Cla) (l : List Int) : List (Int × Bool) × List Int :=
  if (rkL r l).length = 1 then (rkO r l ++ [((rkL r l).headD 0, true)], []) else (rkO r l, rkL r l)
structure Rk0 (t : Int → Int → Bool) (l : List Int) (O : List (Int × Bool)) (L : List Int) : Prop where
  srt : L.Pairwise (· < ·)
  mem : ∀ x, x ∈ l ↔ (∃ b, (x, b) ∈ O) ∨ x ∈ L
  ord : O.Pairwise fun p q => t p.1 q.1 = false ∧ t q.1 p.1 = true
  sd : ∀ p ∈ O, p.2 = !t p.1 p.1
  win : ∀ p ∈ O, ∀ y ∈ L, t p.1 y = false ∧ t y p.1 = true
  lft : ∀ x ∈ L, ∀ y ∈ L, t x y = false
theorem two_skip {a : Cla} {r : List Cla} {x y : Int} (h1 : inC a x = false) (h2 : inC a y = false) : two (a :: r) x y = two r x y := by
  have e1 : someC a [x, y] = [] := someC_nil_iff.mpr (by simp [h1, h2])
  unfold two
  rw [pickR, if_pos e1]
theorem two_here {a : Cla} {r : List Cla} {x y : Int} (h : inC a x = true ∨ inC a y = true) : two (a :: r) x y = ((if inC a x = true then (if inC a y = true then (if x = y then (if a.first = true then 0 else 1) else if decide (x < y) = a.fresh then 1 else 0) else 0) else (1 : Int)) == 1) := by
  have n : someC a [x, y] ≠ [] := by rw [someC_two]; rcases h with h | h <;> simp [h]
  unfold two
  rw [pickR, if_neg n, place_two n]
theorem rk_of : ∀ (r : List Cla) (l : List Int), l.Pairwise (· < ·) → Rk0 (two r) l (rkO r l) (rkL r l)
  | [], l, h => ⟨h, fun x => by simp [rkO, rkL], .nil, fun p hp => by simp [rkO] at hp, fun p hp => by simp [rkO] at hp, fun x _ y _ => rfl⟩
  | a :: r, l, h => by
    have ih := rk_of r (l.filter fun x => !inC a x) (h.filter _)
    have out : ∀ x, x ∈ (l.filter fun x => !inC a x) → inC a x = false := fun x hx => by
      have := (List.mem_filter.mp hx).2
      simpa using this
    have oO : ∀ p ∈ rkO r (l.filter fun x => !inC a x), inC a p.1 = false := fun p hp => out _ ((ih.mem _).mpr (.inl ⟨p.2, hp⟩))
    have oL : ∀ x ∈ rkL r (l.filter fun x => !inC a x), inC a x = false := fun p hp => out _ ((ih.mem _).mpr (.inr hp))
    have hin : ∀ p ∈ (if a.fresh then (someC a l).reverse else someC a l).map (fun m => (m, a.first)), (p.1 ∈ l ∧ inC a p.1 = true) ∧ p.2 = a.first := fun p hp => by
      obtain ⟨m, hm, rfl⟩ := List.mem_map.mp hp
      have : m ∈ someC a l := by
        split at hm
        · exact List.mem_reverse.mp hm
        · exact hm
      exact ⟨List.mem_filter.mp this, rfl⟩
    have beat : ∀ x y, inC a x = true → inC a y = false → two (a :: r) x y = false ∧ two (a :: r) y x = true := fun x y hx hy => by
      rw [two_here (.inl hx), two_here (.inr hx)]
      simp [hx, hy]
    refine ⟨ih.srt, fun x => ?_, ?_, fun p hp => ?_, fun p hp y hy => ?_, fun x hx y hy => ?_⟩
    · have := ih.mem x
      by_cases hx : inC a x = true
      · have nO : ¬ ∃ b, (x, b) ∈ rkO r (l.filter fun x => !inC a x) := fun ⟨b, hb⟩ => by
          have := oO _ hb; rw [hx] at this; cases this
        have nL : x ∉ rkL r (l.filter fun x => !inC a x) := fun hb => by
          have := oL _ hb; rw [hx] at this; cases this
        constructor
        · intro hl
          refine .inl ⟨a.first, ?_⟩
          have hs : x ∈ someC a l := List.mem_filter.mpr ⟨hl, hx⟩
          refine List.mem_append.mpr (.inl (List.mem_map.mpr ⟨x, ?_, rfl⟩))
          split
          · exact List.mem_reverse.mpr hs
          · exact hs
        · rintro (⟨b, hb⟩ | hb)
          · rcases List.mem_append.mp hb with hb | hb
            · exact (hin _ hb).1.1
            · exact absurd ⟨b, hb⟩ nO
          · exact absurd hb nL
      · have e : x ∈ l ↔ x ∈ (l.filter fun x => !inC a x) := by simp [List.mem_filter, hx]
        rw [e, this]
        refine or_congr ⟨fun ⟨b, hb⟩ => ⟨b, List.mem_append.mpr (.inr hb)⟩, fun ⟨b, hb⟩ => ?_⟩ Iff.rfl
        rcases List.mem_append.mp hb with hb | hb
        · exact absurd (hin _ hb).1.2 hx
        · exact ⟨b, hb⟩
    · refine List.pairwise_append.mpr ⟨?_, ?_, fun p hp q hq => beat _ _ (hin p hp).1.2 (oO q hq)⟩
      · have hs : (someC a l).Pairwise (· < ·) := h.filter _
        have hI : ∀ x ∈ someC a l, inC a x = true := fun x hx => (List.mem_filter.mp hx).2
        cases ef : a.fresh
        · simp only [Bool.false_eq_true, if_false]
          rw [List.pairwise_map]
          refine hs.imp_of_mem fun {x y} hx hy k => ?_
          have ix := hI x hx
          have iy := hI y hy
          rw [two_here (.inl ix), two_here (.inl iy)]
          have n1 : ¬ x = y := by omega
          have n2 : ¬ y = x := by omega
          have n3 : ¬ y < x := by omega
          simp [ix, iy, ef, n1, n2, k, n3]
        · simp only [if_true]
          rw [List.pairwise_map, List.pairwise_reverse]
          refine hs.imp_of_mem fun {x y} hx hy k => ?_
          have ix := hI x hx
          have iy := hI y hy
          rw [two_here (.inl ix), two_here (.inl iy)]
          have n1 : ¬ x = y := by omega
          have n2 : ¬ y = x := by omega
          have n3 : ¬ y < x := by omega
          simp [ix, iy, ef, n1, n2, k, n3]
      · refine ih.ord.imp_of_mem fun {p q} hp hq k => ?_
        rw [two_skip (oO p hp) (oO q hq), two_skip (oO q hq) (oO p hp)]
        exact k
    · rcases List.mem_append.mp hp with hp | hp
      · obtain ⟨⟨h1, h2⟩, h3⟩ := hin p hp
        rw [two_here (.inl h2), h3]
        simp [h2]
        cases a.first <;> simp
      · rw [two_skip (oO p hp) (oO p hp)]
        exact ih.sd p hp
    · have hy' := oL y hy
      rcases List.mem_append.mp hp with hp | hp
      · exact beat _ _ (hin p hp).1.2 hy'
      · rw [two_skip (oO p hp) hy', two_skip hy' (oO p hp)]
        exact ih.win p hp y hy
    · rw [two_skip (oL x hx) (oL y hy)]
      exact ih.lft x hx y hy
theorem rank_rk (r : List Cla) {l : List Int} (h : l.Pairwise (· < ·)) : Rk (two r) l (rank r l).1 (rank r l).2 := by
  have k := rk_of r l h
  unfold rank
  split
  · rename_i e
    obtain ⟨z, hz⟩ := List.length_eq_one_iff.mp e
    rw [hz] at k ⊢
    refine ⟨.nil, fun x => ?_, ?_, fun p hp => ?_, fun p _ y hy => (by cases hy), fun x hx => (by cases hx), by simp⟩
    · rw [k.mem x]
      simp only [List.mem_append, List.mem_singleton, List.headD_cons, List.not_mem_nil, or_false, Prod.mk.injEq]
      constructor
      · rintro (⟨b, hb⟩ | rfl)
        · exact ⟨b, .inl hb⟩
        · exact ⟨true, .inr ⟨rfl, rfl⟩⟩
      · rintro ⟨b, hb | ⟨rfl, _⟩⟩
        · exact .inl ⟨b, hb⟩
        · exact .inr rfl
    · refine List.pairwise_append.mpr ⟨k.ord, by simp, fun p hp q hq => ?_⟩
      cases List.mem_singleton.mp hq
      exact k.win p hp z (by simp)
    · rcases List.mem_append.mp hp with hp | hp
      · exact k.sd p hp
      · cases List.mem_singleton.mp hp
        have := k.lft z (by simp) z (by simp)
        simp [this]
  · rename_i e
    exact ⟨k.srt, k.mem, k.ord, k.sd, k.win, k.lft, e⟩
theorem rank_iff {r s : List Cla} {l : List Int} (h : l.Pairwise (· < ·)) : rank r l = rank s l ↔ ∀ x ∈ l, ∀ y ∈ l, two r x y = two s x y := by
  have hr := rank_rk r h
  have hs := rank_rk s h
  constructor
  · intro e x hx y hy
    rw [e] at hr
    exact rk_same hr hs hx hy
  · intro e
    obtain ⟨e1, e2⟩ := rk_eq hr hs e
    exact Prod.ext e1 e2
def rngI (n : Nat) : List Int := (List.range n).map fun (i : Nat) => (i : Int)
def encPr (p : Int × Bool) : D := .tup [.int p.1, .str (if p.2 then "first" else "last")]
def encRk (p : List (Int × Bool) × List Int) : D := .tup [.lst (p.1.map encPr), .lst (p.2.map .int)]
def fin2 (O : List (Int × Bool)) (L : List Int) : List (Int × Bool) × List Int := if L.length = 1 then (O ++ [(L.headD 0, true)], []) else (O, L)
theorem two_pick {r s : List Cla} {x y : Int} : two r x y = two s x y ↔ pickR r [x, y] = pickR s [x, y] := by
  have h1 : 0 ≤ pickR r [x, y] ∧ pickR r [x, y] < 2 := pickR_lt r [x, y] (by simp)
  have h2 : 0 ≤ pickR s [x, y] ∧ pickR s [x, y] < 2 := pickR_lt s [x, y] (by simp)
  unfold two
  constructor
  · intro h
    have h' : pickR r [x, y] = 1 ↔ pickR s [x, y] = 1 := by rw [← beq_iff_eq, h, beq_iff_eq]
    omega
  · intro h; rw [h]
theorem mem_rngI {n : Nat} {x : Int} : x ∈ rngI n ↔ 0 ≤ x ∧ x < n := by
  unfold rngI
  rw [List.mem_map]
  constructor
  · rintro ⟨a, ha, rfl⟩; have := List.mem_range.mp ha; omega
  · rintro ⟨h0, h1⟩; exact ⟨x.toNat, List.mem_range.mpr (by omega), by omega⟩
theorem rngI_srt {n : Nat} : (rngI n).Pairwise (· < ·) := by
  unfold rngI
  rw [List.pairwise_map]
  exact List.pairwise_lt_range.imp fun {a b} h => by omega
theorem apart_none {r s : List Cla} {n : Nat} : (apartL r s n).head?.isNone = true ↔ ∀ x ∈ rngI n, ∀ y ∈ rngI n, two r x y = two s x y := by
  rw [Option.isNone_iff_eq_none, List.head?_eq_none_iff]
  unfold apartL
  rw [List.filter_eq_nil_iff]
  constructor
  · intro h x hx y hy
    obtain ⟨x0, x1⟩ := mem_rngI.mp hx
    obtain ⟨y0, y1⟩ := mem_rngI.mp hy
    have := h (x, y) (mem_pairs.mpr ⟨x.toNat, y.toNat, by omega, by omega, by rw [Int.toNat_of_nonneg x0, Int.toNat_of_nonneg y0]⟩)
    rw [two_pick]
    simpa using this
  · intro h p hp
    obtain ⟨a, b, ha, hb, rfl⟩ := mem_pairs.mp hp
    have := two_pick.mp (h a (mem_rngI.mpr ⟨by omega, by omega⟩) b (mem_rngI.mpr ⟨by omega, by omega⟩))
    simpa using this
theorem rank_none {r s : List Cla} {n : Nat} : decide (rank r (rngI n) = rank s (rngI n)) = (apartL r s n).head?.isNone := by
  rw [Bool.eq_iff_iff, apart_none, decide_eq_true_iff]
  exact rank_iff rngI_srt
theorem apart_comm (r s : List Cla) (n : Nat) : apartL s r n = apartL r s n := by
  unfold apartL
  refine List.filter_congr fun p hp => ?_
  rw [Bool.beq_comm]
theorem same_pick {r s : List Cla} {n : Nat} {m : List Int} (h : ∀ x ∈ rngI n, ∀ y ∈ rngI n, two r x y = two s x y) (hm : ∀ x ∈ m, x ∈ rngI n) (hl : 0 < m.length) : pickR r m = pickR s m := by
  have hb := pickR_lt r m hl
  obtain ⟨k, hk⟩ : ∃ k : Nat, pickR r m = k := ⟨(pickR r m).toNat, by omega⟩
  have hkl : k < m.length := by omega
  have w := (wins_iff hkl).mpr hk
  have w2 : Wins s m k := fun q x y hx hy => by
    have := w q x y hx hy
    rw [← h _ (hm _ (List.mem_of_getElem? hy)) _ (hm _ (List.mem_of_getElem? hx)), ← h _ (hm _ (List.mem_of_getElem? hx)) _ (hm _ (List.mem_of_getElem? hy))]
    exact this
  rw [hk, pick_of_wins hkl w2]
@[simp] theorem deq_encP {p q : Int × Int} : deq (encP p) (encP q) = decide (p = q) := by
  obtain ⟨a, b⟩ := p
  obtain ⟨a', b'⟩ := q
  rw [Bool.eq_iff_iff]
  simp [encP]
@[simp] theorem deq_encO {p q : Option (Int × Int)} : deq (encO p) (encO q) = decide (p = q) := by
  rw [Bool.eq_iff_iff]
  cases p <;> cases q <;> simp [encO, encP, Prod.ext_iff]
@[simp] theorem deq_encPr {p q : Int × Bool} : deq (encPr p) (encPr q) = decide (p = q) := by
  obtain ⟨a, b⟩ := p
  obtain ⟨a', b'⟩ := q
  rw [Bool.eq_iff_iff]
  cases b <;> cases b' <;> simp [encPr]
theorem deqs_map {α : Type} [DecidableEq α] {f : α → D} (hf : ∀ a b, deq (f a) (f b) = decide (a = b)) : ∀ {xs ys : List α}, deqs (xs.map f) (ys.map f) = decide (xs = ys)
  | [], [] => by simp
  | [], y :: ys => by simp
  | x :: xs, [] => by simp
  | x :: xs, y :: ys => by
    rw [List.map_cons, List.map_cons, deqs_cons, hf, deqs_map hf, Bool.eq_iff_iff]
    simp
@[simp] theorem deq_encRk {p q : List (Int × Bool) × List Int} : deq (encRk p) (encRk q) = decide (p = q) := by
  obtain ⟨a, b⟩ := p
  obtain ⟨a', b'⟩ := q
  unfold encRk
  simp [deqs_map (f := encPr) fun _ _ => deq_encPr, deqs_map (f := D.int) fun _ _ => deq_int_int]
@[simp] theorem okM_encO {n : Nat} {p : Option (Int × Int)} : okM (n + 2) (encO p) = True := by cases p <;> simp [encO, encP]
@[simp] theorem okM_encRk {n : Nat} {p : List (Int × Bool) × List Int} : okM (n + 4) (encRk p) = True := by
  obtain ⟨a, b⟩ := p
  simp [encRk, encPr]
  rintro d x (⟨_, rfl⟩ | ⟨_, rfl⟩) <;> simp
theorem apart_self (r : List Cla) (n : Nat) : apartL r r n = [] := by
  unfold apartL
  rw [List.filter_eq_nil_iff]
  intro p hp
  simp
def rmA (u : Std) (i : Nat) : Nat := u.rooms.getD i 0
/-- the hours at which two walkers are apart -/
def apH (w : Wld) (s : Std) (i j : Nat) : List Nat := (List.range (trkN w s)).filter fun h => !(rmA (iterS w s h) i == rmA (iterS w s h) j)
def metH (w : Wld) (s : Std) (i j : Nat) : List Nat := (List.range (trkN w s)).filter fun h => rmA (iterS w s h) i == rmA (iterS w s h) j
def togD (L : List Nat) (a : Nat) : D := if L = [] then .int 0 else if L.getLastD 0 < a then natD (L.getLastD 0 + 1) else .non
theorem zip_filter (f : Nat → Std) (p : Std → Bool) : ∀ n, (((List.range n).map f).zipIdx.filter fun z => p z.1).map (·.2) = (List.range n).filter fun h => p (f h)
  | 0 => rfl
  | n + 1 => by
    rw [List.range_succ, List.map_append, List.zipIdx_append, List.filter_append, List.map_append, List.filter_append, zip_filter f p n]
    congr 1
    simp [List.filter_cons]
    split <;> simp
theorem filt_lt {p : Nat → Bool} {m : Nat} : ∀ {n : Nat}, m ≤ n → (∀ h, h < m → p h = true) → (∀ h, m ≤ h → h < n → p h = false) → (List.range n).filter p = List.range m
  | 0, hm, _, _ => by
    have : m = 0 := by omega
    subst this; rfl
  | n + 1, hm, h1, h2 => by
    by_cases e : m = n + 1
    · subst e
      exact List.filter_eq_self.mpr fun h hh => h1 h (by simpa using hh)
    · rw [List.range_succ, List.filter_append, filt_lt (by omega) h1 fun h a b => h2 h a (by omega)]
      simp [h2 n (by omega) (by omega)]
theorem least {p : Nat → Bool} {n : Nat} : (∀ h, h < n → p h = false) ∨ ∃ m, m < n ∧ p m = true ∧ ∀ h, h < m → p h = false := by
  induction n with
  | zero => exact .inl fun h hh => by omega
  | succ n ih =>
    rcases ih with h | ⟨m, a, b, d⟩
    · cases e : p n with
      | true => exact .inr ⟨n, by omega, e, h⟩
      | false =>
        refine .inl fun k hk => ?_
        by_cases ek : k = n
        · rw [ek]; exact e
        · exact h k (by omega)
    · exact .inr ⟨m, by omega, b, d⟩
theorem range_last {m : Nat} (h : 0 < m) : (List.range m).getLastD 0 = m - 1 := by
  obtain ⟨k, rfl⟩ : ∃ k, m = k + 1 := ⟨m - 1, by omega⟩
  rw [List.range_succ]; simp [List.getLastD_eq_getLast?]
theorem head_filter {p : Nat → Bool} : ∀ {n m : Nat}, m < n → p m = true → (∀ h, h < m → p h = false) → ((List.range n).filter p).head? = some m
  | 0, m, h, _, _ => by omega
  | n + 1, m, h, h1, h2 => by
    rw [List.range_succ, List.filter_append]
    by_cases e : m = n
    · subst e
      rw [List.filter_eq_nil_iff.mpr fun k hk => by simpa using h2 k (by simpa using hk)]
      simp [h1]
    · rw [List.head?_append, head_filter (by omega) h1 h2]; rfl
theorem meet_due {w : Wld} {s : Std} {i j a : Nat} (mono : ∀ h, rmA (iterS w s h) i = rmA (iterS w s h) j → rmA (iterS w s (h + 1)) i = rmA (iterS w s (h + 1)) j) (ea : trkA w s = some a) : togD (apH w s i j) a = encN (metH w s i j).head? := by
  obtain ⟨_, ha, _⟩ := trkA_some.mp ea
  have mono2 : ∀ k h, rmA (iterS w s h) i = rmA (iterS w s h) j → rmA (iterS w s (h + k)) i = rmA (iterS w s (h + k)) j := fun k h e => by
    induction k with
    | zero => exact e
    | succ k ih => exact mono _ ih
  rcases least (p := fun h => rmA (iterS w s h) i == rmA (iterS w s h) j) (n := trkN w s) with h | ⟨m, m1, m2, m3⟩
  · have e1 : apH w s i j = List.range (trkN w s) := filt_lt (Nat.le_refl _) (fun k hk => by simpa using h k hk) fun k a b => by omega
    have e2 : metH w s i j = [] := List.filter_eq_nil_iff.mpr fun k hk => by simpa using h k (by simpa using hk)
    rw [e1, e2]
    unfold togD
    rw [if_neg (by simp; omega), range_last (by omega), if_neg (by omega)]
    rfl
  · have m2 : rmA (iterS w s m) i = rmA (iterS w s m) j := by simpa using m2
    have e1 : apH w s i j = List.range m := filt_lt (by omega) (fun k hk => by simpa using m3 k hk) fun k a b => by
      have := mono2 (k - m) m m2
      rw [show m + (k - m) = k by omega] at this
      simp [this]
    have e2 : (metH w s i j).head? = some m := head_filter m1 (by simpa using m2) m3
    rw [e1, e2]
    unfold togD
    by_cases e0 : m = 0
    · subst e0; rfl
    · rw [if_neg (by simp; omega), range_last (by omega)]
      have : m - 1 < a := by
        by_cases c : m - 1 < a
        · exact c
        · have per := trk_per ea (m - 1) (by omega)
          have := mono2 (m - 1 + (trkN w s - a) - m) m m2
          rw [show m + (m - 1 + (trkN w s - a) - m) = m - 1 + (trkN w s - a) by omega, per] at this
          have := m3 (m - 1) (by omega)
          simp_all
      rw [if_pos this, show m - 1 + 1 = m by omega]; rfl
theorem meet_next {w : Wld} {u : Std} {i j : Nat} {r q : List Cla} (ok : w.ok) (ou : u.ok w) (hi : w.rules[i]? = some r) (hj : w.rules[j]? = some q) (h : ∀ x ∈ rngI (w.life + 1).toNat, ∀ y ∈ rngI (w.life + 1).toNat, two r x y = two q x y) (e : rmA u i = rmA u j) : rmA (nxt w u) i = rmA (nxt w u) j := by
  have li : i < w.rules.length := (List.getElem?_eq_some_iff.mp hi).1
  have lj : j < w.rules.length := (List.getElem?_eq_some_iff.mp hj).1
  have ki : i < u.rooms.length := by rw [ou.rl]; exact li
  have kj : j < u.rooms.length := by rw [ou.rl]; exact lj
  have gi : rmA (nxt w u) i = goal w u r (rmA u i) := by
    unfold rmA nxt
    simp [List.getD, List.getElem?_map, List.getElem?_zip_eq_some, hi, List.getElem?_eq_getElem ki, List.getElem?_zipWith, List.zip]
  have gj : rmA (nxt w u) j = goal w u q (rmA u j) := by
    unfold rmA nxt
    simp [List.getD, List.getElem?_map, List.getElem?_zip_eq_some, hj, List.getElem?_eq_getElem kj, List.getElem?_zipWith, List.zip]
  have hn : rmA u j < w.n := by
    refine ou.rm _ ?_
    unfold rmA
    rw [getD_of kj]; exact List.getElem_mem kj
  rw [gi, gj, e]
  unfold goal place
  congr 2
  have hrow := ok.row _ (List.getElem_mem hn)
  have m1 : ∀ x ∈ seen w u (rmA u j), x ∈ rngI (w.life + 1).toNat := fun x hx => by
    unfold seen at hx
    rw [getD_of hn] at hx
    obtain ⟨g, hg, rfl⟩ := List.mem_map.mp hx
    have hg := hrow.2.2 g hg
    have hgm : g < u.marks.length := by rw [ou.ml]; exact hg
    rw [getD_of hgm]
    have := ou.mr _ (List.getElem_mem hgm)
    exact mem_rngI.mpr ⟨this.1, by omega⟩
  have m2 : 0 < (seen w u (rmA u j)).length := by
    unfold seen
    rw [getD_of hn, List.length_map]
    exact hrow.1
  exact same_pick h m1 m2
theorem meet_all {w : Wld} {s : Std} {i j : Nat} {r q : List Cla} (ok : w.ok) (os : s.ok w) (hi : w.rules[i]? = some r) (hj : w.rules[j]? = some q) (h : (apartL r q (w.life + 1).toNat).head?.isNone = true) (k : Nat) (e : rmA (iterS w s k) i = rmA (iterS w s k) j) : rmA (iterS w s (k + 1)) i = rmA (iterS w s (k + 1)) j :=
  meet_next ok (iter_ok ok os k) hi hj (apart_none.mp h) e
theorem room_at {w : Wld} {u : Std} {i : Nat} (ou : u.ok w) (h : i < w.rules.length) : (u.rooms.map natD)[i]? = some (natD (rmA u i)) := by
  have k : i < u.rooms.length := by rw [ou.rl]; exact h
  rw [List.getElem?_map]
  unfold rmA
  rw [getD_of k, List.getElem?_eq_getElem k]; rfl
theorem at_last_nat {L : List Nat} (h : L ≠ []) : atI (L.map natD) (-1) = some (natD (L.getLastD 0)) := by
  rw [at_lastD (by simpa using h), List.getLast?_map]
  cases L with
  | nil => exact absurd rfl h
  | cons x xs => simp [List.getLast?_cons, List.getLastD_eq_getLast?]
theorem at_last_one {L : List Nat} {d : D} (h : L ≠ []) : atI (d :: L.map natD) (-1) = some (natD (L.getLastD 0)) := by
  have h2 := at_last_nat h
  rw [at_lastD (by simpa using h)] at h2
  rw [at_lastD (by simp), List.getLast?_cons, h2]
  rfl
theorem ap_filter {w : Wld} {s : Std} {i j : Nat} : ((((List.range (trkN w s)).map (iterS w s)).zipIdx.filter fun z => !(rmA z.1 i == rmA z.1 j)).map fun z => natD z.2) = (apH w s i j).map natD := by
  have := zip_filter (iterS w s) (fun u => !(rmA u i == rmA u j)) (trkN w s)
  unfold apH
  rw [← this, List.map_map]; rfl
theorem met_filter {w : Wld} {s : Std} {i j : Nat} : ((((List.range (trkN w s)).map (iterS w s)).zipIdx.filter fun z => rmA z.1 i == rmA z.1 j).map fun z => natD z.2) = (metH w s i j).map natD := by
  have := zip_filter (iterS w s) (fun u => rmA u i == rmA u j) (trkN w s)
  unfold metH
  rw [← this, List.map_map]; rfl
theorem mem_trk {w : Wld} {s : Std} {h : Nat} {u : Std} (hu : ((List.range (trkN w s)).map (iterS w s))[h]? = some u) : ∃ x, x < trkN w s ∧ u = iterS w s x := by
  have := List.mem_of_getElem? hu
  simp at this
  obtain ⟨x, hx, rfl⟩ := this
  exact ⟨x, hx, rfl⟩
theorem ap_len {w : Wld} {s : Std} {i j : Nat} : (apH w s i j).length ≤ 801 := Nat.le_trans (List.length_filter_le _ _) (by simpa using trk_le)
theorem met_len {w : Wld} {s : Std} {i j : Nat} : (metH w s i j).length ≤ 801 := Nat.le_trans (List.length_filter_le _ _) (by simpa using trk_le)
theorem togD_cases (L : List Nat) (a : Nat) : (∃ n : Nat, togD L a = natD n) ∨ togD L a = .non := by
  unfold togD
  split
  · exact .inl ⟨0, rfl⟩
  · split
    · exact .inl ⟨_, rfl⟩
    · exact .inr rfl
@[simp] theorem okM_togD {n a : Nat} {L : List Nat} : okM n (togD L a) = True := by
  rcases togD_cases L a with ⟨k, e⟩ | e <;> rw [e] <;> simp
@[simp] theorem deq_togD {a : Nat} {L : List Nat} : deq (togD L a) (togD L a) = true := by
  rcases togD_cases L a with ⟨k, e⟩ | e <;> rw [e] <;> simp
@[simp] theorem pln_togD {a : Nat} {L : List Nat} : pln (togD L a) = true := by
  rcases togD_cases L a with ⟨k, e⟩ | e <;> rw [e] <;> simp
theorem ap_comm {w : Wld} {s : Std} {i j : Nat} : apH w s j i = apH w s i j := by
  unfold apH
  refine List.filter_congr fun h _ => ?_
  rw [Bool.beq_comm]
theorem at_met {L : List Nat} : atI (L.map natD ++ [D.non]) 0 = some (encN L.head?) := by
  cases L with
  | nil => rfl
  | cons x xs =>
    have := atI_nat (xs := (x :: xs).map natD ++ [D.non]) (i := 0)
    simpa using this
theorem bnd2 {w : Wld} (ok : w.ok) : 1 ≤ (w.ways.length : Int) ∧ (w.ways.length : Int) ≤ 8 ∧ 1 ≤ w.life ∧ w.life ≤ 6 ∧ (w.rules.length : Int) ≤ 3 := by
  have h1 := ok.n1
  have h8 := ok.n8
  have h3 := ok.k3
  unfold Wld.n at h1 h8
  exact ⟨by omega, by omega, ok.l1, ok.l6, by omega⟩
theorem stD_rooms {w : Wld} {rs : List Nat} : stD w (.tup (rs.map natD)) = false := by
  match rs with
  | [] => rfl
  | [a] => rfl
  | [a, b] => rfl
  | a :: b :: d :: r => rfl
def s_with_mark (c : Cl) : AS := fun ds Q R => match ds with
  | [d, t, .int r] => ∃ w : Wld, d = encW c.World w ∧ ∃ s : Std, t = encS s ∧ 0 ≤ r ∧ s.marks.length ≤ 8 ∧ Q (encS (putS w s r.toNat))
  | _ => False
@[simp ↓] theorem s_with_mark_ {c : Cl} {d t : D} {r : Int} {Q : D → Prop} {R : EX → Prop} : @caK (s_with_mark c) [d, t, .int r] ⟨Q⟩ ⟨R⟩ = (∃ w : Wld, d = encW c.World w ∧ ∃ s : Std, t = encS s ∧ 0 ≤ r ∧ s.marks.length ≤ 8 ∧ Q (encS (putS w s r.toNat))) := (rfl)
def w_with_mark (c : Cl) : WS :=
    (wsC (wAsg (wVar 1) (gT (gs1 (gN 3) (gs1 (gN 4) gs0))))
    (wRet (wTup (wCons (wVar 3) (wCons (wOp oAdd (wOp oAdd (wCut (wVar 4) wNo (wSo (wVar 2))) (wTup (wCons (wFld c.World "lasting" (wVar 0)) wNil))) (wCut (wVar 4) (wSo (wOp oAdd (wVar 2) (wC (.int 1)))) wNo)) wNil)))))
theorem sc_with_mark : FnScope ["world", "stand", "room", "rooms", "marks"] ["world", "stand", "room"] (defScope (topS 39)) := ⟨rfl, rfl, rfl, by decide +kernel, rfl, by decide +kernel, by decide +kernel⟩
theorem d_with_mark (c : Cl) (T : Txt c mg base) : HB P TabC.w c.K mg base 0 "with_mark" (topS 39) ["world", "stand", "room", "rooms", "marks"] (w_with_mark c) := fun f cdv A outer s H E hr tk hp => by
    have S := sc_with_mark
    exact
      (dss_cons (ds_asg (de_var 1) (dg_tup rfl (dgs_cons (dg_name 3 S.nd) (dgs_cons (dg_name 4 S.nd) dgs_nil)) (n := 2) rfl (gs_len1 (gs_len1 gs_len0))))
      (dss_one (ds_ret (de_tup (da_cons (de_var 3) (da_cons (de_add ((de_add ((de_cut ((de_var 4)).dl do_no (do_so (de_var 2)))).dl ((de_tup (da_cons (de_fld T.cls_World T.nf_World_lasting (de_var 0)) da_nil))).dl)).dl ((de_cut ((de_var 4)).dl (do_so (de_add ((de_var 2)).dl ((de_int)).dl)) do_no)).dl) da_nil))))))
theorem h_with_mark (c : Cl) (X : Xs c) (ds : List D) (Q : D → Prop) (R : EX → Prop) (h : s_with_mark c ds Q R) : ds.length = 3 ∧ w_with_mark c (fun ex _ => R ex) ⟨fun _ => Q .non, fun _ => Q, fun _ => False, fun _ => False⟩ (slots0 ["world", "stand", "room", "rooms", "marks"] ["world", "stand", "room"] ds) := by
  unfold s_with_mark at h
  split at h
  · rename_i d t r
    refine ⟨rfl, ?_⟩
    obtain ⟨w, rfl, s, rfl, r0, hm, h⟩ := h
    simp [w_with_mark]
    rw [cut_take r0, cut_drop (show (0 : Int) ≤ r + 1 by omega)]
    refine ⟨by simp; omega, by simp; omega, ?_⟩
    have e : (r + 1).toNat = r.toNat + 1 := by omega
    simpa [putS, encS, e] using h
  · exact h.elim
theorem ok_with_mark (c : Cl) (T : Txt c mg base) : Good P TabC.w c.K mg base 1 "with_mark" ["world", "stand", "room"] (spV c.K (s_with_mark c)) := goodV T.f_with_mark sc_with_mark (d_with_mark c T) fun ds Q R h => h_with_mark c T.X ds Q R h
/-! put -/
def s_put (c : Cl) : AS := fun ds Q R => match ds with
  | [d, t, r] => ∃ w : Wld, d = encW c.World w ∧ w.ok ∧ pln t = true ∧ noIns r = true ∧ if stD w t = true then (if whD 0 ((w.n : Int) - 1) r = true then @optK _ (stdOf t) ⟨fun s => @optK _ (intD r) ⟨fun x => Q (encS (putS w s x.toNat))⟩⟩ else R ⟨c.NoRoom, [], []⟩) else R ⟨c.NoStand, [], []⟩
  | _ => False
@[simp ↓] theorem s_put_ {c : Cl} {d t r : D} {Q : D → Prop} {R : EX → Prop} : @caK (s_put c) [d, t, r] ⟨Q⟩ ⟨R⟩ = (∃ w : Wld, d = encW c.World w ∧ w.ok ∧ pln t = true ∧ noIns r = true ∧ if stD w t = true then (if whD 0 ((w.n : Int) - 1) r = true then @optK _ (stdOf t) ⟨fun s => @optK _ (intD r) ⟨fun x => Q (encS (putS w s x.toNat))⟩⟩ else R ⟨c.NoRoom, [], []⟩) else R ⟨c.NoStand, [], []⟩) := (rfl)
def w_put (c : Cl) : WS :=
    (wsC (wDrop (wCall (s_sure_stand c) (wCons (wVar 0) (wCons (wVar 1) wNil))))
    (wsC (wDrop (wCall (s_sure_room c) (wCons (wVar 0) (wCons (wVar 2) wNil))))
    (wRet (wCall (s_with_mark c) (wCons (wVar 0) (wCons (wVar 1) (wCons (wVar 2) wNil)))))))
theorem sc_put : FnScope ["world", "stand", "room"] ["world", "stand", "room"] (defScope (topS 41)) := ⟨rfl, rfl, rfl, by decide +kernel, rfl, by decide +kernel, by decide +kernel⟩
theorem d_put (c : Cl) (T : Txt c mg base) : HB P TabC.w c.K mg base 5 "put" (topS 41) ["world", "stand", "room"] (w_put c) := fun f cdv A outer s H E hr tk hp => by
    have S := sc_put
    exact
      (dss_cons (ds_expr (dc (ok_sure_stand c T) hr (by decide) tk (da_cons (de_var 0) (da_cons (de_var 1) da_nil))))
      (dss_cons (ds_expr (dc (ok_sure_room c T) hr (by decide) tk (da_cons (de_var 0) (da_cons (de_var 2) da_nil))))
      (dss_one (ds_ret (dc (ok_with_mark c T) hr (by decide) tk (da_cons (de_var 0) (da_cons (de_var 1) (da_cons (de_var 2) da_nil))))))))
theorem h_put (c : Cl) (X : Xs c) (ds : List D) (Q : D → Prop) (R : EX → Prop) (h : s_put c ds Q R) : ds.length = 3 ∧ w_put c (fun ex _ => R ex) ⟨fun _ => Q .non, fun _ => Q, fun _ => False, fun _ => False⟩ (slots0 ["world", "stand", "room"] ["world", "stand", "room"] ds) := by
  unfold s_put at h
  split at h
  · rename_i d t r
    refine ⟨rfl, ?_⟩
    obtain ⟨w, rfl, ok, h0, h1, h⟩ := h
    simp [w_put, h0, h1]
    by_cases e : stD w t = true
    · obtain ⟨s, rfl, os⟩ := stD_dec e
      by_cases e2 : whD 0 ((w.n : Int) - 1) r = true
      · obtain ⟨x, rfl, x0, x1⟩ := whD_of e2
        have n8 := ok.n8
        have ml := os.ml
        simp [e, e2] at h ⊢
        exact ⟨x0, by omega, h⟩
      · simp [e, e2] at h ⊢; exact h
    · simp [e] at h ⊢; exact h
  · exact h.elim
theorem ok_put (c : Cl) (T : Txt c mg base) : Good P TabC.w c.K mg base 6 "put" ["world", "stand", "room"] (spV c.K (s_put c)) := goodV T.f_put sc_put (d_put c T) fun ds Q R h => h_put c T.X ds Q R h
/-! run -/
def s_run (c : Cl) : AS := fun ds Q R => match ds with
  | [d, t, n] => ∃ w : Wld, d = encW c.World w ∧ w.ok ∧ pln t = true ∧ pln n = true ∧ if stD w t = true then (if whD 0 400 n = true then @optK _ (stdOf t) ⟨fun s => @optK _ (intD n) ⟨fun k => Q (.lst ((List.range (k.toNat + 1)).map fun i => encS (iterS w s i)))⟩⟩ else R ⟨c.NoCount, [], []⟩) else R ⟨c.NoStand, [], []⟩
  | _ => False
@[simp ↓] theorem s_run_ {c : Cl} {d t n : D} {Q : D → Prop} {R : EX → Prop} : @caK (s_run c) [d, t, n] ⟨Q⟩ ⟨R⟩ = (∃ w : Wld, d = encW c.World w ∧ w.ok ∧ pln t = true ∧ pln n = true ∧ if stD w t = true then (if whD 0 400 n = true then @optK _ (stdOf t) ⟨fun s => @optK _ (intD n) ⟨fun k => Q (.lst ((List.range (k.toNat + 1)).map fun i => encS (iterS w s i)))⟩⟩ else R ⟨c.NoCount, [], []⟩) else R ⟨c.NoStand, [], []⟩) := (rfl)
def w_run (c : Cl) : WS :=
    (wsC (wDrop (wCall (s_sure_stand c) (wCons (wVar 0) (wCons (wVar 1) wNil))))
    (wsC (wIfS (wNotT (wTru (wCall (s_is_whole c) (wCons (wVar 2) (wCons (wC (.int 0)) (wCons (wC (.int 400)) wNil))))))
    (wRai c.NoCount)
    ws0)
    (wsC (wNew 3 (wLst (wCons (wVar 1) wNil)))
    (wsC (wFor (wRng1 (wCons (wVar 2) wNil)) (gN 4)
    (wApp 3 (wCall (s_behind c) (wCons (wVar 0) (wCons (wOp oIx (wOwn 3) (wUn oNeg (wC (.int 1)))) wNil)))))
    (wMove 3 (wRet (wVar 3)))))))
theorem sc_run : FnScope ["world", "stand", "many", "found", "k"] ["world", "stand", "many"] (defScope (topS 35)) := ⟨rfl, rfl, rfl, by decide +kernel, rfl, by decide +kernel, by decide +kernel⟩
theorem d_run (c : Cl) (T : Txt c mg base) : HB P TabC.w c.K mg base 5 "run" (topS 35) ["world", "stand", "many", "found", "k"] (w_run c) := fun f cdv A outer s H E hr tk hp => by
    have S := sc_run
    exact
      (dss_cons (ds_expr (dc (ok_sure_stand c T) hr (by decide) tk (da_cons (de_var 0) (da_cons (de_var 1) da_nil))))
      (dss_cons (ds_if (dt_not (dt_truth ((dc (ok_is_whole c T) hr (by decide) tk (da_cons (de_var 2) (da_cons (de_int) (da_cons (de_gint T.g_MOST_RUN) da_nil))))).dl))
      (dss_one (ds_raise rfl tk T.x_NoCount T.xi_NoCount (by rfl)))
      dss_nil)
      (dss_cons (ds_new 3 S.nd (dn_lst (da_cons (de_var 1) da_nil)))
      (dss_cons (ds_for hp rfl (di_range1 (by rfl) T.b_range (da_cons (de_var 2) da_nil)) (dg_name 4 S.nd)
      (dss_one (ds_app 3 (dc (ok_behind c T) hr (by decide) tk (da_cons (de_var 0) (da_cons (de_ix (dl_own 3) (de_neg ((de_int)).dl)) da_nil))))))
      (dss_one (ds_move 3 (ds_ret (de_var 3))))))))
theorem h_run (c : Cl) (X : Xs c) (ds : List D) (Q : D → Prop) (R : EX → Prop) (h : s_run c ds Q R) : ds.length = 3 ∧ w_run c (fun ex _ => R ex) ⟨fun _ => Q .non, fun _ => Q, fun _ => False, fun _ => False⟩ (slots0 ["world", "stand", "many", "found", "k"] ["world", "stand", "many"] ds) := by
  unfold s_run at h
  split at h
  · rename_i d t n
    refine ⟨rfl, ?_⟩
    obtain ⟨w, rfl, ok, hp, hn, h⟩ := h
    simp [w_run, hp, pln_no hn]
    by_cases e : stD w t = true
    · obtain ⟨s, rfl, os⟩ := stD_dec e
      by_cases e2 : whD 0 400 n = true
      · obtain ⟨k, rfl, k0, k4⟩ := whD_of e2
        simp [e, e2] at h ⊢
        refine ⟨⟨by omega, by omega⟩, ?_⟩
        rw [rngL_enc]
        refine for_done _ (List.range k.toNat) (fun p ρ => ∃ s4, ρ = [.val (encW c.World w), .val (encS s), .val (.int k), .own none (((List.range p.length).map fun i => encS (iterS w s i)) ++ [encS (iterS w s p.length)]), s4]) (fun p z r ρ nx he hI ih => ?_) (fun ρ hI => ?_) _ ⟨_, rfl⟩
        · obtain ⟨s4, rfl⟩ := hI
          have hl : p.length < k.toNat := by
            have := congrArg List.length he
            simp at this; omega
          simp [ok, iter_ok ok os]
          refine ⟨by omega, ih _ ⟨_, by simp [List.range_succ, iterS]; rfl⟩⟩
        · obtain ⟨s4, rfl⟩ := hI
          simp
          simpa [List.range_succ] using h
      · simp [e, e2] at h ⊢; exact h
    · simp [e] at h ⊢; exact h
  · exact h.elim
theorem ok_run (c : Cl) (T : Txt c mg base) : Good P TabC.w c.K mg base 6 "run" ["world", "stand", "many"] (spV c.K (s_run c)) := goodV T.f_run sc_run (d_run c T) fun ds Q R h => h_run c T.X ds Q R h
/-! law -/
def w_law (c : Cl) : WS :=
    (wsC (wFor (wRng1 (wCons (wB bMax (wCons (wC (.int 1)) (wCons (wB bMin (wCons (wC (.int 5)) (wCons (wB bLen (wCons (wVar 0) wNil)) wNil))) wNil))) wNil)) (gN 1)
    (wsC (wStt 2 (wLst (wCons (wOp oAdd (wCall (s__law_cell_at c) (wCons (wVar 0) (wCons (wVar 1) wNil))) (wOp oMul (wC (.int 151)) (wVar 1))) wNil)))
    (wsC (wAsg (wCallS 2 (s__law_parts c) (wCons (wC (.int 8)) (wCons (wC (.int 6)) (wCons (wC (.int 3)) wNil)))) (gT (gs1 (gN 3) (gs1 (gN 4) (gs1 (gN 5) gs0)))))
    (wsC (wSet 6 (wMk (s_World___init__ c) (wCons (wVar 3) (wCons (wVar 4) (wCons (wVar 5) wNil)))))
    (wsC (wSet 7 (wCallS 2 (s__law_stand c) (wCons (wB bLen (wCons (wVar 3) wNil)) (wCons (wVar 4) (wCons (wB bLen (wCons (wVar 5) wNil)) wNil)))))
    (wsC (wSet 8 (wCall (s_run c) (wCons (wVar 6) (wCons (wVar 7) (wCons (wOp oAdd (wVar 4) (wC (.int 12))) wNil)))))
    (wsC (wFor (wRng1 (wCons (wC (.int 4)) wNil)) (gN 9)
    (wsC (wSet 10 (wCallS 2 (s__law_digit c) (wCons (wB bLen (wCons (wVar 3) wNil)) wNil)))
    (wsC (wSet 11 (wCall (s_looked c) (wCons (wVar 6) (wCons (wVar 7) (wCons (wVar 10) wNil)))))
    (wsC (wIfS (wOrT (wTest (wOp oNe (wVar 11) (wCall (s__law_due c) (wCons (wVar 3) (wCons (wVar 4) (wCons (wVar 8) (wCons (wVar 10) wNil))))))) (wTru (wIsi .bool (wVar 11))))
    (wRet (wC (.bl false)))
    ws0)
    (wsC (wSet 12 (wCallS 2 (s__law_digit c) (wCons (wOp oAdd (wVar 4) (wC (.int 1))) wNil)))
    (wsC (wSet 13 (wTup (wCons (wOp oIx (wVar 7) (wC (.int 0))) (wCons (wOp oAdd (wOp oAdd (wCut (wOp oIx (wVar 7) (wC (.int 1))) wNo (wSo (wVar 10))) (wTup (wCons (wVar 4) wNil))) (wCut (wOp oIx (wVar 7) (wC (.int 1))) (wSo (wOp oAdd (wVar 10) (wC (.int 1)))) wNo)) wNil))))
    (wsC (wSet 14 (wTup (wCons (wOp oIx (wVar 7) (wC (.int 0))) (wCons (wOp oAdd (wOp oAdd (wCut (wOp oIx (wVar 7) (wC (.int 1))) wNo (wSo (wVar 10))) (wTup (wCons (wVar 12) wNil))) (wCut (wOp oIx (wVar 7) (wC (.int 1))) (wSo (wOp oAdd (wVar 10) (wC (.int 1)))) wNo)) wNil))))
    (wsC (wIfS (wOrT (wTest (wOp oNe (wCall (s_put c) (wCons (wVar 6) (wCons (wVar 7) (wCons (wVar 10) wNil)))) (wVar 13))) (wTest (wOp oNe (wCall (s_put c) (wCons (wVar 6) (wCons (wVar 14) (wCons (wVar 10) wNil)))) (wVar 13))))
    (wRet (wC (.bl false)))
    ws0)
    (wFor (wSeq (wLst (wCons (wVar 13) (wCons (wVar 14) wNil)))) (gN 15)
    (wIfS (wNotT (wTru (wCall (s__law_alike c) (wCons (wVar 6) (wCons (wVar 4) (wCons (wVar 8) (wCons (wCall (s_run c) (wCons (wVar 6) (wCons (wVar 15) (wCons (wOp oAdd (wVar 4) (wC (.int 12))) wNil)))) (wCons (wVar 11) wNil))))))))
    (wRet (wC (.bl false)))
    ws0))))))))))
    (wsC (wSet 16 (wOp oIx (wLst (wCons (wB bLen (wCons (wVar 3) wNil)) (wCons (wUn oNeg (wC (.int 1))) (wCons (wC (.bl true)) (wCons (wC .non) (wCons (wC (.str "0")) (wCons (wTup (wCons (wC (.int 0)) wNil)) (wCons (wOp oPow (wC (.int 10)) (wC (.int 30))) wNil)))))))) (wCallS 2 (s__law_digit c) (wCons (wC (.int 7)) wNil))))
    (wFor2 17 c.fa_looked c.fa_put
    (wsC (wIfS (wTest (wOp oNe (wLam (s__law_said c) (wCallFn 17 c.fa_looked (s_looked c) (wCons (wVar 6) (wCons (wVar 7) (wCons (wVar 16) wNil))))) (wC (.str "room"))))
    (wRet (wC (.bl false)))
    ws0)
    (wIfS (wTest (wOp oNe (wLam (s__law_said c) (wCallFn 17 c.fa_looked (s_looked c) (wCons (wVar 6) (wCons (wOp oIx (wVar 7) (wC (.int 0))) (wCons (wVar 16) wNil))))) (wC (.str "stand"))))
    (wRet (wC (.bl false)))
    ws0))
    (wsC (wIfS (wTest (wOp oNe (wLam (s__law_said c) (wCallFn 17 c.fa_put (s_put c) (wCons (wVar 6) (wCons (wVar 7) (wCons (wVar 16) wNil))))) (wC (.str "room"))))
    (wRet (wC (.bl false)))
    ws0)
    (wIfS (wTest (wOp oNe (wLam (s__law_said c) (wCallFn 17 c.fa_put (s_put c) (wCons (wVar 6) (wCons (wOp oIx (wVar 7) (wC (.int 0))) (wCons (wVar 16) wNil))))) (wC (.str "stand"))))
    (wRet (wC (.bl false)))
    ws0)))))))))))
    (wRet (wC (.bl true))))
theorem sc_law : FnScope ["_law_script", "_law_k", "_law_state", "_law_ways", "_law_life", "_law_rules", "_law_world", "_law_stand_here", "_law_track", "_law_turn", "_law_room", "_law_hour", "_law_mark", "_law_fresh", "_law_other", "_law_one", "_law_odd", "_law_ask"] ["_law_script"] (defScope (topS 54)) := ⟨rfl, rfl, rfl, by decide +kernel, rfl, by decide +kernel, by decide +kernel⟩
theorem d_law (c : Cl) (T : Txt c mg base) : HBC P TabC.w c.K mg base 9 "law" (topS 54) ["_law_script", "_law_k", "_law_state", "_law_ways", "_law_life", "_law_rules", "_law_world", "_law_stand_here", "_law_track", "_law_turn", "_law_room", "_law_hour", "_law_mark", "_law_fresh", "_law_other", "_law_one", "_law_odd", "_law_ask"] c.cd_law (w_law c) := fun f A outer s H E hr tk hp => by
    have S := sc_law
    exact
      (dss_cons (ds_for hp rfl (di_range1 (by rfl) T.b_range (da_cons (de_callB ca_max2 (call_max2 rfl) (by rfl) T.b_max (dal_cons ((de_int)).dl (dal_cons ((de_callB ca_min2 (call_min2 rfl) (by rfl) T.b_min (dal_cons ((de_int)).dl (dal_cons ((de_callB ca_len call_len_seq (by rfl) T.b_len (dal_cons ((de_var 0)).dl dal_nil))).dl dal_nil)))).dl dal_nil))) da_nil)) (dg_name 1 S.nd)
      (dss_cons (ds_stt 2 S.nd (dn_lst (da_cons (de_add ((dc (ok__law_cell_at c T) hr (by decide) tk (da_cons (de_var 0) (da_cons (de_var 1) da_nil)))).dl ((de_mul ((de_int)).dl ((de_var 1)).dl)).dl) da_nil)))
      (dss_cons (ds_asg (dcS 2 (ok__law_parts c T) hr (by decide) tk (da_cons (de_int) (da_cons (de_int) (da_cons (de_int) da_nil)))) (dg_tup rfl (dgs_cons (dg_name 3 S.nd) (dgs_cons (dg_name 4 S.nd) (dgs_cons (dg_name 5 S.nd) dgs_nil))) (n := 3) rfl (gs_len1 (gs_len1 (gs_len1 gs_len0)))))
      (dss_cons (ds_set 6 S.nd (de_make (ok_World___init__ c T) hr (by decide) T.m_World tk (da_cons (de_var 3) (da_cons (de_var 4) (da_cons (de_var 5) da_nil)))))
      (dss_cons (ds_set 7 S.nd (dcS 2 (ok__law_stand c T) hr (by decide) tk (da_cons (de_callB ca_len call_len_seq (by rfl) T.b_len (dal_cons ((de_var 3)).dl dal_nil)) (da_cons (de_var 4) (da_cons (de_callB ca_len call_len_seq (by rfl) T.b_len (dal_cons ((de_var 5)).dl dal_nil)) da_nil)))))
      (dss_cons (ds_set 8 S.nd (dc (ok_run c T) hr (by decide) tk (da_cons (de_var 6) (da_cons (de_var 7) (da_cons (de_add ((de_var 4)).dl ((de_int)).dl) da_nil)))))
      (dss_cons (ds_for hp rfl (di_range1 (by rfl) T.b_range (da_cons (de_int) da_nil)) (dg_name 9 S.nd)
      (dss_cons (ds_set 10 S.nd (dcS 2 (ok__law_digit c T) hr (by decide) tk (da_cons (de_callB ca_len call_len_seq (by rfl) T.b_len (dal_cons ((de_var 3)).dl dal_nil)) da_nil)))
      (dss_cons (ds_set 11 S.nd (dc (ok_looked c T) hr (by decide) tk (da_cons (de_var 6) (da_cons (de_var 7) (da_cons (de_var 10) da_nil)))))
      (dss_cons (ds_if (dw_or (dt_cmp (cmp_ne (hu64 hr)) ((de_var 11)).dl ((dc (ok__law_due c T) hr (by decide) tk (da_cons (de_var 3) (da_cons (de_var 4) (da_cons (de_var 8) (da_cons (de_var 10) da_nil)))))).dl) (dw_or1 (dt_truth ((de_isi (T := .bool) (by rfl) T.b_isinstance (by rfl) T.b_bool ((de_var 11)).dl)).dl))).dt
      (dss_one (ds_ret (de_bl)))
      dss_nil)
      (dss_cons (ds_set 12 S.nd (dcS 2 (ok__law_digit c T) hr (by decide) tk (da_cons (de_add ((de_var 4)).dl ((de_int)).dl) da_nil)))
      (dss_cons (ds_set 13 S.nd (de_tup (da_cons (de_ix ((de_var 7)).dl (de_int)) (da_cons (de_add ((de_add ((de_cut ((de_ix ((de_var 7)).dl (de_int))).dl do_no (do_so (de_var 10)))).dl ((de_tup (da_cons (de_var 4) da_nil))).dl)).dl ((de_cut ((de_ix ((de_var 7)).dl (de_int))).dl (do_so (de_add ((de_var 10)).dl ((de_int)).dl)) do_no)).dl) da_nil))))
      (dss_cons (ds_set 14 S.nd (de_tup (da_cons (de_ix ((de_var 7)).dl (de_int)) (da_cons (de_add ((de_add ((de_cut ((de_ix ((de_var 7)).dl (de_int))).dl do_no (do_so (de_var 10)))).dl ((de_tup (da_cons (de_var 12) da_nil))).dl)).dl ((de_cut ((de_ix ((de_var 7)).dl (de_int))).dl (do_so (de_add ((de_var 10)).dl ((de_int)).dl)) do_no)).dl) da_nil))))
      (dss_cons (ds_if (dw_or (dt_cmp (cmp_ne (hu64 hr)) ((dc (ok_put c T) hr (by decide) tk (da_cons (de_var 6) (da_cons (de_var 7) (da_cons (de_var 10) da_nil))))).dl ((de_var 13)).dl) (dw_or1 (dt_cmp (cmp_ne (hu64 hr)) ((dc (ok_put c T) hr (by decide) tk (da_cons (de_var 6) (da_cons (de_var 14) (da_cons (de_var 10) da_nil))))).dl ((de_var 13)).dl))).dt
      (dss_one (ds_ret (de_bl)))
      dss_nil)
      (dss_one (ds_for hp rfl (di_seq ((dn_lst (da_cons (de_var 13) (da_cons (de_var 14) da_nil)))).de) (dg_name 15 S.nd)
      (dss_one (ds_if (dt_not (dt_truth ((dc (ok__law_alike c T) hr (by decide) tk (da_cons (de_var 6) (da_cons (de_var 4) (da_cons (de_var 8) (da_cons (dc (ok_run c T) hr (by decide) tk (da_cons (de_var 6) (da_cons (de_var 15) (da_cons (de_add ((de_var 4)).dl ((de_int)).dl) da_nil)))) (da_cons (de_var 11) da_nil))))))).dl))
      (dss_one (ds_ret (de_bl)))
      dss_nil))))))))))))
      (dss_cons (ds_set 16 S.nd (de_ix ((dn_lst (da_cons (de_callB ca_len call_len_seq (by rfl) T.b_len (dal_cons ((de_var 3)).dl dal_nil)) (da_cons (de_neg ((de_int)).dl) (da_cons (de_bl) (da_cons (de_non) (da_cons (de_str) (da_cons (de_tup (da_cons (de_int) da_nil)) (da_cons (de_pow ((de_int)).dl ((de_int)).dl) da_nil))))))))).de.dl (dcS 2 (ok__law_digit c T) hr (by decide) tk (da_cons (de_int) da_nil))))
      (dss_one (ds_for2 17 hp rfl (by exact T.fa_looked) (by exact T.fa_put) S.nd
      (dss_cons (ds_if (dt_cmp (cmp_ne (hu64 hr)) ((de_lam (ok__law_said c T) (kb := 6) hr (by decide) (by decide) T.tb_law rfl (by rw [T.tt]; exact (.head _)) (fun p hp e => T.tu p hp (_, _) (by rw [T.tt]; exact (.head _)) e) (fun _ _ _ _ _ _ _ hr2 tk2 => (dcFn 17 (ok_looked c T) (by exact T.fa_looked) hr2 (by decide) tk2 (da_cons (de_var 6) (da_cons (de_var 7) (da_cons (de_var 16) da_nil))))) (LamX.lamS_by (sc := defScope (topS 54)) (by decide +kernel)))).dl ((de_str)).dl)
      (dss_one (ds_ret (de_bl)))
      dss_nil)
      (dss_one (ds_if (dt_cmp (cmp_ne (hu64 hr)) ((de_lam (ok__law_said c T) (kb := 6) hr (by decide) (by decide) T.tb_law rfl (by rw [T.tt]; exact (.head _)) (fun p hp e => T.tu p hp (_, _) (by rw [T.tt]; exact (.head _)) e) (fun _ _ _ _ _ _ _ hr2 tk2 => (dcFn 17 (ok_looked c T) (by exact T.fa_looked) hr2 (by decide) tk2 (da_cons (de_var 6) (da_cons (de_ix ((de_var 7)).dl (de_int)) (da_cons (de_var 16) da_nil))))) (LamX.lamS_by (sc := defScope (topS 54)) (by decide +kernel)))).dl ((de_str)).dl)
      (dss_one (ds_ret (de_bl)))
      dss_nil)))
      (dss_cons (ds_if (dt_cmp (cmp_ne (hu64 hr)) ((de_lam (ok__law_said c T) (kb := 6) hr (by decide) (by decide) T.tb_law rfl (by rw [T.tt]; exact (.head _)) (fun p hp e => T.tu p hp (_, _) (by rw [T.tt]; exact (.head _)) e) (fun _ _ _ _ _ _ _ hr2 tk2 => (dcFn 17 (ok_put c T) (by exact T.fa_put) hr2 (by decide) tk2 (da_cons (de_var 6) (da_cons (de_var 7) (da_cons (de_var 16) da_nil))))) (LamX.lamS_by (sc := defScope (topS 54)) (by decide +kernel)))).dl ((de_str)).dl)
      (dss_one (ds_ret (de_bl)))
      dss_nil)
      (dss_one (ds_if (dt_cmp (cmp_ne (hu64 hr)) ((de_lam (ok__law_said c T) (kb := 6) hr (by decide) (by decide) T.tb_law rfl (by rw [T.tt]; exact (.head _)) (fun p hp e => T.tu p hp (_, _) (by rw [T.tt]; exact (.head _)) e) (fun _ _ _ _ _ _ _ hr2 tk2 => (dcFn 17 (ok_put c T) (by exact T.fa_put) hr2 (by decide) tk2 (da_cons (de_var 6) (da_cons (de_ix ((de_var 7)).dl (de_int)) (da_cons (de_var 16) da_nil))))) (LamX.lamS_by (sc := defScope (topS 54)) (by decide +kernel)))).dl ((de_str)).dl)
      (dss_one (ds_ret (de_bl)))
      dss_nil)))))))))))))
      (dss_one (ds_ret (de_bl))))
theorem h_law (c : Cl) (X : Xs c) (ds : List D) (Q : D → Prop) (R : EX → Prop) (h : φLaw ds Q R) : ds.length = 1 ∧ w_law c (fun ex _ => R ex) ⟨fun _ => Q .non, fun _ => Q, fun _ => False, fun _ => False⟩ (slots0 ["_law_script", "_law_k", "_law_state", "_law_ways", "_law_life", "_law_rules", "_law_world", "_law_stand_here", "_law_track", "_law_turn", "_law_room", "_law_hour", "_law_mark", "_law_fresh", "_law_other", "_law_one", "_law_odd", "_law_ask"] ["_law_script"] ds) := by
  obtain ⟨ns, rfl, hl, h⟩ := h
  refine ⟨rfl, ?_⟩
  simp [w_law]
  refine ⟨by omega, ?_⟩
  refine for_all (fun ρ => ∃ s1 s2 s3 s4 s5 s6 s7 s8 s9 s10 s11 s12 s13 s14 s15 s16 s17, ρ = [.val (.scr ns), s1, s2, s3, s4, s5, s6, s7, s8, s9, s10, s11, s12, s13, s14, s15, s16, s17]) (fun d => ∃ i : Nat, i < 5 ∧ d = .int (0 + i)) (fun d ρ nx hd hI ih => ?_) (fun ρ hI => ?_) _ (fun d hd => ?_) _ ⟨_, _, _, _, _, _, _, _, _, _, _, _, _, _, _, _, _, rfl⟩
  · obtain ⟨i, hi, rfl⟩ := hd
    obtain ⟨s1, s2, s3, s4, s5, s6, s7, s8, s9, s10, s11, s12, s13, s14, s15, s16, s17, rfl⟩ := hI
    simp
    intro w ok wn wl wk wh
    refine ⟨w, ok, rfl, rfl, rfl, ?_⟩
    have n1 := ok.n1
    have n8 := ok.n8
    unfold Wld.n at n1 n8
    have l1 := ok.l1
    have l6 := ok.l6
    have k3 := ok.k3
    refine ⟨⟨by omega, by omega, l1, l6, by omega⟩, fun s sr sx sm sy => ?_⟩
    have os : s.ok w := ⟨sr, sx, sm, sy⟩
    have h12 : 0 ≤ w.life + 12 ∧ w.life + 12 ≤ 400 := by omega
    obtain ⟨N, hN⟩ : ∃ N : Nat, N = (w.life + 12).toNat + 1 := ⟨_, rfl⟩
    simp [ok, stD_enc os, pln_encS ok os, h12]
    rw [← hN]
    refine for_all (fun ρ => ∃ s9 s10 s11 s12 s13 s14 s15 s16 s17, ρ = [.val (.scr ns), .val (.int i), .stt, .val (.lst (w.ways.map encRow)), .val (.int w.life), .val (.lst (w.rules.map encRule)), .val (encW c.World w), .val (encS s), .val (.lst ((List.range N).map fun i => encS (iterS w s i))), s9, s10, s11, s12, s13, s14, s15, s16, s17]) (fun _ => True) (fun d ρ nx2 _ hI ih2 => ?_) (fun ρ hI => ?_) _ (fun _ _ => trivial) _ ⟨_, _, _, _, _, _, _, _, _, rfl⟩
    · obtain ⟨s9, s10, s11, s12, s13, s14, s15, s16, s17, rfl⟩ := hI
      simp
      refine ⟨by omega, fun x x0 x1 => ?_⟩
      obtain ⟨x, rfl⟩ : ∃ n : Nat, x = n := ⟨x.toNat, by omega⟩
      have hx : x < w.ways.length := by omega
      have hxn : x < w.n := hx
      have hx3 : (x : Int) ≤ (w.n : Int) - 1 := by omega
      have hxm : x < s.marks.length := by omega
      have c1 : cutD (s.marks.map D.int) none (some (x : Int)) = (s.marks.map D.int).take x := by rw [cut_take (by omega), Int.toNat_natCast]
      have c2 : cutD (s.marks.map D.int) (some ((x : Int) + 1)) none = (s.marks.map D.int).drop (x + 1) := by rw [cut_drop (by omega), show ((x : Int) + 1).toNat = x + 1 by omega]
      simp [ok, stD_enc os, pln_encS ok os, hx3, c1, c2, enc_uS]
      refine ⟨w, rfl, rfl, s, x, N, rfl, rfl, ok, os, by omega, ?_⟩
      simp
      refine ⟨by omega, fun m m0 m1 => ?_⟩
      have oum := uS_ok (m := m) os hxn m0 (by omega)
      have ouf := uS_ok (m := w.life) os hxn (by omega) (by omega)
      have pm := pln_encS ok oum
      have pf := pln_encS ok ouf
      have uu : uS (uS s x m) x w.life = uS s x w.life := uS_uS hxm
      have ho : ∀ d : D, (d ∈ (s.marks.map D.int).take x ∨ d = D.int w.life ∨ d ∈ (s.marks.map D.int).drop (x + 1)) → okM 62 d := fun d h => ints_okM d h
      simp [put_uS, enc_uS, pm, pf, stD_enc oum, stD_enc ouf, uu, ho]
      refine ⟨by omega, by omega, by omega, by omega, ho, ⟨by omega, by omega⟩, ?_⟩
      rw [if_pos h12, ← hN]
      refine ⟨s, uS s x w.life, x, N, rfl, rfl, _, rfl, os, ouf, but_uS hxm, rfl, by omega, by omega, ?_⟩
      rw [if_pos h12]
      refine ⟨s, uS s x m, x, N, rfl, rfl, _, rfl, os, oum, but_uS hxm, rfl, by omega, by omega, ?_⟩
      exact ih2 _ ⟨_, _, _, _, _, _, _, _, _, rfl⟩
    · obtain ⟨s9, s10, s11, s12, s13, s14, s15, s16, s17, rfl⟩ := hI
      simp
      intro od o0 o1
      refine at_pick o0 (by simpa using o1) fun o ho => ?_
      obtain ⟨p1, p2⟩ : noIns o = true ∧ whD 0 ((w.n : Int) - 1) o = false := by
        have hn : (w.n : Int) = (w.ways.length : Int) := rfl
        rw [hn]
        simp at ho
        rcases ho with rfl | rfl | rfl | rfl | rfl | rfl | rfl <;> simp [whD] <;> omega
      have st : stD w (.tup (s.rooms.map natD)) = false := by
        rcases s.rooms with _ | ⟨a, _ | ⟨b, _ | ⟨e, r⟩⟩⟩ <;> simp [stD, rmsD, natD]
      have hrl : s.rooms.length ≤ 16777216 := by omega
      simp [ok, pln_encS ok os, stD_enc os, p1, p2, st, hrl]
      exact .inr (.inl (.inr (.inl (ih _ ⟨_, _, _, _, _, _, _, _, _, _, _, _, _, _, _, _, _, rfl⟩))))
  · obtain ⟨s1, s2, s3, s4, s5, s6, s7, s8, s9, s10, s11, s12, s13, s14, s15, s16, s17, rfl⟩ := hI
    simpa using h
  · obtain ⟨i, hi, rfl⟩ := rng_mem hd
    exact ⟨i, by omega, rfl⟩
theorem law_all {K : PySem.W.Frag} {fa : Addr} {cFadeError : Addr} {cNoCount : Addr} {cNoRoom : Addr} {cNoStand : Addr} {cNoWorld : Addr} {cWorld : Addr} {cd_law : Addr} {tb_law : Addr} {fa_looked : Addr} {fa_put : Addr} (T : Txt0 ⟨K, cFadeError, 0, 0, 0, cNoWorld, cNoStand, cNoCount, 0, 0, 0, 0, 0, 0, 0, cNoRoom, 0, 0, cWorld, 0, 0, cd_law, tb_law, fa_looked, fa_put⟩ mg) (tt : TabC.T = [(tb_law, (envOfC "law" (defScope (topS 54)) 0 0 .none).qual ++ ("<lambda>" : Str))]) (tu : ∀ p ∈ TabC.T, ∀ p2 ∈ TabC.T, p.1 = p2.1 → p.2 = p2.2) (hmg : mg "law" = some (.ref fa)) : ∃ fd : FuncData, (∀ (s : Shared) (u : Value), BindsTo s fd ⟨[u], []⟩ [("_law_script", u)]) ∧ ∀ base : Heap, K.In base → base.Ns mainGlobals mg → (∀ p ∈ ([(cd_law, tb_law)] : List (Addr × Addr)), LamX.TabB base mg p.1 p.2) → FnOk P TabC.w K mg base (L2.CX P TabC.w) 10 fa fd ["_law_script"] (spV K φLaw) :=
  law_mkC (B := fun base => ∀ p ∈ ([(cd_law, tb_law)] : List (Addr × Addr)), LamX.TabB base mg p.1 p.2) T.f_law sc_law (fun _ _ _ _ _ _ s u => .of_eq rfl) (fun base hB => d_law _ ⟨T, hB _ (.head _), tt, tu⟩) (fun ds Q R h => h_law _ T.X ds Q R h) hmg
end
end AV
namespace AV
open PySem PySem.Spec PyProof.Rows L2
theorem law_at {w : World} {mg : Str → Option Value} {K : PySem.W.Frag} {fa : Addr} {h : Heap} {cFadeError : Addr} {cNoCount : Addr} {cNoRoom : Addr} {cNoStand : Addr} {cNoWorld : Addr} {cWorld : Addr} {cd_law : Addr} {tb_law : Addr} {fa_looked : Addr} {fa_put : Addr} (T : Txt0 ⟨K, cFadeError, 0, 0, 0, cNoWorld, cNoStand, cNoCount, 0, 0, 0, 0, 0, 0, 0, cNoRoom, 0, 0, cWorld, 0, 0, cd_law, tb_law, fa_looked, fa_put⟩ mg) (tu : ∀ p ∈ ([(tb_law, (envOfC "law" (defScope (topS 54)) 0 0 .none).qual ++ ("<lambda>" : Str))] : List (Addr × Str)), ∀ p2 ∈ ([(tb_law, (envOfC "law" (defScope (topS 54)) 0 0 .none).qual ++ ("<lambda>" : Str))] : List (Addr × Str)), p.1 = p2.1 → p.2 = p2.2) (hmg : mg "law" = some (.ref fa)) (H_law : PySem.W.CodeHd h cd_law tb_law ∧ h.get? tb_law = some { cls := .none, data := .fields #[] }) (N_law : K.lookup tb_law = none) : LamX.LawAtS PySem.Challenge.rw_palewalk_k54_whole_marks_unlooked_at w K (L2.CX PySem.Challenge.pw_palewalk_k54_whole_marks_unlooked_at w) 10 63 "_law_script" mg fa h := by
  letI tcI : TabC := ⟨[(tb_law, (envOfC "law" (defScope (topS 54)) 0 0 .none).qual ++ ("<lambda>" : Str))], w⟩
  obtain ⟨fd, hb, hF⟩ := law_all (P := PySem.Challenge.pw_palewalk_k54_whole_marks_unlooked_at) T rfl tu hmg
  exact ⟨fd, [(cd_law, tb_law)], spV K φLaw, fun p hp => by
    simp only [List.mem_cons, List.not_mem_nil, or_false] at hp
    subst hp
    exact H_law.2
    , fun p hp => by
    simp only [List.mem_cons, List.not_mem_nil, or_false] at hp
    subst hp
    exact N_law
    , fun p hp => by
    simp only [List.mem_cons, List.not_mem_nil, or_false] at hp
    subst hp
    exact H_law.1
    , hb, fun H a ns hl hbits hP hS => law_sp hl (tabs_nil fun p hp => by
    have hp : p ∈ ([(tb_law, (envOfC "law" (defScope (topS 54)) 0 0 .none).qual ++ ("<lambda>" : Str))] : List (Addr × Str)) := hp
    simp only [List.mem_cons, List.not_mem_nil, or_false] at hp
    subst hp
    exact hP (cd_law, tb_law) (by simp)
    ) hS, hF⟩
end AV

open PySem PySem.W PyProof.Rows
set_option maxRecDepth 100000 in
set_option maxHeartbeats 0 in
theorem PySem.Challenge.cw_palewalk_k54_whole_marks_unlooked_at_holds : PySem.Challenge.rw_palewalk_k54_whole_marks_unlooked_at.Holds := by
  w_on; o_law; k_head; (case hw => w_witness2)
  k_fill
  refine AV.walk_ofL (l := PySem.Challenge.rw_palewalk_k54_whole_marks_unlooked_at) (n := 63) (k := 10) (x := "_law_script") (CX := fun w => L2.CX PySem.Challenge.pw_palewalk_k54_whole_marks_unlooked_at w) rfl (by decide) rfl ⟨rfl, by decide, by decide⟩ (fun w h Y => by first | exact PySem.W.kIn_of Y | exact PySem.W.km_in_of Y) ?F (fun w _ _ _ _ h => @AV.law_cx ⟨[], w⟩ _ _ _ _ _ _ h)
  case F =>
    intro w mg fa h KX G hmg TB
    refine' AV.law_at ⟨⟨(PySem.W.exm_ref ?xb_FadeError ?xh_FadeError ?xt_FadeError ?sub_NoCount_FadeError), (PySem.W.exm_ref ?xb_NoRoom ?xh_NoRoom ?xt_NoRoom ?sub_NoCount_NoRoom), (PySem.W.exm_ref ?xb_NoStand ?xh_NoStand ?xt_NoStand ?sub_NoCount_NoStand), (PySem.W.exm_ref ?xb_FadeError ?xh_FadeError ?xt_FadeError ?sub_NoRoom_FadeError), (PySem.W.exm_ref ?xb_NoRoom ?xh_NoRoom ?xt_NoRoom ?sub_NoRoom_NoRoom), (PySem.W.exm_ref ?xb_NoStand ?xh_NoStand ?xt_NoStand ?sub_NoRoom_NoStand), (PySem.W.exm_ref ?xb_FadeError ?xh_FadeError ?xt_FadeError ?sub_NoStand_FadeError), (PySem.W.exm_ref ?xb_NoRoom ?xh_NoRoom ?xt_NoRoom ?sub_NoStand_NoRoom), (PySem.W.exm_ref ?xb_NoStand ?xh_NoStand ?xt_NoStand ?sub_NoStand_NoStand), (PySem.W.exm_ref ?xb_FadeError ?xh_FadeError ?xt_FadeError ?sub_NoWorld_FadeError), (PySem.W.exm_ref ?xb_NoRoom ?xh_NoRoom ?xt_NoRoom ?sub_NoWorld_NoRoom), (PySem.W.exm_ref ?xb_NoStand ?xh_NoStand ?xt_NoStand ?sub_NoWorld_NoStand), ?ki_NoStand_NoRoom⟩,
      ⟨PySem.W.mg_of KX G ?bxm, ?bxs, ?bxr, ?bxf⟩,
      (AV.xAt_mk (fun _ _ _ _ _ _ us hl => match us, hl with | [_, _], _ => rfl) ?xaa_NoWorld ?xal_NoWorld ?xac_NoWorld ?xak_NoWorld ?xat_NoWorld ?xao1_NoWorld ?xao2_NoWorld ?xao3_NoWorld ?xao4_NoWorld ?xao5_NoWorld ?xao6_NoWorld (AV.all1 ?xn0_NoWorld)),
      (PySem.W.mg_none_of KX G ?b_all),
      (PySem.W.mg_none_of KX G ?b_bool),
      (PySem.W.mg_none_of KX G ?b_enumerate),
      (PySem.W.mg_none_of KX G ?b_int),
      (PySem.W.mg_none_of KX G ?b_isinstance),
      (PySem.W.mg_none_of KX G ?b_len),
      (PySem.W.mg_none_of KX G ?b_list),
      (PySem.W.mg_none_of KX G ?b_max),
      (PySem.W.mg_none_of KX G ?b_min),
      (PySem.W.mg_none_of KX G ?b_range),
      (PySem.W.mg_none_of KX G ?b_sorted),
      (PySem.W.mg_none_of KX G ?b_str),
      (PySem.W.mg_none_of KX G ?b_tuple),
      (PySem.W.mg_none_of KX G ?b_zip),
      (AV.gint_mk KX G ?g_MOST_LIFE),
      (AV.gint_mk KX G ?g_MOST_MARK),
      (AV.gint_mk KX G ?g_MOST_ROOMS),
      (AV.gint_mk KX G ?g_MOST_RUN),
      (AV.gint_mk KX G ?g_MOST_WALKERS),
      (AV.gint_mk KX G ?g_MOST_WAYS),
      (AV.gtup_mk KX G ?g_SIDES ?gl_SIDES ?gv_SIDES ?gz_SIDES),
      (AV.gtup_mk KX G ?g_WORDS ?gl_WORDS ?gv_WORDS ?gz_WORDS),
      ⟨PySem.W.mg_of KX G ?xg_FadeError, ?xk_FadeError, ?xb_FadeError, ?xt_FadeError, ?xh_FadeError, AV.xfb_of ?xu_FadeError ?xv_FadeError ?xw_FadeError ?xz_FadeError⟩,
      ⟨PySem.W.mg_of KX G ?xg_NoCount, ?xk_NoCount, ?xb_NoCount, ?xt_NoCount, ?xh_NoCount, AV.xfb_of ?xu_NoCount ?xv_NoCount ?xw_NoCount ?xz_NoCount⟩,
      ⟨PySem.W.mg_of KX G ?xg_NoRoom, ?xk_NoRoom, ?xb_NoRoom, ?xt_NoRoom, ?xh_NoRoom, AV.xfb_of ?xu_NoRoom ?xv_NoRoom ?xw_NoRoom ?xz_NoRoom⟩,
      ⟨PySem.W.mg_of KX G ?xg_NoStand, ?xk_NoStand, ?xb_NoStand, ?xt_NoStand, ?xh_NoStand, AV.xfb_of ?xu_NoStand ?xv_NoStand ?xw_NoStand ?xz_NoStand⟩,
      ⟨PySem.W.mg_of KX G ?xg_NoWorld, ?xk_NoWorld, ?xb_NoWorld, ?xt_NoWorld, ?xh_NoWorld, AV.xfb_of ?xu_NoWorld ?xv_NoWorld ?xw_NoWorld ?xz_NoWorld⟩,
      ⟨?xi_NoCount⟩,
      ⟨?xi_NoRoom⟩,
      ⟨?xi_NoStand⟩,
      ⟨?ec0_NoStand, ?ec1_NoStand, ?ec2_NoStand, ?ec3_NoStand, ?ec4_NoStand, ?ec5_NoStand, ?ec6_NoStand, ?ec7_NoStand⟩,
      ⟨?cl0_World, ?cl1_World, ?cl2_World, ?cl3_World⟩,
      ?nf_World_floor,
      ?nf_World_lasting,
      ?nf_World_wanted,
      (PySem.W.mg_of KX G ?m_World),
      (PySem.W.mg_of KX G ?fv_looked),
      (PySem.W.mg_of KX G ?fv_put),
      (AV.fnAt_mk KX G (fun _ _ _ _ _ _ us hl => match us, hl with | [_, _, _], _ => rfl) ?fa_is_whole ?fl_is_whole ?fc_is_whole ?fk_is_whole),
      (AV.fnAt_mk KX G (fun _ _ _ _ _ _ us hl => match us, hl with | [_, _], _ => rfl) ?fa_is_word ?fl_is_word ?fc_is_word ?fk_is_word),
      (AV.fnAt_mk KX G (fun _ _ _ _ _ _ us hl => match us, hl with | [_], _ => rfl) ?fa_is_clause ?fl_is_clause ?fc_is_clause ?fk_is_clause),
      (AV.fnAt_mk KX G (fun _ _ _ _ _ _ us hl => match us, hl with | [_], _ => rfl) ?fa_is_rule ?fl_is_rule ?fc_is_rule ?fk_is_rule),
      (AV.fnAt_mk KX G (fun _ _ _ _ _ _ us hl => match us, hl with | [_], _ => rfl) ?fa_are_rules ?fl_are_rules ?fc_are_rules ?fk_are_rules),
      (AV.fnAt_mk KX G (fun _ _ _ _ _ _ us hl => match us, hl with | [_], _ => rfl) ?fa_are_ways ?fl_are_ways ?fc_are_ways ?fk_are_ways),
      (AV.fnAt_mk KX G (fun _ _ _ _ _ _ us hl => match us, hl with | [_, _], _ => rfl) ?fa_sure_floor ?fl_sure_floor ?fc_sure_floor ?fk_sure_floor),
      (AV.iAt_mk (fun _ _ _ _ _ _ us hl => match us, hl with | [_, _, _, _], _ => rfl) ?fl_World___init__ ?fc_World___init__ ?fk_World___init__ ?fm_World___init__ ?fn_World___init__ ?fo_World___init__ ?fp_World___init__),
      (AV.mAt_mk (fun _ _ _ _ _ _ us hl => match us, hl with | [_], _ => rfl) ?fl_World_life ?fc_World_life ?fk_World_life ?fm_World_life ?fn_World_life),
      (AV.mAt_mk (fun _ _ _ _ _ _ us hl => match us, hl with | [_], _ => rfl) ?fl_World_rooms ?fc_World_rooms ?fk_World_rooms ?fm_World_rooms ?fn_World_rooms),
      (AV.fnAt_mk KX G (fun _ _ _ _ _ _ us hl => match us, hl with | [_, _, _], _ => rfl) ?fa_are_marks ?fl_are_marks ?fc_are_marks ?fk_are_marks),
      (AV.mAt_mk (fun _ _ _ _ _ _ us hl => match us, hl with | [_], _ => rfl) ?fl_World_walkers ?fc_World_walkers ?fk_World_walkers ?fm_World_walkers ?fn_World_walkers),
      (AV.fnAt_mk KX G (fun _ _ _ _ _ _ us hl => match us, hl with | [_, _], _ => rfl) ?fa_is_room ?fl_is_room ?fc_is_room ?fk_is_room),
      (AV.fnAt_mk KX G (fun _ _ _ _ _ _ us hl => match us, hl with | [_, _], _ => rfl) ?fa_are_rooms ?fl_are_rooms ?fc_are_rooms ?fk_are_rooms),
      (AV.fnAt_mk KX G (fun _ _ _ _ _ _ us hl => match us, hl with | [_, _], _ => rfl) ?fa_is_stand ?fl_is_stand ?fc_is_stand ?fk_is_stand),
      (AV.fnAt_mk KX G (fun _ _ _ _ _ _ us hl => match us, hl with | [_, _], _ => rfl) ?fa_sure_stand ?fl_sure_stand ?fc_sure_stand ?fk_sure_stand),
      (AV.fnAt_mk KX G (fun _ _ _ _ _ _ us hl => match us, hl with | [_, _], _ => rfl) ?fa_place_picked ?fl_place_picked ?fc_place_picked ?fk_place_picked),
      (AV.fnAt_mk KX G (fun _ _ _ _ _ _ us hl => match us, hl with | [_, _], _ => rfl) ?fa_ways_picked ?fl_ways_picked ?fc_ways_picked ?fk_ways_picked),
      (AV.fnAt_mk KX G (fun _ _ _ _ _ _ us hl => match us, hl with | [_, _], _ => rfl) ?fa_picks ?fl_picks ?fc_picks ?fk_picks),
      (AV.fnAt_mk KX G (fun _ _ _ _ _ _ us hl => match us, hl with | [_, _, _, _, _], _ => rfl) ?fa__law_alike ?fl__law_alike ?fc__law_alike ?fk__law_alike),
      (AV.fnAt_mk KX G (fun _ _ _ _ _ _ us hl => match us, hl with | [_, _], _ => rfl) ?fa__law_cell_at ?fl__law_cell_at ?fc__law_cell_at ?fk__law_cell_at),
      (AV.fnAt_mk KX G (fun _ _ _ _ _ _ us hl => match us, hl with | [_, _], _ => rfl) ?fa__law_digit ?fl__law_digit ?fc__law_digit ?fk__law_digit),
      (AV.fnAt_mk KX G (fun _ _ _ _ _ _ us hl => match us, hl with | [_, _, _, _], _ => rfl) ?fa__law_due ?fl__law_due ?fc__law_due ?fk__law_due),
      (AV.fnAt_mk KX G (fun _ _ _ _ _ _ us hl => match us, hl with | [_, _], _ => rfl) ?fa__law_floor ?fl__law_floor ?fc__law_floor ?fk__law_floor),
      (AV.fnAt_mk KX G (fun _ _ _ _ _ _ us hl => match us, hl with | [_, _], _ => rfl) ?fa__law_clause ?fl__law_clause ?fc__law_clause ?fk__law_clause),
      (AV.fnAt_mk KX G (fun _ _ _ _ _ _ us hl => match us, hl with | [_, _], _ => rfl) ?fa__law_rule ?fl__law_rule ?fc__law_rule ?fk__law_rule),
      (AV.fnAt_mk KX G (fun _ _ _ _ _ _ us hl => match us, hl with | [_, _, _, _], _ => rfl) ?fa__law_parts ?fl__law_parts ?fc__law_parts ?fk__law_parts),
      (AV.fnAt_mk KX G (fun _ _ _ _ _ _ us hl => match us, hl with | [_], _ => rfl) ?fa__law_said ?fl__law_said ?fc__law_said ?fk__law_said),
      (AV.fnAt_mk KX G (fun _ _ _ _ _ _ us hl => match us, hl with | [_, _, _, _], _ => rfl) ?fa__law_stand ?fl__law_stand ?fc__law_stand ?fk__law_stand),
      (AV.fnAt_mk KX G (fun _ _ _ _ _ _ us hl => match us, hl with | [_], _ => rfl) ?fa_faded ?fl_faded ?fc_faded ?fk_faded),
      (AV.fnAt_mk KX G (fun _ _ _ _ _ _ us hl => match us, hl with | [_, _], _ => rfl) ?fa_behind ?fl_behind ?fc_behind ?fk_behind),
      (AV.fnAt_mk KX G (fun _ _ _ _ _ _ us hl => match us, hl with | [_, _], _ => rfl) ?fa_looked_at ?fl_looked_at ?fc_looked_at ?fk_looked_at),
      (AV.fnAt_mk KX G (fun _ _ _ _ _ _ us hl => match us, hl with | [_, _], _ => rfl) ?fa_sure_room ?fl_sure_room ?fc_sure_room ?fk_sure_room),
      (AV.fnAt_mk KX G (fun _ _ _ _ _ _ us hl => match us, hl with | [_, _, _], _ => rfl) ?fa_looked ?fl_looked ?fc_looked ?fk_looked),
      (AV.fnAt_mk KX G (fun _ _ _ _ _ _ us hl => match us, hl with | [_, _, _], _ => rfl) ?fa_with_mark ?fl_with_mark ?fc_with_mark ?fk_with_mark),
      (AV.fnAt_mk KX G (fun _ _ _ _ _ _ us hl => match us, hl with | [_, _, _], _ => rfl) ?fa_put ?fl_put ?fc_put ?fk_put),
      (AV.fnAt_mk KX G (fun _ _ _ _ _ _ us hl => match us, hl with | [_, _, _], _ => rfl) ?fa_run ?fl_run ?fc_run ?fk_run),
      (AV.fnAtC_mk KX G (fun _ _ _ _ _ _ us hl => match us, hl with | [_], _ => rfl) ?fa_law ?fl_law ?fc_law ?fk_law)⟩ ?tuA hmg (TB "law" _ _ _ rfl (AV.tabIn_mk ?ta_law ?tl_law ?t0_law ?tm_law ?te_law)) ?tn_law
    (case b_all => (try dsimp only); k_is)
    (case b_bool => (try dsimp only); k_is)
    (case b_enumerate => (try dsimp only); k_is)
    (case b_int => (try dsimp only); k_is)
    (case b_isinstance => (try dsimp only); k_is)
    (case b_len => (try dsimp only); k_is)
    (case b_list => (try dsimp only); k_is)
    (case b_max => (try dsimp only); k_is)
    (case b_min => (try dsimp only); k_is)
    (case b_range => (try dsimp only); k_is)
    (case b_sorted => (try dsimp only); k_is)
    (case b_str => (try dsimp only); k_is)
    (case b_tuple => (try dsimp only); k_is)
    (case b_zip => (try dsimp only); k_is)
    (case g_MOST_LIFE => (try dsimp only); k_is)
    (case g_MOST_MARK => (try dsimp only); k_is)
    (case g_MOST_ROOMS => (try dsimp only); k_is)
    (case g_MOST_RUN => (try dsimp only); k_is)
    (case g_MOST_WALKERS => (try dsimp only); k_is)
    (case g_MOST_WAYS => (try dsimp only); k_is)
    (case g_SIDES => (try dsimp only); k_is)
    (case gl_SIDES => (try dsimp only); k_is)
    (case gv_SIDES => exact (.cons ⟨_, rfl⟩ (.cons ⟨_, rfl⟩ .nil)))
    (case gz_SIDES => exact Nat.le_of_ble_eq_true rfl)
    (case g_WORDS => (try dsimp only); k_is)
    (case gl_WORDS => (try dsimp only); k_is)
    (case gv_WORDS => exact (.cons ⟨_, rfl⟩ (.cons ⟨_, rfl⟩ .nil)))
    (case gz_WORDS => exact Nat.le_of_ble_eq_true rfl)
    (case xg_FadeError => (try dsimp only); k_is)
    (case xk_FadeError => (try dsimp only); k_is)
    (case xb_FadeError => (try dsimp only); k_is)
    (case xt_FadeError => (try dsimp only); k_is)
    (case xh_FadeError => (try dsimp only); k_is)
    (case xu_FadeError => (try dsimp only); k_is)
    (case xv_FadeError => (try dsimp only); k_is)
    (case xw_FadeError => (try dsimp only); k_is)
    (case xz_FadeError => (try dsimp only); k_is)
    (case xg_NoCount => (try dsimp only); k_is)
    (case xk_NoCount => (try dsimp only); k_is)
    (case xb_NoCount => (try dsimp only); k_is)
    (case xt_NoCount => (try dsimp only); k_is)
    (case xh_NoCount => (try dsimp only); k_is)
    (case xu_NoCount => (try dsimp only); k_is)
    (case xv_NoCount => (try dsimp only); k_is)
    (case xw_NoCount => (try dsimp only); k_is)
    (case xz_NoCount => (try dsimp only); k_is)
    (case xg_NoRoom => (try dsimp only); k_is)
    (case xk_NoRoom => (try dsimp only); k_is)
    (case xb_NoRoom => (try dsimp only); k_is)
    (case xt_NoRoom => (try dsimp only); k_is)
    (case xh_NoRoom => (try dsimp only); k_is)
    (case xu_NoRoom => (try dsimp only); k_is)
    (case xv_NoRoom => (try dsimp only); k_is)
    (case xw_NoRoom => (try dsimp only); k_is)
    (case xz_NoRoom => (try dsimp only); k_is)
    (case xg_NoStand => (try dsimp only); k_is)
    (case xk_NoStand => (try dsimp only); k_is)
    (case xb_NoStand => (try dsimp only); k_is)
    (case xt_NoStand => (try dsimp only); k_is)
    (case xh_NoStand => (try dsimp only); k_is)
    (case xu_NoStand => (try dsimp only); k_is)
    (case xv_NoStand => (try dsimp only); k_is)
    (case xw_NoStand => (try dsimp only); k_is)
    (case xz_NoStand => (try dsimp only); k_is)
    (case xg_NoWorld => (try dsimp only); k_is)
    (case xk_NoWorld => (try dsimp only); k_is)
    (case xb_NoWorld => (try dsimp only); k_is)
    (case xt_NoWorld => (try dsimp only); k_is)
    (case xh_NoWorld => (try dsimp only); k_is)
    (case xu_NoWorld => (try dsimp only); k_is)
    (case xv_NoWorld => (try dsimp only); k_is)
    (case xw_NoWorld => (try dsimp only); k_is)
    (case xz_NoWorld => (try dsimp only); k_is)
    (case bxm => (try dsimp only); k_is)
    (case bxs => (try dsimp only); k_is)
    (case bxr => (try dsimp only); k_is)
    (case bxf => (try dsimp only); k_is)
    (case xaa_NoWorld => (try dsimp only); k_is)
    (case xal_NoWorld => (try dsimp only); k_is)
    (case xac_NoWorld => (try dsimp only); k_is)
    (case xak_NoWorld => (try dsimp only); k_is)
    (case xat_NoWorld => (try dsimp only); k_is)
    (case xao1_NoWorld => (try dsimp only); k_is)
    (case xao2_NoWorld => rfl)
    (case xao3_NoWorld => (try dsimp only); k_is)
    (case xao4_NoWorld => (try dsimp only); k_is)
    (case xao5_NoWorld => (try dsimp only); k_is)
    (case xao6_NoWorld => (try dsimp only); k_is)
    (case xn0_NoWorld => (try dsimp only); k_is)
    (case xi_NoCount => (try dsimp only); k_exc)
    (case xi_NoRoom => (try dsimp only); k_exc)
    (case xi_NoStand => (try dsimp only); k_exc)
    (case ec0_NoStand => (try dsimp only); k_is)
    (case ec1_NoStand => (try dsimp only); k_is)
    (case ec2_NoStand => (try dsimp only); k_is)
    (case ec3_NoStand => (try dsimp only); k_is)
    (case ec4_NoStand => (try dsimp only); k_is)
    (case ec5_NoStand => (try dsimp only); k_is)
    (case ec6_NoStand => (try dsimp only); k_is)
    (case ec7_NoStand => (try dsimp only); k_is)
    (case m_World => (try dsimp only); k_is)
    (case fv_looked => (try dsimp only); k_is)
    (case fv_put => (try dsimp only); k_is)
    (case cl0_World => (try dsimp only); k_is)
    (case cl1_World => (try dsimp only); k_is)
    (case cl2_World => (try dsimp only); k_is)
    (case cl3_World => (try dsimp only); k_is)
    (case nf_World_floor => (try dsimp only); (show PySem.W.findIn _ _ _ = _); k_is)
    (case nf_World_lasting => (try dsimp only); (show PySem.W.findIn _ _ _ = _); k_is)
    (case nf_World_wanted => (try dsimp only); (show PySem.W.findIn _ _ _ = _); k_is)
    (case fa_is_whole => (try dsimp only); k_is)
    (case fl_is_whole => (try dsimp only); k_is)
    (case fc_is_whole => (try dsimp only); k_is)
    (case fk_is_whole => (try dsimp only); k_is)
    (case fa_is_word => (try dsimp only); k_is)
    (case fl_is_word => (try dsimp only); k_is)
    (case fc_is_word => (try dsimp only); k_is)
    (case fk_is_word => (try dsimp only); k_is)
    (case fa_is_clause => (try dsimp only); k_is)
    (case fl_is_clause => (try dsimp only); k_is)
    (case fc_is_clause => (try dsimp only); k_is)
    (case fk_is_clause => (try dsimp only); k_is)
    (case fa_is_rule => (try dsimp only); k_is)
    (case fl_is_rule => (try dsimp only); k_is)
    (case fc_is_rule => (try dsimp only); k_is)
    (case fk_is_rule => (try dsimp only); k_is)
    (case fa_are_rules => (try dsimp only); k_is)
    (case fl_are_rules => (try dsimp only); k_is)
    (case fc_are_rules => (try dsimp only); k_is)
    (case fk_are_rules => (try dsimp only); k_is)
    (case fa_are_ways => (try dsimp only); k_is)
    (case fl_are_ways => (try dsimp only); k_is)
    (case fc_are_ways => (try dsimp only); k_is)
    (case fk_are_ways => (try dsimp only); k_is)
    (case fa_sure_floor => (try dsimp only); k_is)
    (case fl_sure_floor => (try dsimp only); k_is)
    (case fc_sure_floor => (try dsimp only); k_is)
    (case fk_sure_floor => (try dsimp only); k_is)
    (case fn_World___init__ => (try dsimp only); k_is)
    (case fl_World___init__ => (try dsimp only); k_is)
    (case fc_World___init__ => (try dsimp only); k_is)
    (case fk_World___init__ => (try dsimp only); k_is)
    (case fm_World___init__ => (try dsimp only); k_is)
    (case fo_World___init__ => (try dsimp only); k_is)
    (case fp_World___init__ => (try dsimp only); k_is)
    (case fm_World_life => (try dsimp only); k_is)
    (case fl_World_life => (try dsimp only); k_is)
    (case fc_World_life => (try dsimp only); k_is)
    (case fk_World_life => (try dsimp only); k_is)
    (case fn_World_life => (try dsimp only); k_is)
    (case fm_World_rooms => (try dsimp only); k_is)
    (case fl_World_rooms => (try dsimp only); k_is)
    (case fc_World_rooms => (try dsimp only); k_is)
    (case fk_World_rooms => (try dsimp only); k_is)
    (case fn_World_rooms => (try dsimp only); k_is)
    (case fa_are_marks => (try dsimp only); k_is)
    (case fl_are_marks => (try dsimp only); k_is)
    (case fc_are_marks => (try dsimp only); k_is)
    (case fk_are_marks => (try dsimp only); k_is)
    (case fm_World_walkers => (try dsimp only); k_is)
    (case fl_World_walkers => (try dsimp only); k_is)
    (case fc_World_walkers => (try dsimp only); k_is)
    (case fk_World_walkers => (try dsimp only); k_is)
    (case fn_World_walkers => (try dsimp only); k_is)
    (case fa_is_room => (try dsimp only); k_is)
    (case fl_is_room => (try dsimp only); k_is)
    (case fc_is_room => (try dsimp only); k_is)
    (case fk_is_room => (try dsimp only); k_is)
    (case fa_are_rooms => (try dsimp only); k_is)
    (case fl_are_rooms => (try dsimp only); k_is)
    (case fc_are_rooms => (try dsimp only); k_is)
    (case fk_are_rooms => (try dsimp only); k_is)
    (case fa_is_stand => (try dsimp only); k_is)
    (case fl_is_stand => (try dsimp only); k_is)
    (case fc_is_stand => (try dsimp only); k_is)
    (case fk_is_stand => (try dsimp only); k_is)
    (case fa_sure_stand => (try dsimp only); k_is)
    (case fl_sure_stand => (try dsimp only); k_is)
    (case fc_sure_stand => (try dsimp only); k_is)
    (case fk_sure_stand => (try dsimp only); k_is)
    (case fa_place_picked => (try dsimp only); k_is)
    (case fl_place_picked => (try dsimp only); k_is)
    (case fc_place_picked => (try dsimp only); k_is)
    (case fk_place_picked => (try dsimp only); k_is)
    (case fa_ways_picked => (try dsimp only); k_is)
    (case fl_ways_picked => (try dsimp only); k_is)
    (case fc_ways_picked => (try dsimp only); k_is)
    (case fk_ways_picked => (try dsimp only); k_is)
    (case fa_picks => (try dsimp only); k_is)
    (case fl_picks => (try dsimp only); k_is)
    (case fc_picks => (try dsimp only); k_is)
    (case fk_picks => (try dsimp only); k_is)
    (case fa__law_alike => (try dsimp only); k_is)
    (case fl__law_alike => (try dsimp only); k_is)
    (case fc__law_alike => (try dsimp only); k_is)
    (case fk__law_alike => (try dsimp only); k_is)
    (case fa__law_cell_at => (try dsimp only); k_is)
    (case fl__law_cell_at => (try dsimp only); k_is)
    (case fc__law_cell_at => (try dsimp only); k_is)
    (case fk__law_cell_at => (try dsimp only); k_is)
    (case fa__law_digit => (try dsimp only); k_is)
    (case fl__law_digit => (try dsimp only); k_is)
    (case fc__law_digit => (try dsimp only); k_is)
    (case fk__law_digit => (try dsimp only); k_is)
    (case fa__law_due => (try dsimp only); k_is)
    (case fl__law_due => (try dsimp only); k_is)
    (case fc__law_due => (try dsimp only); k_is)
    (case fk__law_due => (try dsimp only); k_is)
    (case fa__law_floor => (try dsimp only); k_is)
    (case fl__law_floor => (try dsimp only); k_is)
    (case fc__law_floor => (try dsimp only); k_is)
    (case fk__law_floor => (try dsimp only); k_is)
    (case fa__law_clause => (try dsimp only); k_is)
    (case fl__law_clause => (try dsimp only); k_is)
    (case fc__law_clause => (try dsimp only); k_is)
    (case fk__law_clause => (try dsimp only); k_is)
    (case fa__law_rule => (try dsimp only); k_is)
    (case fl__law_rule => (try dsimp only); k_is)
    (case fc__law_rule => (try dsimp only); k_is)
    (case fk__law_rule => (try dsimp only); k_is)
    (case fa__law_parts => (try dsimp only); k_is)
    (case fl__law_parts => (try dsimp only); k_is)
    (case fc__law_parts => (try dsimp only); k_is)
    (case fk__law_parts => (try dsimp only); k_is)
    (case fa__law_said => (try dsimp only); k_is)
    (case fl__law_said => (try dsimp only); k_is)
    (case fc__law_said => (try dsimp only); k_is)
    (case fk__law_said => (try dsimp only); k_is)
    (case fa__law_stand => (try dsimp only); k_is)
    (case fl__law_stand => (try dsimp only); k_is)
    (case fc__law_stand => (try dsimp only); k_is)
    (case fk__law_stand => (try dsimp only); k_is)
    (case fa_faded => (try dsimp only); k_is)
    (case fl_faded => (try dsimp only); k_is)
    (case fc_faded => (try dsimp only); k_is)
    (case fk_faded => (try dsimp only); k_is)
    (case fa_behind => (try dsimp only); k_is)
    (case fl_behind => (try dsimp only); k_is)
    (case fc_behind => (try dsimp only); k_is)
    (case fk_behind => (try dsimp only); k_is)
    (case fa_looked_at => (try dsimp only); k_is)
    (case fl_looked_at => (try dsimp only); k_is)
    (case fc_looked_at => (try dsimp only); k_is)
    (case fk_looked_at => (try dsimp only); k_is)
    (case fa_sure_room => (try dsimp only); k_is)
    (case fl_sure_room => (try dsimp only); k_is)
    (case fc_sure_room => (try dsimp only); k_is)
    (case fk_sure_room => (try dsimp only); k_is)
    (case fa_looked => (try dsimp only); k_is)
    (case fl_looked => (try dsimp only); k_is)
    (case fc_looked => (try dsimp only); k_is)
    (case fk_looked => (try dsimp only); k_is)
    (case fa_with_mark => (try dsimp only); k_is)
    (case fl_with_mark => (try dsimp only); k_is)
    (case fc_with_mark => (try dsimp only); k_is)
    (case fk_with_mark => (try dsimp only); k_is)
    (case fa_put => (try dsimp only); k_is)
    (case fl_put => (try dsimp only); k_is)
    (case fc_put => (try dsimp only); k_is)
    (case fk_put => (try dsimp only); k_is)
    (case fa_run => (try dsimp only); k_is)
    (case fl_run => (try dsimp only); k_is)
    (case fc_run => (try dsimp only); k_is)
    (case fk_run => (try dsimp only); k_is)
    (case fa_law => (try dsimp only); k_is)
    (case fl_law => (try dsimp only); k_is)
    (case fc_law => (try dsimp only); k_is)
    (case fk_law => (try dsimp only); k_is)
    (case sub_NoCount_FadeError => (try dsimp only); k_is)
    (case sub_NoCount_NoRoom => (try dsimp only); k_is)
    (case sub_NoCount_NoStand => (try dsimp only); k_is)
    (case sub_NoRoom_FadeError => (try dsimp only); k_is)
    (case sub_NoRoom_NoRoom => (try dsimp only); k_is)
    (case sub_NoRoom_NoStand => (try dsimp only); k_is)
    (case sub_NoStand_FadeError => (try dsimp only); k_is)
    (case sub_NoStand_NoRoom => (try dsimp only); k_is)
    (case sub_NoStand_NoStand => (try dsimp only); k_is)
    (case sub_NoWorld_FadeError => (try dsimp only); k_is)
    (case sub_NoWorld_NoRoom => (try dsimp only); k_is)
    (case sub_NoWorld_NoStand => (try dsimp only); k_is)
    (case ki_NoStand_NoRoom => (try dsimp only); kit_is)
    (case ta_law => (try dsimp only); k_is)
    (case tl_law => (try dsimp only); k_is)
    (case t0_law => rfl)
    (case tm_law => (try dsimp only); k_is)
    (case te_law => rfl)
    (case tn_law => rfl)
    (case tuA => decide)

