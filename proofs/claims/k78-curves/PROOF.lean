import PyProof.Rows.All
import Wide.All
import OpenK.AllK
import Wide.FinOn
import HandS.ForMost
import HandS.Deep
import HandS.Flow
import HandS.AnyAll
import HandS.TupAny
import HandS.Style
import HandS.TupLe
import HandS.Lambda
import KE.SortData
import HandS.Conv
import HandS.IsInst
import PyProof.P3In
import HandS.Defaults
import HandS.TryOnly
import HandS.Iter
import HandS.Dict
import HandS.Comp
import HandS.GenList
import HandS.SortInts
import HandS.HeadHook4
import HandS.HeadWalk
import HandS.Head2
import KE.GoesMore
import HandS.SetFor
import HandS.Strs
import HandS.HeadEnd
import HandS.Flt
import KE.DataMinMax
import HandS.Zip
import HandS.Star
import HandS.ExcIs
import HandS.Small
import HandS.ExcField
import HandS.ExcInit
import KE.KExcIs
import KE.KIsAll
import HandS.TupMul
import HandS.TupSets
import PySem.Challenge.RW_pinchworks_k78_across_curves
set_option Elab.async false
set_option linter.all false
set_option maxRecDepth 100000
set_option maxHeartbeats 4000000
namespace Ev
open PySem PySem.Spec PyProof.Rows L2

abbrev D := PyData

/-! ### data in the heap -/
def KL (K : PySem.W.Frag) (a : Addr) (xs : List V) : Prop :=
  ∃ (o : Obj) (its : Array Value) (n : Nat), K.lookup a = some o ∧ o.cls = .type "list" ∧ o.dict = none ∧ o.data = .seq its n ∧ its.size ≤ sizeLine ∧ Vals xs its.toList
def keyOf : D → Option Key
  | .int i => some (.inl i)
  | .str x => some (.inr x)
  | _ => none
def keysOf : List D → Option (List Key)
  | [] => some []
  | d :: r => match keyOf d, keysOf r with
    | some k, some ks => some (k :: ks)
    | _, _ => none
def tkeyOf : D → Option (List Key)
  | .tuple ds => keysOf ds
  | _ => none

mutual
inductive Rep (K : PySem.W.Frag) (H : Hp) (Ex : Addr → Prop) : D → V → Prop
  | non : Rep K H Ex .none .non
  | bl (b : Bool) : Rep K H Ex (.bool b) (.bl b)
  | int (i : Int) : Rep K H Ex (.int i) (.int i)
  | str (x : Str) : Rep K H Ex (.str x) (.str x)
  | lst {a : Addr} {xs : List V} {ds : List D} : (Rd H a (.lst xs) ∧ ¬ Ex a) ∨ KL K a xs → Reps K H Ex ds xs → Rep K H Ex (.list ds) (.ref a)
  | tup {a : Addr} {xs : List V} {ds : List D} : H a = some (.tup xs) → ¬ Ex a → Reps K H Ex ds xs → Rep K H Ex (.tuple ds) (.ref a)
  | dk {a : Addr} {kvs : List (Key × V)} {ps : List (D × D)} : H a = some (.dK kvs) → ¬ Ex a → RepK K H Ex ps kvs → Rep K H Ex (.dict ps) (.ref a)
  | dt {a : Addr} {kvs : List (List Key × V)} {ps : List (D × D)} : H a = some (.dT kvs) → ¬ Ex a → RepT K H Ex ps kvs → Rep K H Ex (.dict ((.none, .none) :: ps)) (.ref a)
inductive Reps (K : PySem.W.Frag) (H : Hp) (Ex : Addr → Prop) : List D → List V → Prop
  | nil : Reps K H Ex [] []
  | cons {d : D} {ds : List D} {v : V} {vs : List V} : Rep K H Ex d v → Reps K H Ex ds vs → Reps K H Ex (d :: ds) (v :: vs)
inductive RepK (K : PySem.W.Frag) (H : Hp) (Ex : Addr → Prop) : List (D × D) → List (Key × V) → Prop
  | nil : RepK K H Ex [] []
  | cons {k d : D} {ps : List (D × D)} {key : Key} {v : V} {r : List (Key × V)} : keyOf k = some key → Rep K H Ex d v → RepK K H Ex ps r → RepK K H Ex ((k, d) :: ps) ((key, v) :: r)
inductive RepT (K : PySem.W.Frag) (H : Hp) (Ex : Addr → Prop) : List (D × D) → List (List Key × V) → Prop
  | nil : RepT K H Ex [] []
  | cons {k d : D} {ps : List (D × D)} {key : List Key} {v : V} {r : List (List Key × V)} : tkeyOf k = some key → Rep K H Ex d v → RepT K H Ex ps r → RepT K H Ex ((k, d) :: ps) ((key, v) :: r)
end
/-- an owned object's content -/
inductive RepO (K : PySem.W.Frag) (H : Hp) (Ex : Addr → Prop) : D → Addr → Prop
  | lst {a : Addr} {xs : List V} {ds : List D} : H a = some (.lst xs) → Reps K H Ex ds xs → RepO K H Ex (.list ds) a
  | dk {a : Addr} {kvs : List (Key × V)} {ps : List (D × D)} : H a = some (.dK kvs) → RepK K H Ex ps kvs → RepO K H Ex (.dict ps) a
  | dt {a : Addr} {kvs : List (List Key × V)} {ps : List (D × D)} : H a = some (.dT kvs) → RepT K H Ex ps kvs → RepO K H Ex (.dict ((.none, .none) :: ps)) a
def RepB (K : PySem.W.Frag) (H : Hp) (Ex : Addr → Prop) (d : D) (v : V) : Prop := Rep K H Ex d v ∨ ∃ a, v = .ref a ∧ RepO K H Ex d a

def Keep (Ex : Addr → Prop) (H H' : Hp) : Prop := ∀ a o, ¬ Ex a → H a = some o → H' a = some o
theorem Keep.refl {Ex : Addr → Prop} {H : Hp} : Keep Ex H H := fun _ _ _ h => h
theorem Keep.trans {Ex Ex1 : Addr → Prop} {H H1 H2 : Hp} (a : Keep Ex H H1) (b : Keep Ex1 H1 H2) (s : ∀ x, Ex1 x → Ex x) : Keep Ex H H2 := fun x o n h => b x o (fun z => n (s x z)) (a x o n h)
theorem Keep.of {Ex : Addr → Prop} {H H' : Hp} (h : ∀ a o, H a = some o → H' a = some o) : Keep Ex H H' := fun a o _ e => h a o e
theorem rd_keep {Ex : Addr → Prop} {H H' : Hp} {a : Addr} {u : HO} (k : Keep Ex H H') (n : ¬ Ex a) (r : Rd H a u) : Rd H' a u := by
  rcases r with r | ⟨o, r⟩
  · exact .inl (k a _ n r)
  · exact .inr ⟨o, k a _ n r⟩
theorem keep_some {H H' : Hp} (s : ∀ a o, H a = some o → H' a = some o) {a : Addr} (h : H a ≠ none) : H' a ≠ none := by
  cases e : H a with
  | none => exact absurd e h
  | some o => rw [s a o e]; exact fun z => nomatch z
theorem rd_some {H : Hp} {a : Addr} {u : HO} (r : Rd H a u) : H a ≠ none := by
  rcases r with r | ⟨o, r⟩ <;> (rw [r]; exact fun z => nomatch z)

section
variable {K : PySem.W.Frag} {H H' : Hp} {Ex Ex' : Addr → Prop}
mutual
theorem Rep.mono' (k : Keep Ex H H') (x : ∀ a, Ex' a → Ex a ∨ H a = none) : ∀ {d : D} {v : V}, Rep K H Ex d v → Rep K H' Ex' d v
  | _, _, .non => .non
  | _, _, .bl _ => .bl _
  | _, _, .int _ => .int _
  | _, _, .str _ => .str _
  | _, _, .lst h1 h2 => .lst (h1.elim (fun ⟨r, n⟩ => .inl ⟨rd_keep k n r, fun z => (x _ z).elim n (rd_some r)⟩) .inr) (Reps.mono' k x h2)
  | _, _, .tup h1 n h2 => .tup (k _ _ n h1) (fun z => (x _ z).elim n (by rw [h1]; exact fun z => nomatch z)) (Reps.mono' k x h2)
  | _, _, .dk h1 n h2 => .dk (k _ _ n h1) (fun z => (x _ z).elim n (by rw [h1]; exact fun z => nomatch z)) (RepK.mono' k x h2)
  | _, _, .dt h1 n h2 => .dt (k _ _ n h1) (fun z => (x _ z).elim n (by rw [h1]; exact fun z => nomatch z)) (RepT.mono' k x h2)
theorem Reps.mono' (k : Keep Ex H H') (x : ∀ a, Ex' a → Ex a ∨ H a = none) : ∀ {ds : List D} {vs : List V}, Reps K H Ex ds vs → Reps K H' Ex' ds vs
  | _, _, .nil => .nil
  | _, _, .cons h1 h2 => .cons (Rep.mono' k x h1) (Reps.mono' k x h2)
theorem RepK.mono' (k : Keep Ex H H') (x : ∀ a, Ex' a → Ex a ∨ H a = none) : ∀ {ps : List (D × D)} {vs : List (Key × V)}, RepK K H Ex ps vs → RepK K H' Ex' ps vs
  | _, _, .nil => .nil
  | _, _, .cons h0 h1 h2 => .cons h0 (Rep.mono' k x h1) (RepK.mono' k x h2)
theorem RepT.mono' (k : Keep Ex H H') (x : ∀ a, Ex' a → Ex a ∨ H a = none) : ∀ {ps : List (D × D)} {vs : List (List Key × V)}, RepT K H Ex ps vs → RepT K H' Ex' ps vs
  | _, _, .nil => .nil
  | _, _, .cons h0 h1 h2 => .cons h0 (Rep.mono' k x h1) (RepT.mono' k x h2)
end
theorem Rep.mono (k : Keep Ex H H') (x : ∀ a, Ex' a → Ex a ∨ H a = none) (d : D) (v : V) (h : Rep K H Ex d v) : Rep K H' Ex' d v := Rep.mono' k x h
theorem Reps.mono (k : Keep Ex H H') (x : ∀ a, Ex' a → Ex a ∨ H a = none) (d : List D) (v : List V) (h : Reps K H Ex d v) : Reps K H' Ex' d v := Reps.mono' k x h
theorem RepK.mono (k : Keep Ex H H') (x : ∀ a, Ex' a → Ex a ∨ H a = none) (d : List (D × D)) (v : List (Key × V)) (h : RepK K H Ex d v) : RepK K H' Ex' d v := RepK.mono' k x h
theorem RepT.mono (k : Keep Ex H H') (x : ∀ a, Ex' a → Ex a ∨ H a = none) (d : List (D × D)) (v : List (List Key × V)) (h : RepT K H Ex d v) : RepT K H' Ex' d v := RepT.mono' k x h
theorem RepO.mono {d : D} {a : Addr} (k : Keep Ex H H') (x : ∀ a, Ex' a → Ex a ∨ H a = none) (e : H' a = H a) (h : RepO K H Ex d a) : RepO K H' Ex' d a := by
  cases h with
  | lst h1 h2 => exact .lst (e.trans h1) (Reps.mono k x _ _ h2)
  | dk h1 h2 => exact .dk (e.trans h1) (RepK.mono k x _ _ h2)
  | dt h1 h2 => exact .dt (e.trans h1) (RepT.mono k x _ _ h2)
theorem RepO.some {d : D} {a : Addr} (h : RepO K H Ex d a) : ∃ o, H a = some o ∧ Mut (some o) ∧ (∀ ps, o ≠ .tbl ps) ∧ ∀ xs, o ≠ .tup xs := by
  cases h with
  | lst h1 h2 => exact ⟨_, h1, trivial, (fun _ z => nomatch z), fun _ z => nomatch z⟩
  | dk h1 h2 => exact ⟨_, h1, trivial, (fun _ z => nomatch z), fun _ z => nomatch z⟩
  | dt h1 h2 => exact ⟨_, h1, trivial, (fun _ z => nomatch z), fun _ z => nomatch z⟩
theorem RepO.rep {d : D} {a : Addr} (n : ¬ Ex a) (h : RepO K H Ex d a) : Rep K H Ex d (.ref a) := by
  cases h with
  | lst h1 h2 => exact .lst (.inl ⟨.inl h1, n⟩) h2
  | dk h1 h2 => exact .dk h1 n h2
  | dt h1 h2 => exact .dt h1 n h2
theorem Reps.length : ∀ {ds : List D} {vs : List V}, Reps K H Ex ds vs → ds.length = vs.length
  | [], _, h => by cases h; rfl
  | _ :: _, _, h => by
    cases h with
    | cons h1 h2 => rw [List.length_cons, List.length_cons, Reps.length h2]
theorem Reps.get : ∀ {ds : List D} {vs : List V} {i : Nat} {d : D}, Reps K H Ex ds vs → ds[i]? = some d → ∃ v, vs[i]? = some v ∧ Rep K H Ex d v
  | [], _, _, _, h, e => by simp at e
  | d :: ds, _, i, d', h, e => by
    cases h with
    | cons h1 h2 =>
      cases i with
      | zero => simp at e; subst e; exact ⟨_, rfl, h1⟩
      | succ i =>
        obtain ⟨v, e1, r⟩ := Reps.get h2 (by simpa using e)
        exact ⟨v, by simpa using e1, r⟩
theorem Reps.getV : ∀ {ds : List D} {vs : List V} {i : Nat} {v : V}, Reps K H Ex ds vs → vs[i]? = some v → ∃ d, ds[i]? = some d ∧ Rep K H Ex d v
  | _, [], _, _, h, e => by simp at e
  | _, v :: vs, i, v', h, e => by
    cases h with
    | cons h1 h2 =>
      cases i with
      | zero => simp at e; subst e; exact ⟨_, rfl, h1⟩
      | succ i =>
        obtain ⟨d, e1, r⟩ := Reps.getV h2 (by simpa using e)
        exact ⟨d, by simpa using e1, r⟩
theorem Reps.append : ∀ {ds es : List D} {vs ws : List V}, Reps K H Ex ds vs → Reps K H Ex es ws → Reps K H Ex (ds ++ es) (vs ++ ws)
  | [], _, _, _, h, g => by cases h; exact g
  | _ :: _, _, _, _, h, g => by
    cases h with
    | cons h1 h2 => exact .cons h1 (Reps.append h2 g)
theorem Reps.take : ∀ {ds : List D} {vs : List V} (n : Nat), Reps K H Ex ds vs → Reps K H Ex (ds.take n) (vs.take n)
  | _, _, 0, h => by rw [List.take_zero, List.take_zero]; exact .nil
  | [], _, n + 1, h => by cases h; exact .nil
  | _ :: _, _, n + 1, h => by
    cases h with
    | cons h1 h2 => exact .cons h1 (Reps.take n h2)
theorem Reps.drop : ∀ {ds : List D} {vs : List V} (n : Nat), Reps K H Ex ds vs → Reps K H Ex (ds.drop n) (vs.drop n)
  | _, _, 0, h => h
  | [], _, n + 1, h => by cases h; exact .nil
  | _ :: _, _, n + 1, h => by
    cases h with
    | cons h1 h2 => exact Reps.drop n h2
theorem Reps.set {x : D} {v : V} (r : Rep K H Ex x v) : ∀ {ds : List D} {vs : List V} (n : Nat), Reps K H Ex ds vs → Reps K H Ex (ds.set n x) (vs.set n v)
  | [], _, _, h => by cases h; exact .nil
  | _ :: _, _, 0, h => by
    cases h with
    | cons h1 h2 => exact .cons r h2
  | _ :: _, _, n + 1, h => by
    cases h with
    | cons h1 h2 => exact .cons h1 (Reps.set r n h2)
theorem Reps.erase : ∀ {ds : List D} {vs : List V} (n : Nat), Reps K H Ex ds vs → Reps K H Ex (ds.eraseIdx n) (vs.eraseIdx n)
  | [], _, _, h => by cases h; exact .nil
  | _ :: _, _, 0, h => by
    cases h with
    | cons h1 h2 => exact h2
  | _ :: _, _, n + 1, h => by
    cases h with
    | cons h1 h2 => exact .cons h1 (Reps.erase n h2)
theorem Reps.reverse : ∀ {ds : List D} {vs : List V}, Reps K H Ex ds vs → Reps K H Ex ds.reverse vs.reverse
  | [], _, h => by cases h; exact .nil
  | _ :: _, _, h => by
    cases h with
    | cons h1 h2 =>
      rw [List.reverse_cons, List.reverse_cons]
      exact Reps.append (Reps.reverse h2) (.cons h1 .nil)
theorem rep_lstSq {a : Addr} {xs : List V} (h : (Rd H a (.lst xs) ∧ ¬ Ex a) ∨ KL K a xs) : SqL K H a xs := by
  rcases h with ⟨r, _⟩ | h
  · exact .inl r
  · exact .inr h
mutual
theorem Rep.dp : ∀ (d : D) (v : V), PyData.canLay0 d = true → Rep K H Ex d v → Dp K H v d
  | .none, _, _, h => by cases h; exact .non
  | .bool _, _, _, h => by cases h; exact .bl _
  | .int _, _, _, h => by cases h; exact .int _
  | .str _, _, _, h => by cases h; exact .str _
  | .list ds, _, c, h => by
    cases h with
    | lst h1 h2 => exact .lst (rep_lstSq h1) (Reps.dp ds _ (by simpa [PyData.canLay0] using c) h2)
  | .tuple ds, _, c, h => by
    cases h with
    | tup h1 n h2 => exact .tup (.of h1) (Reps.dp ds _ (by simpa [PyData.canLay0] using c) h2)
  | .dict _, _, c, h => by simp [PyData.canLay0] at c
theorem Reps.dp : ∀ (ds : List D) (vs : List V), PyData.canLayAll0 ds = true → Reps K H Ex ds vs → DpAll K H vs ds
  | [], _, _, h => by cases h; exact .nil
  | d :: ds, _, c, h => by
    simp only [PyData.canLayAll0, Bool.and_eq_true] at c
    cases h with
    | cons h1 h2 => exact .cons (Rep.dp d _ c.1 h1) (Reps.dp ds _ c.2 h2)
end
theorem RepB.dp {d : D} {v : V} (c : PyData.canLay0 d = true) (h : RepB K H Ex d v) : Dp K H v d := by
  rcases h with h | ⟨a, rfl, h⟩
  · exact Rep.dp d v c h
  · cases h with
    | lst h1 h2 => exact .lst (.of h1) (Reps.dp _ _ (by simpa [PyData.canLay0] using c) h2)
    | dk h1 h2 => simp [PyData.canLay0] at c
    | dt h1 h2 => simp [PyData.canLay0] at c
/-- a list to be read -/
theorem RepB.lst {ds : List D} {v : V} (h : RepB K H Ex (.list ds) v) : ∃ a xs, v = .ref a ∧ SqL K H a xs ∧ Reps K H Ex ds xs := by
  rcases h with h | ⟨a, rfl, h⟩
  · cases h with
    | lst h1 h2 => exact ⟨_, _, rfl, rep_lstSq h1, h2⟩
  · cases h with
    | lst h1 h2 => exact ⟨_, _, rfl, .of h1, h2⟩
theorem RepB.tup {ds : List D} {v : V} (h : RepB K H Ex (.tuple ds) v) : ∃ a xs, v = .ref a ∧ H a = some (.tup xs) ∧ ¬ Ex a ∧ Reps K H Ex ds xs := by
  rcases h with h | ⟨a, rfl, h⟩
  · cases h with
    | tup h1 n h2 => exact ⟨_, _, rfl, h1, n, h2⟩
  · cases h
theorem RepB.int {i : Int} {v : V} (h : RepB K H Ex (.int i) v) : v = .int i := by
  rcases h with h | ⟨a, rfl, h⟩ <;> cases h
  rfl
theorem RepB.bl {i : Bool} {v : V} (h : RepB K H Ex (.bool i) v) : v = .bl i := by
  rcases h with h | ⟨a, rfl, h⟩ <;> cases h
  rfl
theorem RepB.str {i : Str} {v : V} (h : RepB K H Ex (.str i) v) : v = .str i := by
  rcases h with h | ⟨a, rfl, h⟩ <;> cases h
  rfl
theorem RepB.non {v : V} (h : RepB K H Ex .none v) : v = .non := by
  rcases h with h | ⟨a, rfl, h⟩ <;> cases h
  rfl
theorem RepB.dict {ps : List (D × D)} {v : V} (h : RepB K H Ex (.dict ps) v) : ∃ a, v = .ref a ∧ ((∃ kvs, H a = some (.dK kvs) ∧ RepK K H Ex ps kvs) ∨ ∃ qs kvs, ps = (.none, .none) :: qs ∧ H a = some (.dT kvs) ∧ RepT K H Ex qs kvs) := by
  rcases h with h | ⟨a, rfl, h⟩
  · cases h with
    | dk h1 n h2 => exact ⟨_, rfl, .inl ⟨_, h1, h2⟩⟩
    | dt h1 n h2 => exact ⟨_, rfl, .inr ⟨_, _, rfl, h1, h2⟩⟩
  · cases h with
    | dk h1 h2 => exact ⟨_, rfl, .inl ⟨_, h1, h2⟩⟩
    | dt h1 h2 => exact ⟨_, rfl, .inr ⟨_, _, rfl, h1, h2⟩⟩
end

/-! ### the slots -/
inductive Sl where
  | un | val (d : D) | own (d : D) | io (d : D)
abbrev Er := List Sl
inductive Hd where
  | v (d : D) | l (i : Nat)
/-- what is fixed through a def's run: the tables, what is not to be read plainly, the heap at the entry, the places of what the caller lends -/
structure Bx where
  T : List Addr
  Ex0 : Addr → Prop
  H0 : Hp
  I0 : Nat → Option Addr
  L : Option (Addr × Str)
/-- whose slots own what; behind the slots lie values that have no name yet -/
structure Om where
  f : Nat → Option Addr
  τ : List (Option V)
instance : CoeFun Om (fun _ => Nat → Option Addr) := ⟨Om.f⟩
def Exs (B : Bx) (om : Om) : Addr → Prop := fun a => B.Ex0 a ∨ ∃ i, om i = some a
/-- the table of a def that makes lambdas: what it tells bears the name q -/
def LamT (B : Bx) (om : Om) (H : Hp) (P : Addr) (q : Str) : Prop :=
  B.Ex0 P ∧ P ∉ B.T ∧ (∀ i, om i ≠ some P) ∧ ∃ ps : Array Value, H P = some (.tbl ps) ∧ TriplesOk ps.toList ∧ ∀ (p : Pos) (cv : Value), codeAmong p ps.toList = some cv → ∃ c, cv = .ref c ∧ H c = some (LamX.CodeO c q) ∧ ∀ i, om i ≠ some c
theorem LamT.chg {B : Bx} {om om' : Om} {H H' : Hp} {P : Addr} {q : Str} (h : LamT B om H P q) (tb : ∀ P ∈ B.T, GxR.TabG H P) (kp : ∀ a o, H a = some o → (∀ i, om i ≠ some a) → a ∉ B.T → H' a = some o) (g : ∀ i a, om' i = some a → (∃ j, om j = some a) ∨ H a = none) : LamT B om' H' P q := by
  obtain ⟨h1, h2, h3, ps, h4, h5, h6⟩ := h
  have nn : ∀ a o, H a = some o → (∀ i, om i ≠ some a) → ∀ i, om' i ≠ some a := fun a o e n i z => by
    rcases g i a z with ⟨j, z⟩ | z
    · exact n j z
    · rw [e] at z; cases z
  refine ⟨h1, h2, nn P _ h4 h3, ps, kp P _ h4 h3 h2, h5, fun p cv hc => ?_⟩
  obtain ⟨c, e1, e2, e3⟩ := h6 p cv hc
  refine ⟨c, e1, kp c _ e2 e3 (fun z => ?_), nn c _ e2 e3⟩
  obtain ⟨qs, e, _⟩ := tb c z
  rw [e2] at e
  exact LamX.codeO_ne qs (Option.some.inj e)
structure Rel (K : PySem.W.Frag) (B : Bx) (ρ : Er) (om : Om) (σ : L2.St) (H : Hp) : Prop where
  len : ρ.length = (σ ++ om.τ).length
  val : ∀ (i : Nat) d, ρ[i]? = some (.val d) → ∃ v, (σ ++ om.τ)[i]? = some (some v) ∧ Rep K H (Exs B om) d v
  own : ∀ (i : Nat) d, ρ[i]? = some (.own d) → ∃ a, om i = some a ∧ (σ ++ om.τ)[i]? = some (some (.ref a)) ∧ RepO K H (Exs B om) d a ∧ B.H0 a = none
  io : ∀ (i : Nat) d, ρ[i]? = some (.io d) → ∃ a, om i = some a ∧ (σ ++ om.τ)[i]? = some (some (.ref a)) ∧ RepO K H (Exs B om) d a ∧ B.I0 i = some a
  inj : ∀ i j a, om i = some a → om j = some a → i = j
  old : ∀ i a, om i = some a → (∃ j, B.I0 j = some a) ∨ B.H0 a = none
  exd : ∀ a, Exs B om a → ∃ o, H a = some o ∧ ∀ xs, o ≠ .tup xs
  keep : ∀ a o, B.H0 a = some o → (∀ j, B.I0 j ≠ some a) → a ∉ B.T → H a = some o
  tabs : ∀ P ∈ B.T, GxR.TabG H P
  tx : ∀ P ∈ B.T, B.Ex0 P
  ex0 : ∀ a, B.Ex0 a → B.H0 a ≠ none
  fin : ∀ i, ρ.length ≤ i → om i = none
  lent : ∀ j a, B.I0 j = some a → H a ≠ none
  lam : ∀ P q, B.L = some (P, q) → LamT B om H P q
def HRep (K : PySem.W.Frag) (B : Bx) (om : Om) (σ : L2.St) (H : Hp) : Hd → V → Prop
  | .v d, v => Rep K H (Exs B om) d v
  | .l i, v => (σ ++ om.τ)[i]? = some (some v)
def res : Hd → Er → Option D
  | .v d, _ => some d
  | .l i, ρ => match ρ[i]? with
    | some (.own d) => some d
    | some (.io d) => some d
    | some (.val d) => some d
    | _ => none
/-- a step: what is not owned stays; what is newly owned is new -/
structure Stp (B : Bx) (om : Om) (H : Hp) (om' : Om) (H' : Hp) : Prop where
  keep : Keep (Exs B om) H H'
  grow : ∀ a, Exs B om' a → Exs B om a ∨ H a = none
  ext : ∃ t, om'.τ = om.τ ++ t
theorem Stp.refl {B : Bx} {om : Om} {H : Hp} : Stp B om H om H := ⟨.refl, fun _ z => .inl z, [], (List.append_nil _).symm⟩
theorem Stp.trans {B : Bx} {om om1 om2 : Om} {H H1 H2 : Hp} (a : Stp B om H om1 H1) (b : Stp B om1 H1 om2 H2) : Stp B om H om2 H2 := by
  refine ⟨fun x o n e => b.keep x o (fun z => (a.grow x z).elim n (by rw [e]; exact fun z => nomatch z)) (a.keep x o n e), fun x z => ?_, ?_⟩
  rotate_left
  · obtain ⟨t, e⟩ := a.ext
    obtain ⟨t', e'⟩ := b.ext
    exact ⟨t ++ t', by rw [e', e, List.append_assoc]⟩
  rcases b.grow x z with q | q
  · exact a.grow x q
  · by_cases hx : Exs B om x
    · exact .inl hx
    · refine .inr ?_
      cases e : H x with
      | none => rfl
      | some o => rw [a.keep x o hx e] at q; cases q
theorem Stp.same {B : Bx} {om : Om} {H H' : Hp} (s : ∀ a o, H a = some o → H' a = some o) : Stp B om H om H' := ⟨.of s, fun _ z => .inl z, [], (List.append_nil _).symm⟩
def Sub (om' om : Om) : Prop := om'.τ = om.τ ∧ ∀ i a, om' i = some a → om i = some a
theorem Sub.refl {om : Om} : Sub om om := ⟨rfl, fun _ _ h => h⟩
theorem Sub.ex {om' om : Om} {B : Bx} (s : Sub om' om) : ∀ a, Exs B om' a → Exs B om a := fun a h => h.elim .inl fun ⟨i, e⟩ => .inr ⟨i, s.2 i a e⟩
theorem Stp.sub {B : Bx} {om om' : Om} {H : Hp} (s : Sub om' om) : Stp B om H om' H := ⟨.refl, fun a z => .inl (s.ex a z), [], by rw [s.1, List.append_nil]⟩
theorem Rep.stp {K : PySem.W.Frag} {B : Bx} {om om' : Om} {H H' : Hp} {d : D} {v : V} (s : Stp B om H om' H') (r : Rep K H (Exs B om) d v) : Rep K H' (Exs B om') d v := Rep.mono s.keep s.grow _ _ r
theorem Reps.stp {K : PySem.W.Frag} {B : Bx} {om om' : Om} {H H' : Hp} {d : List D} {v : List V} (s : Stp B om H om' H') (r : Reps K H (Exs B om) d v) : Reps K H' (Exs B om') d v := Reps.mono s.keep s.grow _ _ r

section
variable {K : PySem.W.Frag} {B : Bx} {ρ ρ' : Er} {om om' : Om} {σ : L2.St} {H H' : Hp} {h : Hd} {v : V} {d : D}
theorem Rel.resb (R : Rel K B ρ om σ H) (r : HRep K B om σ H h v) (e : res h ρ = some d) : RepB K H (Exs B om) d v := by
  cases h with
  | v d' => cases e; exact .inl r
  | l i =>
    have r : (σ ++ om.τ)[i]? = some (some v) := r
    simp only [res] at e
    split at e
    · rename_i d' e'
      cases e
      obtain ⟨a, _, es, o, _⟩ := R.own i _ e'
      rw [r] at es; cases es
      exact .inr ⟨a, rfl, o⟩
    · rename_i d' e'
      cases e
      obtain ⟨a, _, es, o, _⟩ := R.io i _ e'
      rw [r] at es; cases es
      exact .inr ⟨a, rfl, o⟩
    · rename_i d' e'
      cases e
      obtain ⟨w, es, o⟩ := R.val i _ e'
      rw [r] at es; cases es
      exact .inl o
    · cases e
theorem get_ext {α : Type} {l t : List α} {i : Nat} {x : α} (h : l[i]? = some x) : (l ++ t)[i]? = some x := by rw [List.getElem?_append_left (List.getElem?_eq_some_iff.mp h).1]; exact h
theorem Stp.at (s : Stp B om H om' H') {i : Nat} {x : Option V} (h : (σ ++ om.τ)[i]? = some x) : (σ ++ om'.τ)[i]? = some x := by
  obtain ⟨t, e⟩ := s.ext
  rw [e, ← List.append_assoc]
  exact get_ext h
theorem HRep.stp (s : Stp B om H om' H') (r : HRep K B om σ H h v) : HRep K B om' σ H' h v := by
  cases h with
  | v d => exact Rep.stp s r
  | l i => exact s.at r
/-- all that stood stands -/
theorem Rel.same (R : Rel K B ρ om σ H) (s : ∀ a o, H a = some o → H' a = some o) : Rel K B ρ om σ H' := by
  have k : Keep (Exs B om) H H' := .of s
  have x : ∀ a, Exs B om a → Exs B om a ∨ H a = none := fun _ z => .inl z
  have oe : ∀ {d : D} {a : Addr}, RepO K H (Exs B om) d a → H' a = H a := fun {d a} o => by
    obtain ⟨u, e, _⟩ := o.some
    rw [e]; exact s a u e
  refine ⟨R.len, fun i d e => ?_, fun i d e => ?_, fun i d e => ?_, R.inj, R.old, fun a z => ?_, fun a o e n1 n2 => s a o (R.keep a o e n1 n2), fun P hP => ?_, R.tx, R.ex0, R.fin, fun j a e => keep_some s (R.lent j a e), fun P q e => (R.lam P q e).chg R.tabs (fun a o e _ _ => s a o e) (fun i a z => .inl ⟨i, z⟩)⟩
  · obtain ⟨v, e1, r⟩ := R.val i d e
    exact ⟨v, e1, Rep.mono k x _ _ r⟩
  · obtain ⟨a, e0, e1, r, q⟩ := R.own i d e
    exact ⟨a, e0, e1, r.mono k x (oe r), q⟩
  · obtain ⟨a, e0, e1, r, q⟩ := R.io i d e
    exact ⟨a, e0, e1, r.mono k x (oe r), q⟩
  · obtain ⟨o, e, n⟩ := R.exd a z
    exact ⟨o, s a o e, n⟩
  · obtain ⟨ps, e, t⟩ := R.tabs P hP
    exact ⟨ps, s _ _ e, t⟩
/-- the slots' own addresses, one taken out, one put in -/
def drp (om : Om) (i : Nat) : Om := ⟨fun j => if j = i then none else om j, om.τ⟩
theorem drp_self {om : Om} {i : Nat} : drp om i i = none := if_pos rfl
theorem drp_ne {om : Om} {i j : Nat} (h : j ≠ i) : drp om i j = om j := if_neg h
theorem drp_sub {om : Om} {i : Nat} : Sub (drp om i) om := ⟨rfl, fun j b h => by
  by_cases z : j = i
  · rw [z, drp_self] at h; cases h
  · rwa [drp_ne z] at h⟩
def put (om : Om) (i : Nat) (a : Addr) : Om := ⟨fun j => if j = i then some a else om j, om.τ⟩
theorem put_self {om : Om} {i : Nat} {a : Addr} : put om i a i = some a := if_pos rfl
theorem put_ne {om : Om} {i j : Nat} {a : Addr} (h : j ≠ i) : put om i a j = om j := if_neg h
theorem set_get {α : Type} {l : List α} {i j : Nat} {x y : α} (h : (l.set i x)[j]? = some y) : (j = i ∧ y = x) ∨ (j ≠ i ∧ l[j]? = some y) := by
  by_cases z : i = j
  · subst z
    by_cases hl : i < l.length
    · rw [List.getElem?_set_self hl] at h; exact .inl ⟨rfl, (Option.some.inj h).symm⟩
    · rw [List.getElem?_eq_none (by simpa using hl)] at h; cases h
  · rw [List.getElem?_set_ne z] at h; exact .inr ⟨fun e => z e.symm, h⟩
/-- the same state with other slots' states; nothing new is owned -/
theorem Rel.weak {σ' : L2.St} (R : Rel K B ρ om σ H) (s : ∀ i a, om' i = some a → om i = some a) (len : ρ'.length = (σ' ++ om'.τ).length) (fin : ∀ i, ρ'.length ≤ i → om' i = none)
    (val : ∀ (i : Nat) d, ρ'[i]? = some (.val d) → ∃ v, (σ' ++ om'.τ)[i]? = some (some v) ∧ Rep K H (Exs B om') d v)
    (own : ∀ (i : Nat) d, ρ'[i]? = some (.own d) → ρ[i]? = some (.own d) ∧ om' i = om i ∧ (σ' ++ om'.τ)[i]? = (σ ++ om.τ)[i]?)
    (io : ∀ (i : Nat) d, ρ'[i]? = some (.io d) → ρ[i]? = some (.io d) ∧ om' i = om i ∧ (σ' ++ om'.τ)[i]? = (σ ++ om.τ)[i]?) : Rel K B ρ' om' σ' H := by
  have sx : ∀ a, Exs B om' a → Exs B om a := fun a h => h.elim .inl fun ⟨i, e⟩ => .inr ⟨i, s i a e⟩
  have x : ∀ a, Exs B om' a → Exs B om a ∨ H a = none := fun a z => .inl (sx a z)
  refine ⟨len, val, fun i d e => ?_, fun i d e => ?_, fun i j a e1 e2 => R.inj i j a (s i a e1) (s j a e2), fun i a e => R.old i a (s i a e), fun a z => R.exd a (sx a z), R.keep, R.tabs, R.tx, R.ex0, fin, R.lent, fun P q e => (R.lam P q e).chg R.tabs (fun a o e _ _ => e) (fun i a z => .inl ⟨i, s i a z⟩)⟩
  · obtain ⟨e1, e2, e3⟩ := own i d e
    obtain ⟨a, q1, q2, q3, q4⟩ := R.own i d e1
    exact ⟨a, e2.trans q1, e3.trans q2, q3.mono Keep.refl x rfl, q4⟩
  · obtain ⟨e1, e2, e3⟩ := io i d e
    obtain ⟨a, q1, q2, q3, q4⟩ := R.io i d e1
    exact ⟨a, e2.trans q1, e3.trans q2, q3.mono Keep.refl x rfl, q4⟩
theorem Sub.none {i : Nat} (s : Sub om' om) (h : om i = none) : om' i = none := by
  cases e : om' i with
  | none => rfl
  | some a => have := s.2 i a e; rw [h] at this; cases this
theorem Rel.val' (R : Rel K B ρ om σ H) (s : Sub om' om) {i : Nat} (e : ρ[i]? = some (.val d)) : ∃ v, (σ ++ om'.τ)[i]? = some (some v) ∧ Rep K H (Exs B om') d v := by
  obtain ⟨v, e1, r⟩ := R.val i d e
  exact ⟨v, by rw [s.1]; exact e1, Rep.mono Keep.refl (fun a z => .inl (s.ex a z)) _ _ r⟩
/-- a slot that owns is made plain -/
theorem Rel.freeze {i : Nat} (R : Rel K B ρ om σ H) (e : ρ[i]? = some (.own d)) (r : (σ ++ om.τ)[i]? = some (some v)) :
    Rel K B (ρ.set i (.val d)) (drp om i) σ H ∧ Rep K H (Exs B (drp om i)) d v := by
  obtain ⟨a, ea, es, o, hn⟩ := R.own i d e
  rw [r] at es; cases es
  have x : ∀ b, Exs B (drp om i) b → Exs B om b ∨ H b = none := fun b z => .inl (drp_sub.ex b z)
  have na : ¬ Exs B (drp om i) a := by
    rintro (z | ⟨j, z⟩)
    · exact R.ex0 a z hn
    · have hj : j = i := R.inj j i a (drp_sub.2 j a z) ea
      rw [hj, drp_self] at z; cases z
  have rp : Rep K H (Exs B (drp om i)) d (.ref a) := (o.mono Keep.refl x rfl).rep na
  refine ⟨R.weak drp_sub.2 (by rw [List.length_set]; exact R.len) (fun j hj => drp_sub.none (R.fin j (by simpa using hj))) (fun j d' e' => ?_) (fun j d' e' => ?_) (fun j d' e' => ?_), rp⟩
  · rcases set_get e' with ⟨rfl, q⟩ | ⟨_, q⟩
    · cases q; exact ⟨_, r, rp⟩
    · exact R.val' drp_sub q
  · rcases set_get e' with ⟨_, q⟩ | ⟨hj, q⟩
    · cases q
    · exact ⟨q, drp_ne hj, rfl⟩
  · rcases set_get e' with ⟨_, q⟩ | ⟨hj, q⟩
    · cases q
    · exact ⟨q, drp_ne hj, rfl⟩
/-- a handle made a value -/
def frz : Hd → Er → Option (D × Er)
  | .v d, ρ => some (d, ρ)
  | .l i, ρ => match ρ[i]? with
    | some (.own d) => some (d, ρ.set i (.val d))
    | some (.val d) => some (d, ρ)
    | _ => none
theorem Rel.frz {ρ1 : Er} (R : Rel K B ρ om σ H) (r : HRep K B om σ H h v) (e : Ev.frz h ρ = some (d, ρ1)) : ∃ om', Sub om' om ∧ Rel K B ρ1 om' σ H ∧ Rep K H (Exs B om') d v := by
  cases h with
  | v d' => cases e; exact ⟨om, .refl, R, r⟩
  | l i =>
    have r : (σ ++ om.τ)[i]? = some (some v) := r
    simp only [Ev.frz] at e
    split at e
    · rename_i d' e'
      cases e
      obtain ⟨a, b⟩ := R.freeze e' r
      exact ⟨_, drp_sub, a, b⟩
    · rename_i d' e'
      cases e
      obtain ⟨w, es, o⟩ := R.val i _ e'
      rw [r] at es; cases es
      exact ⟨om, .refl, R, o⟩
    · cases e

/-! ### what an expression does -/
def tH (X : Cx) (B : Bx) (ρ : Er) (h : Hd) (ρ' : Er) : TE := fun σ H Q => ∃ om, Rel X.K B ρ om σ H ∧ ∀ v H' om', Stp B om H om' H' → Rel X.K B ρ' om' σ H' → HRep X.K B om' σ H' h v → Q v H'
def tV (X : Cx) (B : Bx) (ρ : Er) (d : D) (ρ' : Er) : TE := fun σ H Q => ∃ om, Rel X.K B ρ om σ H ∧ ∀ v H' om', Stp B om H om' H' → Rel X.K B ρ' om' σ H' → Rep X.K H' (Exs B om') d v → Q v H'
def tT (X : Cx) (B : Bx) (ρ : Er) (c : Bool) (ρ' : Er) : TT := fun σ H Q => ∃ om, Rel X.K B ρ om σ H ∧ ∀ H' om', Stp B om H om' H' → Rel X.K B ρ' om' σ H' → Q c H'
inductive RepC (K : PySem.W.Frag) (H : Hp) (Ex : Addr → Prop) : D → HO → Prop
  | lst {xs : List V} {ds : List D} : Reps K H Ex ds xs → RepC K H Ex (.list ds) (.lst xs)
  | dk {kvs : List (Key × V)} {ps : List (D × D)} : RepK K H Ex ps kvs → RepC K H Ex (.dict ps) (.dK kvs)
  | dt {kvs : List (List Key × V)} {ps : List (D × D)} : RepT K H Ex ps kvs → RepC K H Ex (.dict ((.none, .none) :: ps)) (.dT kvs)
abbrev FE := Er → Option (Hd × Er)
abbrev FV := Er → Option (D × Er)
abbrev FT := Er → Option (Bool × Er)
def EV (X : Cx) (B : Bx) (e : Expr) (f : FE) : Prop := ∀ ρ h ρ', f ρ = some (h, ρ') → PE X e (tH X B ρ h ρ')
def ET (X : Cx) (B : Bx) (e : Expr) (f : FT) : Prop := ∀ ρ c ρ', f ρ = some (c, ρ') → PT X e (tT X B ρ c ρ')
def fz (f : FE) : FV := fun ρ => (f ρ).bind fun p => frz p.1 p.2
theorem pe_imp {X : Cx} {e : Expr} {t t' : TE} (h : PE X e t) (i : ∀ σ H Q, t' σ H Q → t σ H Q) : PE X e t' := ⟨fun pins s σ H Q I q => h.run pins s σ H Q I (i σ H Q q)⟩
theorem pe_impL {X : Cx} {e : Expr} {t t' : TE} (h : PE X e t) (i : ∀ σ H Q, σ.length = X.N.length → t' σ H Q → t σ H Q) : PE X e t' := ⟨fun pins s σ H Q I q => h.run pins s σ H Q I (i σ H Q I.len q)⟩
theorem ps_impL {X : Cx} {e : Stmt} {t t' : TS} (h : PS X e t) (i : ∀ D σ H, σ.length = X.N.length → t' D σ H → t D σ H) : PS X e t' := ⟨fun pins s σ H D I q => h.run pins s σ H D I (i D σ H I.len q)⟩
theorem pss_impL {X : Cx} {e : List Stmt} {t t' : TS} (h : PSs X e t) (i : ∀ D σ H, σ.length = X.N.length → t' D σ H → t D σ H) : PSs X e t' := ⟨fun pins s σ H D I q => h.run pins s σ H D I (i D σ H I.len q)⟩
theorem get_in {α : Type} {l t : List α} {i : Nat} {x : α} (hi : i < l.length) (h : (l ++ t)[i]? = some x) : l[i]? = some x := by rwa [List.getElem?_append_left hi] at h
theorem lt_of {α β : Type} {l : List α} {l' : List β} {i : Nat} {x : β} (e : l.length = l'.length) (h : l'[i]? = some x) : i < l.length := by rw [e]; exact (List.getElem?_eq_some_iff.mp h).1
theorem pt_imp {X : Cx} {e : Expr} {t t' : TT} (h : PT X e t) (i : ∀ σ H Q, t' σ H Q → t σ H Q) : PT X e t' := ⟨fun pins s σ H Q I q => h.run pins s σ H Q I (i σ H Q q)⟩
theorem ps_imp {X : Cx} {e : Stmt} {t t' : TS} (h : PS X e t) (i : ∀ D σ H, t' D σ H → t D σ H) : PS X e t' := ⟨fun pins s σ H D I q => h.run pins s σ H D I (i D σ H q)⟩
theorem pss_imp {X : Cx} {e : List Stmt} {t t' : TS} (h : PSs X e t) (i : ∀ D σ H, t' D σ H → t D σ H) : PSs X e t' := ⟨fun pins s σ H D I q => h.run pins s σ H D I (i D σ H q)⟩
theorem pa_imp {X : Cx} {e : List Expr} {t t' : TA} (h : PA X e t) (i : ∀ σ H Q, t' σ H Q → t σ H Q) : PA X e t' := ⟨fun pos pins s σ H Q I q => h.run pos pins s σ H Q I (i σ H Q q)⟩
theorem EV.fz {X : Cx} {e : Expr} {f : FE} (h : EV X B e f) {ρ d ρ'} (q : Ev.fz f ρ = some (d, ρ')) : PE X e (tV X B ρ d ρ') := by
  unfold Ev.fz at q
  obtain ⟨⟨hd, ρ1⟩, e1, e2⟩ := Option.bind_eq_some_iff.mp q
  refine pe_imp (h ρ hd ρ1 e1) fun σ H Q ⟨om, R, k⟩ => ⟨om, R, fun v H' om' s R' r => ?_⟩
  obtain ⟨om2, sb, R2, r2⟩ := R'.frz r e2
  exact k v H' om2 (s.trans (.sub sb)) R2 r2
end
end Ev

set_option maxRecDepth 100000
set_option maxHeartbeats 4000000
namespace Ev
open PySem PySem.Spec PyProof.Rows L2

/-! ### what operators do on data -/
def Fresh (Ex : Addr → Prop) (H : Hp) : Prop := ∀ a, Ex a → ∃ o, H a = some o ∧ ∀ xs, o ≠ .tup xs
theorem Fresh.no {Ex : Addr → Prop} {H : Hp} {p : Addr} (f : Fresh Ex H) (n : H p = none) : ¬ Ex p := fun z => by
  obtain ⟨o, e, _⟩ := f p z
  rw [n] at e; cases e
def r2 (K : PySem.W.Frag) (sem : D → D → Option D) : R2 := fun x y H Q => ∃ (Ex : Addr → Prop) (d1 d2 d : D), Fresh Ex H ∧ RepB K H Ex d1 x ∧ RepB K H Ex d2 y ∧ sem d1 d2 = some d ∧
  ∀ z H', (∀ a o, H a = some o → H' a = some o) → Rep K H' Ex d z → Q z H'
def r1 (K : PySem.W.Frag) (sem : D → Option D) : V → Hp → VK → Prop := fun x H Q => ∃ (Ex : Addr → Prop) (d1 d : D), Fresh Ex H ∧ RepB K H Ex d1 x ∧ sem d1 = some d ∧
  ∀ z H', (∀ a o, H a = some o → H' a = some o) → Rep K H' Ex d z → Q z H'
inductive RepBs (K : PySem.W.Frag) (H : Hp) (Ex : Addr → Prop) : List D → List V → Prop
  | nil : RepBs K H Ex [] []
  | cons {d : D} {ds : List D} {v : V} {vs : List V} : RepB K H Ex d v → RepBs K H Ex ds vs → RepBs K H Ex (d :: ds) (v :: vs)
def rN (K : PySem.W.Frag) (sem : List D → Option D) : List V → Hp → VK → Prop := fun xs H Q => ∃ (Ex : Addr → Prop) (ds : List D) (d : D), Fresh Ex H ∧ RepBs K H Ex ds xs ∧ sem ds = some d ∧
  ∀ z H', (∀ a o, H a = some o → H' a = some o) → Rep K H' Ex d z → Q z H'
theorem same_upd {H : Hp} {p : Addr} {o : HO} (n : H p = none) : ∀ a u, H a = some u → upd H p o a = some u := fun a u e => by rw [upd_ne (ne_of_none e n)]; exact e
section
variable {K : PySem.W.Frag} {H H' : Hp} {Ex : Addr → Prop}
theorem new_lst {p : Addr} {xs : List V} {ds : List D} (fr : Fresh Ex H) (n : H p = none) (r : Reps K H Ex ds xs) : Rep K (upd H p (.lst xs)) Ex (.list ds) (.ref p) :=
  .lst (.inl ⟨.inl upd_same, fr.no n⟩) (Reps.mono (.of (same_upd n)) (fun _ z => .inl z) _ _ r)
theorem new_tup {p : Addr} {xs : List V} {ds : List D} (fr : Fresh Ex H) (n : H p = none) (r : Reps K H Ex ds xs) : Rep K (upd H p (.tup xs)) Ex (.tuple ds) (.ref p) :=
  .tup upd_same (fr.no n) (Reps.mono (.of (same_upd n)) (fun _ z => .inl z) _ _ r)
theorem Rep.same {d : D} {v : V} (s : ∀ a o, H a = some o → H' a = some o) (r : Rep K H Ex d v) : Rep K H' Ex d v := Rep.mono (.of s) (fun _ z => .inl z) _ _ r
theorem Reps.same {d : List D} {v : List V} (s : ∀ a o, H a = some o → H' a = some o) (r : Reps K H Ex d v) : Reps K H' Ex d v := Reps.mono (.of s) (fun _ z => .inl z) _ _ r
end
abbrev line : Nat := sizeLine

def semAdd : D → D → Option D
  | .int i, .int j => some (.int (i + j))
  | .list a, .list b => if a.length + b.length ≤ 1000000 then some (.list (a ++ b)) else none
  | .tuple a, .tuple b => if a.length + b.length ≤ 1000000 then some (.tuple (a ++ b)) else none
  | .str a, .str b => if a.length + b.length ≤ 1000000 then some (.str (a ++ b)) else none
  | _, _ => none
def semSub : D → D → Option D
  | .int i, .int j => some (.int (i - j))
  | _, _ => none
def smallI (i : Int) : Bool := decide (-(2 ^ 64) < i) && decide (i < 2 ^ 64)
def semMul : D → D → Option D
  | .int i, .int j => if smallI i || smallI j then some (.int (i * j)) else none
  | _, _ => none
def semDiv : D → D → Option D
  | .int i, .int j => if decide (0 < j) && decide (j < 1073741824) then some (.int (i / j)) else none
  | _, _ => none
def semMod : D → D → Option D
  | .int i, .int j => if decide (0 < j) then some (.int (i % j)) else none
  | _, _ => none
def semPow : D → D → Option D
  | .int i, .int j => if decide (0 ≤ j) && decide (j ≤ 1000) && decide (i.natAbs < 2 ^ 64) then some (.int (i ^ j.toNat)) else none
  | _, _ => none
theorem line_ok {n : Nat} (h : n ≤ 1000000) : n ≤ sizeLine := by rw [sizeLine_eq]; omega
section
variable {X : Cx}
theorem opr_imp {f : Value → Value → Sem Value} {r r' : R2} (h : OpR X f r) (i : ∀ x y H Q, r' x y H Q → r x y H Q) : OpR X f r' := fun pins s σ H x y v u Q I rx ry q => h pins s σ H x y v u Q I rx ry (i x y H Q q)
theorem add_lst {pins : List (Addr × Obj)} {s : Shared} {σ : L2.St} {H : Hp} {a b : Addr} {xs ys : List V} {Q : VK} (I : Inv X pins σ H s) (ha : SqL X.K H a xs) (hb : SqL X.K H b ys) (hz : xs.length + ys.length ≤ sizeLine)
    (q : ∀ p, H p = none → Q (.ref p) (upd H p (.lst (xs ++ ys)))) : wpAny (model X.prog X.w) X.A (binaryOp .Add (.ref a) (.ref b)) (EP X pins σ Q) X.xe s := by
  obtain ⟨its, r, p1, _⟩ := I.list ha
  obtain ⟨its2, r2, p2, _⟩ := I.list hb
  obtain ⟨⟨cls, dd, data, sl⟩, ho, hc, n, hd⟩ := id p1.isList
  obtain ⟨⟨cls2, dd2, data2, sl2⟩, ho2, hc2, n2, hd2⟩ := id p2.isList
  simp only at hc hd hc2 hd2
  subst hc hd hc2 hd2
  have e : its.toArray ++ its2.toArray = (its ++ its2).toArray := by simp
  have hz' : its.toArray.size + its2.toArray.size ≤ sizeLine := by rw [List.size_toArray, List.size_toArray, ← r.length, ← r2.length]; exact hz
  refine concat_meets ⟨_, ho, rfl⟩ ⟨_, ho2, rfl⟩ noFill_list_add seq_list_add PySem.F.slot_list_add PySem.F.entry_list_add (PySem.F.args_list_add_2 _ _) (list_addW a b its.toArray its2.toArray n n2 dd dd2 sl sl2 hz') ⟨ho, ho2, ?_⟩
  rw [e]
  exact ⟨.ref _, _, I.lnew (t' := s.toks) (r.append r2) (by rw [List.length_append]; exact hz), rfl, q _ I.fresh⟩
theorem or_add : OpR X (binaryOp .Add) (r2 X.K semAdd) := by
  intro pins s σ H x y v u Q I rx ry h
  obtain ⟨Ex, d1, d2, d, fr, h1, h2, e, q⟩ := h
  unfold semAdd at e
  split at e
  · cases e
    cases h1.int; cases h2.int
    exact op_add pins s σ H _ _ v u Q I rx ry ⟨_, _, rfl, rfl, q _ _ (fun _ _ z => z) (.int _)⟩
  · split at e
    · rename_i a b hz
      cases e
      obtain ⟨p1, xs, rfl, s1, l1⟩ := h1.lst
      obtain ⟨p2, ys, rfl, s2, l2⟩ := h2.lst
      cases rx; cases ry
      exact add_lst I s1 s2 (line_ok (by rw [← l1.length, ← l2.length]; exact hz)) fun p n => q _ _ (same_upd n) (new_lst fr n (l1.append l2))
    · cases e
  · split at e
    · rename_i a b hz
      cases e
      obtain ⟨p1, xs, rfl, s1, _, l1⟩ := h1.tup
      obtain ⟨p2, ys, rfl, s2, _, l2⟩ := h2.tup
      have r1 : Rep X.K H Ex (.tuple a) (.ref p1) := by
        rcases h1 with h | ⟨_, _, h⟩
        · exact h
        · cases h
      have r2 : Rep X.K H Ex (.tuple b) (.ref p2) := by
        rcases h2 with h | ⟨_, _, h⟩
        · exact h
        · cases h
      refine op_catA pins s σ H _ _ v u Q I rx ry ⟨p1, p2, xs, ys, rfl, rfl, .of s1, .of s2, line_ok (by rw [← l1.length, ← l2.length]; exact hz), fun z => ?_, fun _ z => ?_, fun _ _ p n => q _ _ (same_upd n) (new_tup fr n (l1.append l2))⟩
      · have : a = [] := by
          have := l1.length; rw [z] at this; exact List.length_eq_zero_iff.mp this
        subst this
        exact q _ _ (fun _ _ z => z) r2
      · have : b = [] := by
          have := l2.length; rw [z] at this; exact List.length_eq_zero_iff.mp this
        subst this
        rw [List.append_nil] at q
        exact q _ _ (fun _ _ z => z) r1
    · cases e
  · split at e
    · rename_i a b hz
      cases e
      cases h1.str; cases h2.str
      exact op_add_str pins s σ H _ _ v u Q I rx ry ⟨_, _, rfl, rfl, line_ok hz, q _ _ (fun _ _ z => z) (.str _)⟩
    · cases e
  · cases e
theorem or_sub : OpR X (binaryOp .Sub) (r2 X.K semSub) := by
  refine opr_imp op_sub fun x y H Q h => ?_
  obtain ⟨Ex, d1, d2, d, fr, h1, h2, e, q⟩ := h
  unfold semSub at e
  split at e
  · cases e
    cases h1.int; cases h2.int
    exact ⟨_, _, rfl, rfl, q _ _ (fun _ _ z => z) (.int _)⟩
  · cases e
theorem or_mul : OpR X (binaryOp .Mult) (r2 X.K semMul) := by
  refine opr_imp op_mul fun x y H Q h => ?_
  obtain ⟨Ex, d1, d2, d, fr, h1, h2, e, q⟩ := h
  unfold semMul at e
  split at e
  · split at e
    · rename_i hs
      cases e
      cases h1.int; cases h2.int
      refine ⟨_, _, rfl, rfl, ?_, q _ _ (fun _ _ z => z) (.int _)⟩
      rw [Bool.or_eq_true] at hs
      unfold smallI at hs
      simp only [Bool.and_eq_true, decide_eq_true_eq] at hs
      exact hs
    · cases e
  · cases e
theorem or_div : OpR X (binaryOp .FloorDiv) (r2 X.K semDiv) := by
  refine opr_imp op_fdiv fun x y H Q h => ?_
  obtain ⟨Ex, d1, d2, d, fr, h1, h2, e, q⟩ := h
  unfold semDiv at e
  split at e
  · split at e
    · rename_i hs
      cases e
      cases h1.int; cases h2.int
      simp only [Bool.and_eq_true, decide_eq_true_eq] at hs
      exact ⟨_, _, rfl, rfl, hs, q _ _ (fun _ _ z => z) (.int _)⟩
    · cases e
  · cases e
theorem or_mod : OpR X (binaryOp .Mod) (r2 X.K semMod) := by
  refine opr_imp op_mod fun x y H Q h => ?_
  obtain ⟨Ex, d1, d2, d, fr, h1, h2, e, q⟩ := h
  unfold semMod at e
  split at e
  · split at e
    · rename_i hs
      cases e
      cases h1.int; cases h2.int
      exact ⟨_, _, rfl, rfl, of_decide_eq_true hs, q _ _ (fun _ _ z => z) (.int _)⟩
    · cases e
  · cases e
theorem or_pow : OpR X (binaryOp .Pow) (r2 X.K semPow) := by
  refine opr_imp op_pow fun x y H Q h => ?_
  obtain ⟨Ex, d1, d2, d, fr, h1, h2, e, q⟩ := h
  unfold semPow at e
  split at e
  · split at e
    · rename_i hs
      cases e
      cases h1.int; cases h2.int
      simp only [Bool.and_eq_true, decide_eq_true_eq] at hs
      exact ⟨_, _, rfl, rfl, ⟨hs.1.1, Int.le_trans hs.1.2 (by decide), hs.2⟩, q _ _ (fun _ _ z => z) (.int _)⟩
    · cases e
  · cases e
end
def semBin : Operator → D → D → Option D
  | .Add => semAdd
  | .Sub => semSub
  | .Mult => semMul
  | .FloorDiv => semDiv
  | .Mod => semMod
  | .Pow => semPow
  | _ => fun _ _ => none
theorem or_bin {X : Cx} : ∀ op, OpR X (binaryOp op) (r2 X.K (semBin op))
  | .Add => or_add
  | .Sub => or_sub
  | .Mult => or_mul
  | .FloorDiv => or_div
  | .Mod => or_mod
  | .Pow => or_pow
  | .MatMult | .Div | .LShift | .RShift | .BitOr | .BitXor | .BitAnd => fun pins s σ H x y v u Q I rx ry ⟨_, _, _, _, _, _, _, e, _⟩ => nomatch e

/-! ### comparisons -/
def semEq (d1 d2 : D) : Option D := if SeqAt.shaped d1 && SeqAt.shaped d2 then some (.bool (PyData.eqv d1 d2)) else none
def semNe (d1 d2 : D) : Option D := if SeqAt.shaped d1 && SeqAt.shaped d2 then some (.bool (!PyData.eqv d1 d2)) else none
def semLt : D → D → Option D
  | .int i, .int j => some (.bool (decide (i < j)))
  | _, _ => none
def semLe : D → D → Option D
  | .int i, .int j => some (.bool (decide (i ≤ j)))
  | _, _ => none
def semGt : D → D → Option D
  | .int i, .int j => some (.bool (decide (j < i)))
  | _, _ => none
def semGe : D → D → Option D
  | .int i, .int j => some (.bool (decide (j ≤ i)))
  | _, _ => none
def isNoneD : D → Bool
  | .none => true
  | _ => false
def semIs : D → D → Option D
  | d, .none => some (.bool (isNoneD d))
  | .bool a, .bool b => some (.bool (decide (a = b)))
  | _, _ => none
def semIsNot : D → D → Option D
  | d, .none => some (.bool (!isNoneD d))
  | .bool a, .bool b => some (.bool (!decide (a = b)))
  | _, _ => none
section
variable {X : Cx}
theorem isNoneD_v {K : PySem.W.Frag} {H : Hp} {Ex : Addr → Prop} {d : D} {v : V} (h : RepB K H Ex d v) : decide (v = .non) = isNoneD d := by
  rcases h with h | ⟨a, rfl, h⟩
  · cases h <;> simp [isNoneD]
  · cases h <;> simp [isNoneD]
theorem or_eq (hu : X.A.units + 64 < cLine) : OpR X (compareOp .Eq) (r2 X.K semEq) := by
  refine opr_imp (op_eqD hu) fun x y H Q h => ?_
  obtain ⟨Ex, d1, d2, d, fr, h1, h2, e, q⟩ := h
  unfold semEq at e
  split at e
  · rename_i hs
    cases e
    rw [Bool.and_eq_true] at hs
    exact ⟨d1, d2, h1.dp (SeqAt.canLay_of_shaped hs.1), h2.dp (SeqAt.canLay_of_shaped hs.2), hs.1, hs.2, q _ _ (fun _ _ z => z) (.bl _)⟩
  · cases e
theorem or_ne (hu : X.A.units + 64 < cLine) : OpR X (compareOp .NotEq) (r2 X.K semNe) := by
  refine opr_imp (op_neD hu) fun x y H Q h => ?_
  obtain ⟨Ex, d1, d2, d, fr, h1, h2, e, q⟩ := h
  unfold semNe at e
  split at e
  · rename_i hs
    cases e
    rw [Bool.and_eq_true] at hs
    exact ⟨d1, d2, h1.dp (SeqAt.canLay_of_shaped hs.1), h2.dp (SeqAt.canLay_of_shaped hs.2), hs.1, hs.2, q _ _ (fun _ _ z => z) (.bl _)⟩
  · cases e
theorem or_lt : OpR X (compareOp .Lt) (r2 X.K semLt) := by
  refine opr_imp op_lt fun x y H Q h => ?_
  obtain ⟨Ex, d1, d2, d, fr, h1, h2, e, q⟩ := h
  unfold semLt at e
  split at e
  · cases e
    cases h1.int; cases h2.int
    exact ⟨_, _, rfl, rfl, q _ _ (fun _ _ z => z) (.bl _)⟩
  · cases e
theorem or_le : OpR X (compareOp .LtE) (r2 X.K semLe) := by
  refine opr_imp op_le fun x y H Q h => ?_
  obtain ⟨Ex, d1, d2, d, fr, h1, h2, e, q⟩ := h
  unfold semLe at e
  split at e
  · cases e
    cases h1.int; cases h2.int
    exact ⟨_, _, rfl, rfl, q _ _ (fun _ _ z => z) (.bl _)⟩
  · cases e
theorem or_gt : OpR X (compareOp .Gt) (r2 X.K semGt) := by
  refine opr_imp op_gt fun x y H Q h => ?_
  obtain ⟨Ex, d1, d2, d, fr, h1, h2, e, q⟩ := h
  unfold semGt at e
  split at e
  · cases e
    cases h1.int; cases h2.int
    exact ⟨_, _, rfl, rfl, q _ _ (fun _ _ z => z) (.bl _)⟩
  · cases e
theorem or_ge : OpR X (compareOp .GtE) (r2 X.K semGe) := by
  refine opr_imp op_ge fun x y H Q h => ?_
  obtain ⟨Ex, d1, d2, d, fr, h1, h2, e, q⟩ := h
  unfold semGe at e
  split at e
  · cases e
    cases h1.int; cases h2.int
    exact ⟨_, _, rfl, rfl, q _ _ (fun _ _ z => z) (.bl _)⟩
  · cases e
theorem or_is : OpR X (compareOp .Is) (r2 X.K semIs) := by
  refine opr_imp (OpR.or op_isN op_is_bl) fun x y H Q h => ?_
  obtain ⟨Ex, d1, d2, d, fr, h1, h2, e, q⟩ := h
  unfold semIs at e
  split at e
  · cases e
    exact .inl ⟨h2.non, by rw [isNoneD_v h1]; exact q _ _ (fun _ _ z => z) (.bl _)⟩
  · cases e
    exact .inr ⟨_, _, h1.bl, h2.bl, q _ _ (fun _ _ z => z) (.bl _)⟩
  · cases e
theorem or_isnot : OpR X (compareOp .IsNot) (r2 X.K semIsNot) := by
  refine opr_imp (OpR.or op_notN op_isnot_bl) fun x y H Q h => ?_
  obtain ⟨Ex, d1, d2, d, fr, h1, h2, e, q⟩ := h
  unfold semIsNot at e
  split at e
  · cases e
    exact .inl ⟨h2.non, by rw [isNoneD_v h1]; exact q _ _ (fun _ _ z => z) (.bl _)⟩
  · cases e
    exact .inr ⟨_, _, h1.bl, h2.bl, q _ _ (fun _ _ z => z) (.bl _)⟩
  · cases e
end
/-! ### truth -/
def truth : D → Option Bool
  | .none => some false
  | .bool b => some b
  | .int i => some (i != 0)
  | .str s => if s.length ≤ 1000000 then some ((s.length : Int) != 0) else none
  | .list xs => some (!xs.isEmpty)
  | .tuple xs => some (!xs.isEmpty)
  | .dict _ => none
theorem truV {K : PySem.W.Frag} {H : Hp} {Ex : Addr → Prop} {d : D} {v : V} {c : Bool} (h : RepB K H Ex d v) (e : truth d = some c) : TruV K v H c := by
  cases d with
  | none => cases h.non; cases e; exact rfl
  | bool b => cases h.bl; cases e; exact rfl
  | int i => cases h.int; cases e; exact rfl
  | str s =>
    cases h.str
    simp only [truth] at e
    split at e
    · cases e; exact ⟨line_ok (by assumption), rfl⟩
    · cases e
  | list xs =>
    obtain ⟨a, ys, rfl, s, r⟩ := h.lst
    cases e
    refine .inl ⟨ys, s, ?_⟩
    cases r <;> rfl
  | tuple xs =>
    obtain ⟨a, ys, rfl, s, _, r⟩ := h.tup
    cases e
    refine .inr (.inl ⟨ys, .of s, ?_⟩)
    cases r <;> rfl
  | dict ps => cases e
end Ev

set_option maxRecDepth 100000
set_option maxHeartbeats 4000000
namespace Ev
open PySem PySem.Spec PyProof.Rows L2

theorem iT {p q : Prop} (h : p) : if true = true then p else q := h
theorem iF {p q : Prop} (h : q) : if false = true then p else q := by rw [if_neg Bool.false_ne_true]; exact h
theorem Rel.fresh {K : PySem.W.Frag} {B : Bx} {ρ : Er} {om : Om} {σ : L2.St} {H : Hp} (R : Rel K B ρ om σ H) : Fresh (Exs B om) H := R.exd
section
variable {X : Cx} {B : Bx} {a b c e : Expr} {fa fb fc : FE} {pos : Pos}

/-! ### names, constants -/
def fVar (i : Nat) : FE := fun ρ => match ρ[i]? with
  | some (.val d) => some (.v d, ρ)
  | some (.own _) => some (.l i, ρ)
  | some (.io _) => some (.l i, ρ)
  | _ => none
def fC (d : D) : FE := fun ρ => some (.v d, ρ)
theorem ev_var {i : Nat} {x : Str} (hN : X.N[i]? = some x) (hv : Vis X.env.scope x) (hd : (x == ("__debug__" : Str)) = false) (hcd : (x == ("__classdict__" : Str)) = false) : EV X B (.Name x pos) (fVar i) := fun ρ h ρ' q => by
  refine pe_impL (pe_var hN hv hd hcd) fun σ H Q ln ⟨om, R, k⟩ => ?_
  have hi := lt_of ln hN
  unfold fVar at q
  split at q
  · rename_i d e
    cases q
    obtain ⟨v, e1, r⟩ := R.val i d e
    exact ⟨v, get_in hi e1, k v H om .refl R r⟩
  · rename_i d e
    cases q
    obtain ⟨v, e0, e1, r⟩ := R.own i d e
    exact ⟨_, get_in hi e1, k _ H om .refl R e1⟩
  · rename_i d e
    cases q
    obtain ⟨v, e0, e1, r⟩ := R.io i d e
    exact ⟨_, get_in hi e1, k _ H om .refl R e1⟩
  · cases q
theorem ev_pure {t : TE} {d : D} {v : V} (h : PE X e (tC v)) (r : ∀ H Ex, Rep X.K H Ex d v) : EV X B e (fC d) := fun ρ hh ρ' q => by
  cases q
  exact pe_imp h fun σ H Q ⟨om, R, k⟩ => k v H om .refl R (r _ _)
def cstD : Const → Option D
  | .none => some .none
  | .bool b => some (.bool b)
  | .int i => some (.int i)
  | .str x => some (.str x)
  | _ => none
theorem ev_cst {k : Const} {d : D} {j : Nat} (h : cstD k = some d) : EV X B (.Constant k j pos) (fC d) := by
  cases k with
  | none => cases h; exact ev_pure (t := tC .non) pe_non fun _ _ => .non
  | bool b => cases h; exact ev_pure (t := tC (.bl b)) pe_bl fun _ _ => .bl b
  | int i => cases h; exact ev_pure (t := tC (.int i)) pe_int fun _ _ => .int i
  | str x => cases h; exact ev_pure (t := tC (.str x)) pe_str fun _ _ => .str x
  | _ => cases h
theorem ev_glob {x : Str} {i : Int} {t : Tok} (hg : Gl X x) (hm : X.mg x = some (.int i t)) (hd : (x == ("__debug__" : Str)) = false) : EV X B (.Name x pos) (fC (.int i)) :=
  ev_pure (t := tC (.int i)) (pe_glob (v := .int i) hg hm ⟨t, rfl⟩ hd) fun _ _ => .int i

/-! ### two operands -/
def fBin (fa fb : FE) (sem : D → D → Option D) : FE := fun ρ => (fa ρ).bind fun p => (fb p.2).bind fun q => (res p.1 q.2).bind fun d1 => (res q.1 q.2).bind fun d2 => (sem d1 d2).map fun d => (.v d, q.2)
def fUn (fa : FE) (sem : D → Option D) : FE := fun ρ => (fa ρ).bind fun p => (res p.1 p.2).bind fun d1 => (sem d1).map fun d => (.v d, p.2)
theorem bin_core {f : FE} {sem : D → D → Option D} {t : TE} (ha : EV X B a fa) (hb : EV X B b fb) {ρ h ρ'} (q : fBin fa fb sem ρ = some (h, ρ'))
    (mk : ∀ {ta tb : TE}, PE X a ta → PE X b tb → PE X e (tOp (r2 X.K sem) ta tb)) : PE X e (tH X B ρ h ρ') := by
  unfold fBin at q
  obtain ⟨⟨h1, ρ1⟩, e1, q⟩ := Option.bind_eq_some_iff.mp q
  obtain ⟨⟨h2, ρ2⟩, e2, q⟩ := Option.bind_eq_some_iff.mp q
  obtain ⟨d1, e3, q⟩ := Option.bind_eq_some_iff.mp q
  obtain ⟨d2, e4, q⟩ := Option.bind_eq_some_iff.mp q
  obtain ⟨d, e5, q⟩ := Option.map_eq_some_iff.mp q
  cases q
  refine pe_imp (mk (ha _ _ _ e1) (hb _ _ _ e2)) fun σ H Q ⟨om, R, k⟩ => ?_
  refine ⟨om, R, fun v1 H1 om1 s1 R1 r1 => ⟨om1, R1, fun v2 H2 om2 s2 R2 r2 => ?_⟩⟩
  exact ⟨Exs B om2, d1, d2, d, R2.fresh, R2.resb (r1.stp s2) e3, R2.resb r2 e4, e5, fun z H3 s3 r => k z H3 om2 ((s1.trans s2).trans (.same s3)) (R2.same s3) r⟩
theorem ev_bin {op : Operator} (ha : EV X B a fa) (hb : EV X B b fb) : EV X B (.BinOp a op b pos) (fBin fa fb (semBin op)) := fun ρ h ρ' q =>
  bin_core (f := fa) (t := tC .non) ha hb q fun pa pb => pe_op (or_bin op) pa pb
def semCmp : CmpOp → D → D → Option D
  | .Eq => semEq
  | .NotEq => semNe
  | .Lt => semLt
  | .LtE => semLe
  | .Gt => semGt
  | .GtE => semGe
  | .Is => semIs
  | .IsNot => semIsNot
  | _ => fun _ _ => none
theorem or_cmp (hu : X.A.units + 64 < cLine) : ∀ op, OpR X (compareOp op) (r2 X.K (semCmp op))
  | .Eq => or_eq hu
  | .NotEq => or_ne hu
  | .Lt => or_lt
  | .LtE => or_le
  | .Gt => or_gt
  | .GtE => or_ge
  | .Is => or_is
  | .IsNot => or_isnot
  | .In | .NotIn => fun pins s σ H x y v u Q I rx ry ⟨_, _, _, _, _, _, _, e, _⟩ => nomatch e
theorem ev_cmp {op : CmpOp} {sem : D → D → Option D} (ho : OpR X (compareOp op) (r2 X.K sem)) (ha : EV X B a fa) (hb : EV X B b fb) (hm : behindInMarks op b = false) : EV X B (.Compare a [op] [b] pos) (fBin fa fb sem) := fun ρ h ρ' q =>
  bin_core (f := fa) (t := tC .non) ha hb q fun pa pb => pe_cmpR ho pa pb hm
/-- a value's truth -/
def ft (f : FE) : FT := fun ρ => (f ρ).bind fun p => (res p.1 p.2).bind fun d => (truth d).map fun c => (c, p.2)
theorem et_cmp {op : CmpOp} {sem : D → D → Option D} (hs : ∀ x y z, sem x y = some z → ∃ c, z = .bool c) (ho : OpR X (compareOp op) (r2 X.K sem)) (ha : EV X B a fa) (hb : EV X B b fb) (hm : behindInMarks op b = false) : ET X B (.Compare a [op] [b] pos) (ft (fBin fa fb sem)) := fun ρ c ρ' q => by
  unfold ft fBin at q
  obtain ⟨⟨h, ρ0⟩, q1, q'⟩ := Option.bind_eq_some_iff.mp q
  obtain ⟨⟨h1, ρ1⟩, e1, q⟩ := Option.bind_eq_some_iff.mp q1
  obtain ⟨⟨h2, ρ2⟩, e2, q⟩ := Option.bind_eq_some_iff.mp q
  obtain ⟨d1, e3, q⟩ := Option.bind_eq_some_iff.mp q
  obtain ⟨d2, e4, q⟩ := Option.bind_eq_some_iff.mp q
  obtain ⟨d, e5, q⟩ := Option.map_eq_some_iff.mp q
  cases q
  obtain ⟨d', e6, q'⟩ := Option.bind_eq_some_iff.mp q'
  obtain ⟨c', e7, q'⟩ := Option.map_eq_some_iff.mp q'
  cases q'
  cases e6
  obtain ⟨c', rfl⟩ := hs _ _ _ e5
  cases e7
  refine pt_imp (pt_cmpR ho (ha _ _ _ e1) (hb _ _ _ e2) hm) fun σ H Q ⟨om, R, k⟩ => ?_
  refine ⟨om, R, fun v1 H1 om1 s1 R1 r1 => ⟨om1, R1, fun v2 H2 om2 s2 R2 r2 => ?_⟩⟩
  refine ⟨Exs B om2, d1, d2, _, R2.fresh, R2.resb (r1.stp s2) e3, R2.resb r2 e4, e5, fun z H3 s3 r => ?_⟩
  cases r
  exact ⟨_, rfl, k H3 om2 ((s1.trans s2).trans (.same s3)) (R2.same s3)⟩
theorem semCmp_bool (op : CmpOp) (x y z : D) (h : semCmp op x y = some z) : ∃ c, z = .bool c := by
  cases op <;> simp only [semCmp, semEq, semNe, semLt, semLe, semGt, semGe, semIs, semIsNot] at h <;> (try split at h) <;> first | (cases h; done) | (cases h; exact ⟨_, rfl⟩)
/-- a chain of two -/
def fChain (fa fb fc : FE) (s1 s2 : D → D → Option D) : FE := fun ρ => (fa ρ).bind fun p => (fb p.2).bind fun q => (res p.1 q.2).bind fun d1 => (res q.1 q.2).bind fun d2 => (s1 d1 d2).bind fun z => match z with
  | .bool false => some (.v (.bool false), q.2)
  | .bool true => (fc q.2).bind fun r => (res q.1 r.2).bind fun d2 => (res r.1 r.2).bind fun d3 => (s2 d2 d3).map fun d => (.v d, r.2)
  | _ => none
theorem chain_core {o1 o2 : D → D → Option D} {α : Type} (ha : EV X B a fa) (hb : EV X B b fb) (hc : EV X B c fc) {ρ h ρ'} (q : fChain fa fb fc o1 o2 ρ = some (h, ρ')) :
    ∃ (ta tb tc : TE), PE X a ta ∧ PE X b tb ∧ PE X c tc ∧ ∀ σ H Q, tH X B ρ h ρ' σ H Q → tChain (r2 X.K o1) (r2 X.K o2) ta tb tc σ H Q := by
  unfold fChain at q
  obtain ⟨⟨h1, ρ1⟩, e1, q⟩ := Option.bind_eq_some_iff.mp q
  obtain ⟨⟨h2, ρ2⟩, e2, q⟩ := Option.bind_eq_some_iff.mp q
  obtain ⟨d1, e3, q⟩ := Option.bind_eq_some_iff.mp q
  obtain ⟨d2, e4, q⟩ := Option.bind_eq_some_iff.mp q
  obtain ⟨d, e5, q⟩ := Option.bind_eq_some_iff.mp q
  split at q
  · cases q
    refine ⟨_, _, (fun _ _ _ => False), ha _ _ _ e1, hb _ _ _ e2, ⟨fun _ _ _ _ _ _ z => z.elim⟩, fun σ H Q ⟨om, R, k⟩ => ?_⟩
    refine ⟨om, R, fun v1 H1 om1 s1 R1 r1 => ⟨om1, R1, fun v2 H2 om2 s2 R2 r2 => ?_⟩⟩
    refine ⟨Exs B om2, d1, d2, _, R2.fresh, R2.resb (r1.stp s2) e3, R2.resb r2 e4, e5, fun z H3 s3 r => ?_⟩
    cases r
    refine ⟨false, rfl, ?_⟩
    refine iF ?_
    exact k _ H3 om2 ((s1.trans s2).trans (.same s3)) (R2.same s3) (.bl _)
  · obtain ⟨⟨h3, ρ3⟩, e6, q⟩ := Option.bind_eq_some_iff.mp q
    obtain ⟨d2', e7, q⟩ := Option.bind_eq_some_iff.mp q
    obtain ⟨d3, e8, q⟩ := Option.bind_eq_some_iff.mp q
    obtain ⟨d', e9, q⟩ := Option.map_eq_some_iff.mp q
    cases q
    refine ⟨_, _, _, ha _ _ _ e1, hb _ _ _ e2, hc _ _ _ e6, fun σ H Q ⟨om, R, k⟩ => ?_⟩
    refine ⟨om, R, fun v1 H1 om1 s1 R1 r1 => ⟨om1, R1, fun v2 H2 om2 s2 R2 r2 => ?_⟩⟩
    refine ⟨Exs B om2, d1, d2, _, R2.fresh, R2.resb (r1.stp s2) e3, R2.resb r2 e4, e5, fun z H3 s3 r => ?_⟩
    cases r
    refine ⟨true, rfl, ?_⟩
    refine iT ?_
    refine ⟨om2, R2.same s3, fun v4 H4 om4 s4 R4 r4 => ?_⟩
    exact ⟨Exs B om4, d2', d3, _, R4.fresh, R4.resb ((r2.stp (.same s3)).stp s4) e7, R4.resb r4 e8, e9, fun z H5 s5 r => k z H5 om4 ((((s1.trans s2).trans (.same s3)).trans s4).trans (.same s5)) (R4.same s5) r⟩
  · cases q
theorem ev_chain {op op' : CmpOp} {o1 o2 : D → D → Option D} (ho : OpR X (compareOp op) (r2 X.K o1)) (ho' : OpR X (compareOp op') (r2 X.K o2)) (ha : EV X B a fa) (hb : EV X B b fb) (hc : EV X B c fc) (hm : lastMarks [op, op'] [b, c] = false) :
    EV X B (.Compare a [op, op'] [b, c] pos) (fChain fa fb fc o1 o2) := fun ρ h ρ' q => by
  obtain ⟨ta, tb, tc, pa, pb, pc, i⟩ := chain_core (α := Unit) ha hb hc q
  exact pe_imp (pe_chain ho ho' pa pb pc hm) i
theorem et_chain {op op' : CmpOp} {o1 o2 : D → D → Option D} (hs : ∀ x y z, o2 x y = some z → ∃ c, z = .bool c) (ho : OpR X (compareOp op) (r2 X.K o1)) (ho' : OpR X (compareOp op') (r2 X.K o2)) (ha : EV X B a fa) (hb : EV X B b fb) (hc : EV X B c fc) (hm : lastMarks [op, op'] [b, c] = false) :
    ET X B (.Compare a [op, op'] [b, c] pos) (ft (fChain fa fb fc o1 o2)) := fun ρ cc ρ' q => by
  unfold ft at q
  obtain ⟨⟨h, ρ0⟩, q1, q'⟩ := Option.bind_eq_some_iff.mp q
  obtain ⟨d', e6, q'⟩ := Option.bind_eq_some_iff.mp q'
  obtain ⟨c', e7, q'⟩ := Option.map_eq_some_iff.mp q'
  cases q'
  have hv : ∃ c, h = .v (.bool c) := by
    unfold fChain at q1
    obtain ⟨⟨h1, ρ1⟩, e1, q⟩ := Option.bind_eq_some_iff.mp q1
    obtain ⟨⟨h2, ρ2⟩, e2, q⟩ := Option.bind_eq_some_iff.mp q
    obtain ⟨d1, e3, q⟩ := Option.bind_eq_some_iff.mp q
    obtain ⟨d2, e4, q⟩ := Option.bind_eq_some_iff.mp q
    obtain ⟨d, e5, q⟩ := Option.bind_eq_some_iff.mp q
    split at q
    · cases q; exact ⟨_, rfl⟩
    · obtain ⟨⟨h3, ρ3⟩, e6, q⟩ := Option.bind_eq_some_iff.mp q
      obtain ⟨d2', e7, q⟩ := Option.bind_eq_some_iff.mp q
      obtain ⟨d3, e8, q⟩ := Option.bind_eq_some_iff.mp q
      obtain ⟨d', e9, q⟩ := Option.map_eq_some_iff.mp q
      cases q
      obtain ⟨c, rfl⟩ := hs _ _ _ e9
      exact ⟨c, rfl⟩
    · cases q
  obtain ⟨c2, rfl⟩ := hv
  cases e6
  cases e7
  obtain ⟨ta, tb, tc, pa, pb, pc, i⟩ := chain_core (α := Unit) ha hb hc q1
  refine pt_imp (pt_chain ho ho' pa pb pc hm) fun σ H Q ⟨om, R, k⟩ => i σ H _ ⟨om, R, fun v H' om' s R' r => ?_⟩
  have r : Rep X.K H' (Exs B om') (.bool _) v := r
  cases r
  exact ⟨_, rfl, k H' om' s R'⟩

/-! ### and, or, not, if -/
def fAnd (fa fb : FE) : FE := fun ρ => (fa ρ).bind fun p => (res p.1 p.2).bind fun d => (truth d).bind fun c => if c = true then fb p.2 else some p
def fOr (fa fb : FE) : FE := fun ρ => (fa ρ).bind fun p => (res p.1 p.2).bind fun d => (truth d).bind fun c => if c = true then some p else fb p.2
variable {rest : List Expr}
theorem ev_one {op : BoolOp} (h : EV X B a fa) : EV X B (.BoolOp op [a] pos) fa := fun ρ h' ρ' q => pe_one (h _ _ _ q)
theorem ev_and (ha : EV X B a fa) (hb : EV X B (.BoolOp .And (b :: rest) pos) fb) : EV X B (.BoolOp .And (a :: b :: rest) pos) (fAnd fa fb) := fun ρ h ρ' q => by
  unfold fAnd at q
  obtain ⟨⟨h1, ρ1⟩, e1, q⟩ := Option.bind_eq_some_iff.mp q
  obtain ⟨d, e2, q⟩ := Option.bind_eq_some_iff.mp q
  obtain ⟨c, e3, q⟩ := Option.bind_eq_some_iff.mp q
  cases c with
  | true =>
    rw [if_pos rfl] at q
    refine pe_imp (pe_andT (ha _ _ _ e1) (hb _ _ _ q)) fun σ H Q ⟨om, R, k⟩ => ⟨om, R, fun v H' om' s R' r => ⟨true, truV (R'.resb r e2) e3, ?_⟩⟩
    refine iT ?_
    exact ⟨om', R', fun v2 H2 om2 s2 R2 r2 => k v2 H2 om2 (s.trans s2) R2 r2⟩
  | false =>
    rw [if_neg Bool.false_ne_true] at q
    cases q
    refine pe_imp (pe_andT (tb := fun _ _ _ => False) (ha _ _ _ e1) ⟨fun _ _ _ _ _ _ z => z.elim⟩) fun σ H Q ⟨om, R, k⟩ => ⟨om, R, fun v H' om' s R' r => ⟨false, truV (R'.resb r e2) e3, ?_⟩⟩
    refine iF ?_
    exact k v H' om' s R' r
theorem ev_or (ha : EV X B a fa) (hb : EV X B (.BoolOp .Or (b :: rest) pos) fb) : EV X B (.BoolOp .Or (a :: b :: rest) pos) (fOr fa fb) := fun ρ h ρ' q => by
  unfold fOr at q
  obtain ⟨⟨h1, ρ1⟩, e1, q⟩ := Option.bind_eq_some_iff.mp q
  obtain ⟨d, e2, q⟩ := Option.bind_eq_some_iff.mp q
  obtain ⟨c, e3, q⟩ := Option.bind_eq_some_iff.mp q
  cases c with
  | false =>
    rw [if_neg Bool.false_ne_true] at q
    refine pe_imp (pe_orT (ha _ _ _ e1) (hb _ _ _ q)) fun σ H Q ⟨om, R, k⟩ => ⟨om, R, fun v H' om' s R' r => ⟨false, truV (R'.resb r e2) e3, ?_⟩⟩
    refine iF ?_
    exact ⟨om', R', fun v2 H2 om2 s2 R2 r2 => k v2 H2 om2 (s.trans s2) R2 r2⟩
  | true =>
    rw [if_pos rfl] at q
    cases q
    refine pe_imp (pe_orT (tb := fun _ _ _ => False) (ha _ _ _ e1) ⟨fun _ _ _ _ _ _ z => z.elim⟩) fun σ H Q ⟨om, R, k⟩ => ⟨om, R, fun v H' om' s R' r => ⟨true, truV (R'.resb r e2) e3, ?_⟩⟩
    refine iT ?_
    exact k v H' om' s R' r
def tAndB (fa fb : FT) : FT := fun ρ => (fa ρ).bind fun p => if p.1 = true then fb p.2 else some (false, p.2)
def tOrB (fa fb : FT) : FT := fun ρ => (fa ρ).bind fun p => if p.1 = true then some (true, p.2) else fb p.2
def tNotB (fa : FT) : FT := fun ρ => (fa ρ).map fun p => (!p.1, p.2)
def EW (X : Cx) (B : Bx) (e : Expr) (f : FT) : Prop := ∀ ρ c ρ', f ρ = some (c, ρ') → PW X e (tT X B ρ c ρ')
theorem pw_imp {X : Cx} {e : Expr} {t t' : TT} (h : PW X e t) (i : ∀ σ H Q, t' σ H Q → t σ H Q) : PW X e t' := ⟨fun wh pins s σ H Q I q => h.run wh pins s σ H Q I (i σ H Q q)⟩
variable {ga gb : FT}
theorem ew_et (h : EW X B e ga) : ET X B e ga := fun ρ c ρ' q => (h _ _ _ q).pt
theorem ew_and1 (h : ET X B a ga) : EW X B (.BoolOp .And [a] pos) ga := fun ρ c ρ' q => pw_and1 (h _ _ _ q)
theorem ew_or1 (h : ET X B a ga) : EW X B (.BoolOp .Or [a] pos) ga := fun ρ c ρ' q => pw_or1 (h _ _ _ q)
theorem ew_and (ha : ET X B a ga) (hb : EW X B (.BoolOp .And (b :: rest) pos) gb) : EW X B (.BoolOp .And (a :: b :: rest) pos) (tAndB ga gb) := fun ρ c ρ' q => by
  unfold tAndB at q
  obtain ⟨⟨c1, ρ1⟩, e1, q⟩ := Option.bind_eq_some_iff.mp q
  cases c1 with
  | true =>
    rw [if_pos rfl] at q
    refine pw_imp (pw_and (ha _ _ _ e1) (hb _ _ _ q)) fun σ H Q ⟨om, R, k⟩ => ⟨om, R, fun H' om' s R' => ?_⟩
    refine iT ?_
    exact ⟨om', R', fun H2 om2 s2 R2 => k H2 om2 (s.trans s2) R2⟩
  | false =>
    rw [if_neg Bool.false_ne_true] at q
    cases q
    refine pw_imp (pw_and (tB' := fun _ _ _ => False) (ha _ _ _ e1) ⟨fun _ _ _ _ _ _ _ z => z.elim⟩) fun σ H Q ⟨om, R, k⟩ => ⟨om, R, fun H' om' s R' => ?_⟩
    refine iF ?_
    exact k H' om' s R'
theorem ew_or (ha : ET X B a ga) (hb : EW X B (.BoolOp .Or (b :: rest) pos) gb) : EW X B (.BoolOp .Or (a :: b :: rest) pos) (tOrB ga gb) := fun ρ c ρ' q => by
  unfold tOrB at q
  obtain ⟨⟨c1, ρ1⟩, e1, q⟩ := Option.bind_eq_some_iff.mp q
  cases c1 with
  | false =>
    rw [if_neg Bool.false_ne_true] at q
    refine pw_imp (pw_or (ha _ _ _ e1) (hb _ _ _ q)) fun σ H Q ⟨om, R, k⟩ => ⟨om, R, fun H' om' s R' => ?_⟩
    refine iF ?_
    exact ⟨om', R', fun H2 om2 s2 R2 => k H2 om2 (s.trans s2) R2⟩
  | true =>
    rw [if_pos rfl] at q
    cases q
    refine pw_imp (pw_or (tB' := fun _ _ _ => False) (ha _ _ _ e1) ⟨fun _ _ _ _ _ _ _ z => z.elim⟩) fun σ H Q ⟨om, R, k⟩ => ⟨om, R, fun H' om' s R' => ?_⟩
    refine iT ?_
    exact k H' om' s R'
theorem et_not (ha : ET X B a ga) : ET X B (.UnaryOp .Not a pos) (tNotB ga) := fun ρ c ρ' q => by
  unfold tNotB at q
  obtain ⟨⟨c1, ρ1⟩, e1, q⟩ := Option.map_eq_some_iff.mp q
  cases q
  exact pt_imp (pt_not (ha _ _ _ e1)) fun σ H Q ⟨om, R, k⟩ => ⟨om, R, fun H' om' s R' => k H' om' s R'⟩
/-- the value's truth is the test -/
theorem et_val (h : EV X B a fa) (he : ∀ whole, isTrue a X.env whole = (do let v ← whole; standAt a.pos; holding [v] (truthy v))) : ET X B a (ft fa) := fun ρ c ρ' q => by
  unfold ft at q
  obtain ⟨⟨h1, ρ1⟩, e1, q⟩ := Option.bind_eq_some_iff.mp q
  obtain ⟨d, e2, q⟩ := Option.bind_eq_some_iff.mp q
  obtain ⟨c, e3, q⟩ := Option.map_eq_some_iff.mp q
  cases q
  exact pt_imp (pt_truth (h _ _ _ e1) he) fun σ H Q ⟨om, R, k⟩ => ⟨om, R, fun v H' om' s R' r => ⟨c, truV (R'.resb r e2) e3, k H' om' s R'⟩⟩
def fNot (fa : FE) : FE := fUn fa fun d => (truth d).map fun c => .bool (!c)
theorem ev_not (h : EV X B a fa) : EV X B (.UnaryOp .Not a pos) (fNot fa) := fun ρ h' ρ' q => by
  unfold fNot fUn at q
  obtain ⟨⟨h1, ρ1⟩, e1, q⟩ := Option.bind_eq_some_iff.mp q
  obtain ⟨d, e2, q⟩ := Option.bind_eq_some_iff.mp q
  obtain ⟨d', e3, q⟩ := Option.map_eq_some_iff.mp q
  cases q
  obtain ⟨c, e4, e5⟩ := Option.map_eq_some_iff.mp e3
  cases e5
  exact pe_imp (pe_notT (h _ _ _ e1)) fun σ H Q ⟨om, R, k⟩ => ⟨om, R, fun v H' om' s R' r => ⟨c, truV (R'.resb r e2) e4, k _ H' om' s R' (Rep.bl _)⟩⟩
def fIf (ga : FT) (fa fb : FE) : FE := fun ρ => (ga ρ).bind fun p => if p.1 = true then fa p.2 else fb p.2
theorem ev_if (hc : ET X B c ga) (ha : EV X B a fa) (hb : EV X B b fb) : EV X B (.IfExp c a b pos) (fIf ga fa fb) := fun ρ h ρ' q => by
  unfold fIf at q
  obtain ⟨⟨c1, ρ1⟩, e1, q⟩ := Option.bind_eq_some_iff.mp q
  cases c1 with
  | true =>
    rw [if_pos rfl] at q
    refine pe_imp (pe_ifExp (tb := fun _ _ _ => False) (hc _ _ _ e1) (ha _ _ _ q) ⟨fun _ _ _ _ _ _ z => z.elim⟩) fun σ H Q ⟨om, R, k⟩ => ⟨om, R, fun H' om' s R' => ?_⟩
    refine iT ?_
    exact ⟨om', R', fun v2 H2 om2 s2 R2 r2 => k v2 H2 om2 (s.trans s2) R2 r2⟩
  | false =>
    rw [if_neg Bool.false_ne_true] at q
    refine pe_imp (pe_ifExp (ta := fun _ _ _ => False) (hc _ _ _ e1) ⟨fun _ _ _ _ _ _ z => z.elim⟩ (hb _ _ _ q)) fun σ H Q ⟨om, R, k⟩ => ⟨om, R, fun H' om' s R' => ?_⟩
    refine iF ?_
    exact ⟨om', R', fun v2 H2 om2 s2 R2 r2 => k v2 H2 om2 (s.trans s2) R2 r2⟩
def semNeg : D → Option D
  | .int i => some (.int (-i))
  | _ => none
theorem ev_neg (h : EV X B a fa) : EV X B (.UnaryOp .USub a pos) (fUn fa semNeg) := fun ρ h' ρ' q => by
  unfold fUn at q
  obtain ⟨⟨h1, ρ1⟩, e1, q⟩ := Option.bind_eq_some_iff.mp q
  obtain ⟨d, e2, q⟩ := Option.bind_eq_some_iff.mp q
  obtain ⟨d', e3, q⟩ := Option.map_eq_some_iff.mp q
  cases q
  refine pe_imp (pe_un un_neg (h _ _ _ e1)) fun σ H Q ⟨om, R, k⟩ => ⟨om, R, fun v H' om' s R' r => ?_⟩
  have b := R'.resb r e2
  unfold semNeg at e3
  split at e3
  · cases e3
    exact ⟨_, b.int, k _ H' om' s R' (Rep.int _)⟩
  · cases e3
end

/-! ### lists of expressions -/
section
variable {X : Cx} {B : Bx} {e : Expr} {es : List Expr} {fa : FE} {pos : Pos}
inductive HReps (K : PySem.W.Frag) (B : Bx) (om : Om) (σ : L2.St) (H : Hp) : List Hd → List V → Prop
  | nil : HReps K B om σ H [] []
  | cons {h : Hd} {hs : List Hd} {v : V} {vs : List V} : HRep K B om σ H h v → HReps K B om σ H hs vs → HReps K B om σ H (h :: hs) (v :: vs)
def tHs (X : Cx) (B : Bx) (ρ : Er) (hs : List Hd) (ρ' : Er) : TA := fun σ H Q => ∃ om, Rel X.K B ρ om σ H ∧ ∀ vs H' om', Stp B om H om' H' → Rel X.K B ρ' om' σ H' → HReps X.K B om' σ H' hs vs → Q vs H'
abbrev FA := Er → Option (List Hd × Er)
def EA (X : Cx) (B : Bx) (es : List Expr) (f : FA) : Prop := ∀ ρ hs ρ', f ρ = some (hs, ρ') → PA X es (tHs X B ρ hs ρ')
def aNil : FA := fun ρ => some ([], ρ)
def aCons (fa : FE) (fs : FA) : FA := fun ρ => (fa ρ).bind fun p => (fs p.2).map fun q => (p.1 :: q.1, q.2)
/-- an item made plain at once -/
def aFz (fa : FE) : FE := fun ρ => (fa ρ).bind fun p => (frz p.1 p.2).map fun q => (.v q.1, q.2)
theorem ev_fz (h : EV X B e fa) : EV X B e (aFz fa) := fun ρ h' ρ' q => by
  unfold aFz at q
  obtain ⟨⟨h1, ρ1⟩, e1, q⟩ := Option.bind_eq_some_iff.mp q
  obtain ⟨⟨d, ρ2⟩, e2, q⟩ := Option.map_eq_some_iff.mp q
  cases q
  refine pe_imp (h _ _ _ e1) fun σ H Q ⟨om, R, k⟩ => ⟨om, R, fun v H' om' s R' r => ?_⟩
  obtain ⟨om2, sb, R2, r2⟩ := R'.frz r e2
  exact k v H' om2 (s.trans (.sub sb)) R2 r2
theorem ea_nil : EA X B [] aNil := fun ρ hs ρ' q => by
  cases q
  exact pa_imp pa_nil fun σ H Q ⟨om, R, k⟩ => k [] H om .refl R .nil
theorem ea_cons {fs : FA} (ha : EV X B e fa) (hs : EA X B es fs) (hst : starEach (e :: es) X.env = (false, eval e X.env) :: starEach es X.env) : EA X B (e :: es) (aCons fa fs) := fun ρ h ρ' q => by
  unfold aCons at q
  obtain ⟨⟨h1, ρ1⟩, e1, q⟩ := Option.bind_eq_some_iff.mp q
  obtain ⟨⟨h2, ρ2⟩, e2, q⟩ := Option.map_eq_some_iff.mp q
  cases q
  refine pa_imp (pa_cons (ha _ _ _ e1) (hs _ _ _ e2) hst) fun σ H Q ⟨om, R, k⟩ => ⟨om, R, fun v H' om' s R' r => ⟨om', R', fun vs H2 om2 s2 R2 r2 => k (v :: vs) H2 om2 (s.trans s2) R2 (.cons (r.stp s2) r2)⟩⟩
/-- plain values alone -/
def plain : List Hd → Option (List D)
  | [] => some []
  | .v d :: r => (plain r).map (d :: ·)
  | .l _ :: _ => none
theorem HReps.plain {K : PySem.W.Frag} {om : Om} {σ : L2.St} {H : Hp} : ∀ {hs : List Hd} {vs : List V} {ds : List D}, HReps K B om σ H hs vs → Ev.plain hs = some ds → Reps K H (Exs B om) ds vs
  | _, _, _, .nil, e => by cases e; exact .nil
  | .v d :: r, _, _, .cons h1 h2, e => by
    simp only [Ev.plain] at e
    obtain ⟨ds, e1, e2⟩ := Option.map_eq_some_iff.mp e
    subst e2
    exact .cons h1 (HReps.plain h2 e1)
  | .l i :: r, _, _, .cons h1 h2, e => by simp [Ev.plain] at e
def resAll : List Hd → Er → Option (List D)
  | [], _ => some []
  | h :: r, ρ => (res h ρ).bind fun d => (resAll r ρ).map (d :: ·)
theorem HReps.resb {K : PySem.W.Frag} {ρ : Er} {om : Om} {σ : L2.St} {H : Hp} (R : Rel K B ρ om σ H) : ∀ {hs : List Hd} {vs : List V} {ds : List D}, HReps K B om σ H hs vs → resAll hs ρ = some ds → RepBs K H (Exs B om) ds vs
  | _, _, _, .nil, e => by cases e; exact .nil
  | h :: r, _, _, .cons h1 h2, e => by
    simp only [resAll] at e
    obtain ⟨d, e1, e⟩ := Option.bind_eq_some_iff.mp e
    obtain ⟨ds, e2, e⟩ := Option.map_eq_some_iff.mp e
    subst e
    exact .cons (R.resb h1 e1) (HReps.resb R h2 e2)
def few (n : Nat) : Bool := decide (n ≤ 1000000)
def fTup (fs : FA) : FE := fun ρ => (fs ρ).bind fun p => (plain p.1).bind fun ds => if few ds.length then some (.v (.tuple ds), p.2) else none
theorem ev_tup {fs : FA} {k : Nat} (h : EA X B es fs) : EV X B (.Tuple es k pos) (fTup fs) := fun ρ hh ρ' q => by
  unfold fTup at q
  obtain ⟨⟨hs, ρ1⟩, e1, q⟩ := Option.bind_eq_some_iff.mp q
  obtain ⟨ds, e2, q⟩ := Option.bind_eq_some_iff.mp q
  split at q
  · rename_i hl
    cases q
    refine pe_imp (pe_tup (h _ _ _ e1)) fun σ H Q ⟨om, R, k⟩ => ⟨om, R, fun vs H' om' s R' r => ?_⟩
    have rr := r.plain e2
    refine ⟨line_ok (by rw [← rr.length]; exact of_decide_eq_true hl), fun p n => k _ _ om' (s.trans (.same (same_upd n))) (R'.same (same_upd n)) (new_tup R'.fresh n rr)⟩
  · cases q
/-- what is not tracked now was not at the entry, unless lent or a table -/
theorem Rel.h0 {K : PySem.W.Frag} {ρ : Er} {om : Om} {σ : L2.St} {H : Hp} {p : Addr} (R : Rel K B ρ om σ H) (hn : H p = none) : B.H0 p = none := by
  cases e : B.H0 p with
  | none => rfl
  | some o =>
    by_cases h1 : ∃ j, B.I0 j = some p
    · obtain ⟨j, hj⟩ := h1
      exact absurd hn (R.lent j p hj)
    · by_cases h2 : p ∈ B.T
      · obtain ⟨ps, q, _⟩ := R.tabs p h2
        rw [hn] at q; cases q
      · have := R.keep p o e (fun j z => h1 ⟨j, z⟩) h2
        rw [hn] at this; cases this
/-- the value p behind all slots -/
def psh (om : Om) (n : Nat) (p : Addr) : Om := ⟨fun j => if j = n then some p else om j, om.τ ++ [some (V.ref p)]⟩
theorem psh_self {om : Om} {n : Nat} {p : Addr} : psh om n p n = some p := if_pos rfl
theorem psh_ne {om : Om} {n j : Nat} {p : Addr} (h : j ≠ n) : psh om n p j = om j := if_neg h
/-- a new object, owned at a place behind the slots -/
theorem Rel.push {K : PySem.W.Frag} {ρ : Er} {om : Om} {σ : L2.St} {H : Hp} {p : Addr} {o : HO} {d : D} (R : Rel K B ρ om σ H) (hn : H p = none) (ho : ∀ xs, o ≠ .tup xs) (rp : RepO K (upd H p o) (Exs B (psh om ρ.length p)) d p) :
    Rel K B (ρ ++ [.own d]) (psh om ρ.length p) σ (upd H p o) ∧ Stp B om H (psh om ρ.length p) (upd H p o) ∧ HRep K B (psh om ρ.length p) σ (upd H p o) (.l ρ.length) (V.ref p) := by
  have h0 := R.h0 hn
  have sm := same_upd (o := o) hn
  have R1 := R.same sm
  have pshO : ∀ {i : Nat} {a : Addr}, psh om ρ.length p i = some a → (∃ j, om j = some a) ∨ H a = none := fun {i a} z => by
    by_cases e : i = ρ.length
    · rw [e, psh_self] at z; cases z; exact .inr hn
    · rw [psh_ne e] at z; exact .inl ⟨i, z⟩
  have ex : ∀ a, Exs B (psh om ρ.length p) a → Exs B om a ∨ H a = none := fun a z => by
    rcases z with z | ⟨j, z⟩
    · exact .inl (.inl z)
    · by_cases e : j = ρ.length
      · rw [e, psh_self] at z; cases z; exact .inr hn
      · rw [psh_ne e] at z; exact .inl (.inr ⟨j, z⟩)
  have as : ∀ {i : Nat} {x : Option V}, (σ ++ om.τ)[i]? = some x → (σ ++ (psh om ρ.length p).τ)[i]? = some x := fun {i x} e => by
    show (σ ++ (om.τ ++ [some (V.ref p)]))[i]? = some x
    rw [← List.append_assoc]
    exact get_ext e
  have last : (σ ++ (psh om ρ.length p).τ)[ρ.length]? = some (some (V.ref p)) := by
    show (σ ++ (om.τ ++ [some (V.ref p)]))[ρ.length]? = _
    rw [← List.append_assoc, R.len, List.getElem?_append_right (Nat.le_refl _), Nat.sub_self]
    rfl
  have ge : ∀ {i : Nat} {x : Sl}, (ρ ++ [Sl.own d])[i]? = some x → (i < ρ.length ∧ ρ[i]? = some x) ∨ (i = ρ.length ∧ x = .own d) := fun {i x} e => by
    by_cases h : i < ρ.length
    · rw [List.getElem?_append_left h] at e; exact .inl ⟨h, e⟩
    · have hl := (List.getElem?_eq_some_iff.mp e).1
      rw [List.length_append] at hl
      have : i = ρ.length := by simp at hl; omega
      subst this
      rw [List.getElem?_append_right (Nat.le_refl _), Nat.sub_self] at e
      simp at e
      exact .inr ⟨rfl, e.symm⟩
  have oe : ∀ {d : D} {a : Addr}, RepO K H (Exs B om) d a → upd H p o a = H a := fun {d a} q => by
    obtain ⟨u, e, _⟩ := q.some
    exact upd_ne (ne_of_none e hn)
  refine ⟨⟨?_, fun i d' e => ?_, fun i d' e => ?_, fun i d' e => ?_, fun i j a e1 e2 => ?_, fun i a e => ?_, fun a z => ?_, R1.keep, R1.tabs, R.tx, R.ex0, fun i hi => ?_, R1.lent, fun P q e => (R.lam P q e).chg R.tabs (fun a o e _ _ => sm a o e) (fun i a z => pshO z)⟩, ⟨.of sm, ex, [some (V.ref p)], rfl⟩, last⟩
  · show (ρ ++ [Sl.own d]).length = (σ ++ (om.τ ++ [some (V.ref p)])).length
    have := R.len
    simp at this ⊢
    omega
  · rcases ge e with ⟨h, e⟩ | ⟨_, e⟩
    · obtain ⟨v, e1, r⟩ := R.val i d' e
      exact ⟨v, as e1, Rep.mono (.of sm) ex _ _ r⟩
    · cases e
  · rcases ge e with ⟨h, e⟩ | ⟨e8, e9⟩
    · obtain ⟨a, e0, e1, r, q⟩ := R.own i d' e
      exact ⟨a, (psh_ne (Nat.ne_of_lt h)).trans e0, as e1, r.mono (.of sm) ex (oe r), q⟩
    · cases e9
      subst e8
      exact ⟨p, psh_self, last, rp, h0⟩
  · rcases ge e with ⟨h, e⟩ | ⟨_, e⟩
    · obtain ⟨a, e0, e1, r, q⟩ := R.io i d' e
      exact ⟨a, (psh_ne (Nat.ne_of_lt h)).trans e0, as e1, r.mono (.of sm) ex (oe r), q⟩
    · cases e
  · by_cases z1 : i = ρ.length
    · by_cases z2 : j = ρ.length
      · rw [z1, z2]
      · rw [z1, psh_self] at e1
        cases e1
        rw [psh_ne z2] at e2
        exact absurd (Or.inr ⟨j, e2⟩) (Fresh.no R.exd hn)
    · rw [psh_ne z1] at e1
      by_cases z2 : j = ρ.length
      · rw [z2, psh_self] at e2
        cases e2
        exact absurd (Or.inr ⟨i, e1⟩) (Fresh.no R.exd hn)
      · rw [psh_ne z2] at e2
        exact R.inj i j a e1 e2
  · by_cases z1 : i = ρ.length
    · rw [z1, psh_self] at e; cases e; exact .inr h0
    · rw [psh_ne z1] at e; exact R.old i a e
  · rcases ex a z with q | q
    · exact R1.exd a q
    · rcases z with z | ⟨j, z⟩
      · exact absurd (Or.inl z) (Fresh.no R.exd q)
      · by_cases e : j = ρ.length
        · rw [e, psh_self] at z; cases z; exact ⟨o, upd_same, ho⟩
        · rw [psh_ne e] at z; exact absurd (Or.inr ⟨j, z⟩) (Fresh.no R.exd q)
  · have hi' : ρ.length + 1 ≤ i := by simpa using hi
    rw [psh_ne (by omega)]
    exact R.fin i (by omega)
end
end Ev

set_option maxRecDepth 100000
set_option maxHeartbeats 4000000
namespace Ev
open PySem PySem.Spec PyProof.Rows L2

/-! ### look-ups -/
def lkK (ps : List (D × D)) (k : Key) : Option D := (ps.find? fun p => decide (keyOf p.1 = some k)).map (·.2)
def lkT (ps : List (D × D)) (k : List Key) : Option D := (ps.find? fun p => decide (tkeyOf p.1 = some k)).map (·.2)
def lkD (ps : List (D × D)) (d : D) : Option (Option D) := match ps with
  | (.none, .none) :: qs => (tkeyOf d).map (lkT qs)
  | ps => (keyOf d).map (lkK ps)
def OptRep (K : PySem.W.Frag) (H : Hp) (Ex : Addr → Prop) : Option D → Option V → Prop
  | some d, some v => Rep K H Ex d v
  | none, none => True
  | _, _ => False
section
variable {K : PySem.W.Frag} {H : Hp} {Ex : Addr → Prop}
theorem RepK.look (k : Key) : ∀ {ps : List (D × D)} {kvs : List (Key × V)}, RepK K H Ex ps kvs → OptRep K H Ex (lkK ps k) (valV kvs k)
  | _, _, .nil => trivial
  | _, _, .cons (k := a) (d := dd) (key := key) (ps := ps) (v := vv) (r := r) h0 h1 h2 => by
    by_cases e : key = k
    · subst e
      rw [valV_pos (p := (key, vv)) rfl]
      have : lkK ((a, dd) :: ps) key = some dd := by
        unfold lkK
        rw [List.find?_cons_of_pos (by simpa using h0)]; rfl
      rw [this]
      exact h1
    · rw [valV_neg (p := (key, vv)) e]
      have : lkK ((a, dd) :: ps) k = lkK ps k := by
        unfold lkK
        rw [List.find?_cons_of_neg (by simpa [h0] using e)]
      rw [this]
      exact RepK.look k h2
theorem RepT.look (k : List Key) : ∀ {ps : List (D × D)} {kvs : List (List Key × V)}, RepT K H Ex ps kvs → OptRep K H Ex (lkT ps k) (valV kvs k)
  | _, _, .nil => trivial
  | _, _, .cons (k := a) (d := dd) (key := key) (ps := ps) (v := vv) (r := r) h0 h1 h2 => by
    by_cases e : key = k
    · subst e
      rw [valV_pos (p := (key, vv)) rfl]
      have : lkT ((a, dd) :: ps) key = some dd := by
        unfold lkT
        rw [List.find?_cons_of_pos (by simpa using h0)]; rfl
      rw [this]
      exact h1
    · rw [valV_neg (p := (key, vv)) e]
      have : lkT ((a, dd) :: ps) k = lkT ps k := by
        unfold lkT
        rw [List.find?_cons_of_neg (by simpa [h0] using e)]
      rw [this]
      exact RepT.look k h2
theorem keys_v : ∀ {ds : List D} {vs : List V} {ks : List Key}, Reps K H Ex ds vs → keysOf ds = some ks → vs = ks.map kV
  | _, _, _, .nil, e => by cases e; rfl
  | d :: ds, _, ks, .cons h1 h2, e => by
    simp only [keysOf] at e
    split at e
    · rename_i k ks' e1 e2
      cases e
      rw [keys_v h2 e2, List.map_cons]
      congr 1
      cases h1 <;> simp only [keyOf] at e1 <;> first | (cases e1; rfl) | cases e1
    · cases e
theorem key_v {d : D} {v : V} {k : Key} (h : RepB K H Ex d v) (e : keyOf d = some k) : v = kV k := by
  cases d <;> simp only [keyOf] at e <;> try cases e
  · exact h.int
  · exact h.str
theorem dget_of {ps : List (D × D)} {v y : V} {dk : D} {o : Option D} (h : RepB K H Ex (.dict ps) v) (hy : RepB K H Ex dk y) (e : lkD ps dk = some o) : ∃ a r, v = .ref a ∧ DGet H a y r ∧ OptRep K H Ex o r := by
  obtain ⟨a, rfl, ⟨kvs, h1, h2⟩ | ⟨qs, kvs, rfl, h1, h2⟩⟩ := h.dict
  · have e' : (keyOf dk).map (lkK ps) = some o := by
      cases h2 with
      | nil => exact e
      | cons h0 _ _ =>
        unfold lkD at e
        split at e
        · rename_i hh
          have h9 := (List.cons.inj hh).1
          have h8 := congrArg Prod.fst h9
          simp only at h8
          subst h8
          cases h0
        · exact e
    obtain ⟨k, e1, e2⟩ := Option.map_eq_some_iff.mp e'
    subst e2
    rw [key_v hy e1]
    exact ⟨a, _, rfl, .k h1, h2.look k⟩
  · have e' : (tkeyOf dk).map (lkT qs) = some o := e
    obtain ⟨k, e1, e2⟩ := Option.map_eq_some_iff.mp e'
    subst e2
    cases dk with
    | tuple ds =>
      obtain ⟨b, xs, rfl, hb, _, r⟩ := hy.tup
      rw [keys_v r e1] at hb
      exact ⟨a, _, rfl, .t h1 hb, h2.look k⟩
    | _ => cases e1
end
def semIx : D → D → Option D
  | .list ds, .int i => atI ds i
  | .tuple ds, .int i => atI ds i
  | .dict ps, k => (lkD ps k).bind id
  | _, _ => none
theorem atI_rep {K : PySem.W.Frag} {H : Hp} {Ex : Addr → Prop} {ds : List D} {vs : List V} {i : Int} {d : D} (r : Reps K H Ex ds vs) (e : atI ds i = some d) : ∃ v, atI vs i = some v ∧ Rep K H Ex d v := by
  unfold atI at e ⊢
  rw [← r.length]
  cases q : ixN ds.length i with
  | none => rw [q] at e; cases e
  | some j =>
    rw [q] at e
    exact r.get e
section
variable {X : Cx}
theorem ix_all (hu : X.A.units + 1 < cLine) : IxR X (r2 X.K semIx) := by
  intro value slice pins s σ H x y v u Q I rx ry h hs
  obtain ⟨Ex, d1, d2, d, fr, h1, h2, e, q⟩ := h
  unfold semIx at e
  split at e
  · obtain ⟨p, xs, rfl, sq, r⟩ := h1.lst
    obtain ⟨w, ew, rw'⟩ := atI_rep r e
    cases h2.int
    exact ix_list value slice pins s σ H _ _ v u Q I rx ry ⟨p, xs, _, w, rfl, rfl, sq, ew, q _ _ (fun _ _ z => z) rw'⟩ hs
  · obtain ⟨p, xs, rfl, sq, _, r⟩ := h1.tup
    obtain ⟨w, ew, rw'⟩ := atI_rep r e
    cases h2.int
    exact ix_tup value slice pins s σ H _ _ v u Q I rx ry ⟨p, xs, _, w, rfl, rfl, .of sq, ew, q _ _ (fun _ _ z => z) rw'⟩ hs
  · obtain ⟨o, e1, e2⟩ := Option.bind_eq_some_iff.mp e
    have e2 : o = some d := e2
    subst e2
    obtain ⟨a, r, rfl, g, rp⟩ := dget_of h1 h2 e1
    cases r with
    | none => exact rp.elim
    | some w =>
      cases rx
      exact tail_any (dict_typeIs I g) PySem.F.slot_dict_getitem.lookup (d_getItem hu I g ry fun w' s' I' r' => ⟨w, H, I', r', q _ _ (fun _ _ z => z) rp⟩) (hs)
  · cases e
def noSlice : Expr → Bool
  | .Slice _ _ _ _ => false
  | _ => true
theorem plainIx {b : Expr} (h : noSlice b = true) : PlainIx b := by
  intro o i
  cases b <;> first | rfl | cases h
variable {B : Bx} {a b : Expr} {fa fb : FE} {pos p2 : Pos}
theorem ev_ix (hu : X.A.units + 1 < cLine) (ha : EV X B a fa) (hb : EV X B b fb) (hn : noSlice b = true) : EV X B (.Subscript a b pos) (fBin fa fb semIx) := fun ρ h ρ' q =>
  bin_core (f := fa) (t := tC .non) ha hb q fun pa pb => pe_ix (ix_all hu) pa pb (plainIx hn)

/-! ### slices -/
def cutD (xs : List D) (lo hi : Option Int) : List D := (xs.drop (HT.sIx xs.length 0 lo)).take (HT.sIx xs.length xs.length hi - HT.sIx xs.length 0 lo)
theorem cut_rep {K : PySem.W.Frag} {H : Hp} {Ex : Addr → Prop} {ds : List D} {vs : List V} {lo hi : Option Int} (r : Reps K H Ex ds vs) : Reps K H Ex (cutD ds lo hi) (cutV vs lo hi) := by
  unfold cutD cutV
  rw [← r.length]
  exact (r.drop _).take _
def semSl (d : D) (lo hi : Option Int) : Option D := match d with
  | .list ds => some (.list (cutD ds lo hi))
  | .tuple ds => some (.tuple (cutD ds lo hi))
  | _ => none
def rSl (K : PySem.W.Frag) : V → Option Int → Option Int → Hp → VK → Prop := fun x lo hi H Q => ∃ (Ex : Addr → Prop) (d1 d : D), Fresh Ex H ∧ RepB K H Ex d1 x ∧ semSl d1 lo hi = some d ∧
  ∀ z H', (∀ a o, H a = some o → H' a = some o) → Rep K H' Ex d z → Q z H'
theorem sIx_full {n : Nat} {lo hi : Option Int} {ds : List D} (hn : n = ds.length) (h : HT.sIx n 0 lo = 0 ∧ HT.sIx n n hi = n) : cutD ds lo hi = ds := by
  subst hn
  unfold cutD
  rw [h.1, h.2, List.drop_zero, Nat.sub_zero, List.take_length]
theorem sl_all : SlR X (rSl X.K) := by
  intro pins s σ H x v vl vu lo hi sl Q I rx hs pl pu h
  obtain ⟨Ex, d1, d, fr, h1, e, q⟩ := h
  unfold semSl at e
  split at e
  · cases e
    obtain ⟨p, xs, rfl, sq, r⟩ := h1.lst
    exact sl_list pins s σ H _ v vl vu lo hi sl Q I rx hs pl pu ⟨p, xs, rfl, sq, fun p n => q _ _ (same_upd n) (new_lst fr n (cut_rep r))⟩
  · cases e
    obtain ⟨p, xs, rfl, sq, ne, r⟩ := h1.tup
    refine sl_tupA pins s σ H _ v vl vu lo hi sl Q I rx hs pl pu ⟨p, xs, rfl, .of sq, fun z => ?_, fun _ p n => q _ _ (same_upd n) (new_tup fr n (cut_rep r))⟩
    rw [sIx_full (r.length).symm z] at q
    exact q _ _ (fun _ _ z => z) (.tup sq ne r)
  · cases e
/-- a part of a slice -/
abbrev FO := Er → Option (Option Int × Er)
def tO (X : Cx) (B : Bx) (ρ : Er) (o : Option Int) (ρ' : Er) : TO := fun σ H Q => ∃ om, Rel X.K B ρ om σ H ∧ ∀ H' om', Stp B om H om' H' → Rel X.K B ρ' om' σ H' → Q o H'
def EO (X : Cx) (B : Bx) (e : Option Expr) (f : FO) : Prop := ∀ ρ o ρ', f ρ = some (o, ρ') → PO X e (tO X B ρ o ρ')
def oNone : FO := fun ρ => some (none, ρ)
def oSome (fa : FE) : FO := fun ρ => (fa ρ).bind fun p => match p.1 with
  | .v (.int i) => some (some i, p.2)
  | _ => none
theorem po_imp {X : Cx} {e : Option Expr} {t t' : TO} (h : PO X e t) (i : ∀ σ H Q, t' σ H Q → t σ H Q) : PO X e t' := ⟨fun pins s σ H Q I q => h.run pins s σ H Q I (i σ H Q q)⟩
theorem eo_none : EO X B none oNone := fun ρ o ρ' q => by
  cases q
  exact po_imp po_none fun σ H Q ⟨om, R, k⟩ => k H om .refl R
theorem eo_some (ha : EV X B a fa) : EO X B (some a) (oSome fa) := fun ρ o ρ' q => by
  unfold oSome at q
  obtain ⟨⟨h1, ρ1⟩, e1, q⟩ := Option.bind_eq_some_iff.mp q
  split at q
  · rename_i i e2
    cases q
    have e2 : h1 = .v (.int i) := e2
    subst e2
    refine po_imp (po_some (ha _ _ _ e1)) fun σ H Q ⟨om, R, k⟩ => ⟨om, R, fun v H' om' s R' r => ?_⟩
    have r : Rep X.K H' (Exs B om') (.int i) v := r
    cases r
    exact ⟨i, rfl, k H' om' s R'⟩
  · cases q
def fSl (fa : FE) (fl fh : FO) : FE := fun ρ => (fa ρ).bind fun p => (fl p.2).bind fun l => (fh l.2).bind fun h => (res p.1 h.2).bind fun d => (semSl d l.1 h.1).map fun d' => (.v d', h.2)
theorem ev_sl {lo hi : Option Expr} {fl fh : FO} (ha : EV X B a fa) (hl : EO X B lo fl) (hh : EO X B hi fh) : EV X B (.Subscript a (.Slice lo hi none p2) pos) (fSl fa fl fh) := fun ρ h ρ' q => by
  unfold fSl at q
  obtain ⟨⟨h1, ρ1⟩, e1, q⟩ := Option.bind_eq_some_iff.mp q
  obtain ⟨⟨l, ρ2⟩, e2, q⟩ := Option.bind_eq_some_iff.mp q
  obtain ⟨⟨u, ρ3⟩, e3, q⟩ := Option.bind_eq_some_iff.mp q
  obtain ⟨d, e4, q⟩ := Option.bind_eq_some_iff.mp q
  obtain ⟨d', e5, q⟩ := Option.map_eq_some_iff.mp q
  cases q
  refine pe_imp (pe_slice sl_all (ha _ _ _ e1) (hl _ _ _ e2) (hh _ _ _ e3)) fun σ H Q ⟨om, R, k⟩ => ⟨om, R, fun v1 H1 om1 s1 R1 r1 => ⟨om1, R1, fun H2 om2 s2 R2 => ⟨om2, R2, fun H3 om3 s3 R3 => ?_⟩⟩⟩
  exact ⟨Exs B om3, d, d', R3.fresh, R3.resb ((r1.stp s2).stp s3) e4, e5, fun z H4 s4 r => k z H4 om3 (((s1.trans s2).trans s3).trans (.same s4)) (R3.same s4) r⟩
/-- xs[::-1] -/
def semRev : D → Option D
  | .list ds => some (.list ds.reverse)
  | _ => none
theorem ev_rev {k : Nat} {p1 p3 p4 : Pos} (ha : EV X B a fa) : EV X B (.Subscript a (.Slice none none (some (.UnaryOp .USub (.Constant (.int 1) k p1) p2)) p3) pos) (fUn fa semRev) := fun ρ h ρ' q => by
  unfold fUn at q
  obtain ⟨⟨h1, ρ1⟩, e1, q⟩ := Option.bind_eq_some_iff.mp q
  obtain ⟨d, e2, q⟩ := Option.bind_eq_some_iff.mp q
  obtain ⟨d', e3, q⟩ := Option.map_eq_some_iff.mp q
  cases q
  refine pe_imp (pe_revL (ha _ _ _ e1)) fun σ H Q ⟨om, R, kk⟩ => ⟨om, R, fun v H' om' s R' r => ?_⟩
  have b := R'.resb r e2
  unfold semRev at e3
  split at e3
  · cases e3
    obtain ⟨p, xs, rfl, sq, rr⟩ := b.lst
    exact ⟨p, xs, rfl, sq, fun p n => kk _ _ om' (s.trans (.same (same_upd n))) (R'.same (same_upd n)) (new_lst R'.fresh n rr.reverse)⟩
  · cases e3

/-! ### in, not in -/
def inD : D → D → Option Bool
  | d, .list ds => if SeqAt.shaped d && SeqAt.shaped (.list ds) then some (ds.any fun z => PyData.eqv z d) else none
  | d, .tuple ds => if SeqAt.shaped d && SeqAt.shaped (.tuple ds) then some (ds.any fun z => PyData.eqv z d) else none
  | d, .dict ps => (lkD ps d).map (·.isSome)
  | _, _ => none
def semIn (neg : Bool) (d1 d2 : D) : Option D := (inD d1 d2).map fun c => .bool (if neg then !c else c)
theorem in_tupD {pins : List (Addr × Obj)} {s : Shared} {σ : L2.St} {H : Hp} {x y : V} {v u : Value} {d : D} {ds : List D} {Q : VK} {neg : Bool} (hu : X.A.units + 65 < cLine) (I : Inv X pins σ H s) (rx : RelV x v) (ry : RelV y u)
    (hd : Dp X.K H x d) (he : Dp X.K H y (.tuple ds)) (sd : SeqAt.shaped d = true) (se : SeqAt.shaped (.tuple ds) = true) (q : Q (.bl (if neg then !(ds.any fun z => PyData.eqv z d) else ds.any fun z => PyData.eqv z d)) H) :
    wpAny (model X.prog X.w) X.A (compareOp (if neg then .NotIn else .In) v u) (EP X pins σ Q) X.xe s := by
  obtain ⟨as, r1⟩ := Dp.reads I d x v hd rx
  obtain ⟨bs, r2⟩ := Dp.reads I (.tuple ds) y u he ry
  have c1 : PyData.canLayAll0 ds = true := by have := SeqAt.canLay_of_shaped se; simpa [PyData.canLay0] using this
  have room : X.A.units + 1 + min (PyData.depthAll ds) d.depth < cLine := by
    have h1 := SeqAt.depth_of_shaped sd
    have h2 : min (PyData.depthAll ds) d.depth ≤ d.depth := Nat.min_le_right _ _
    omega
  cases neg with
  | false => exact SeqAt.in_tuple_reads r2 r1 c1 (SeqAt.canLay_of_shaped sd) room ⟨.bl _, H, I, rfl, q⟩
  | true => exact SeqAt.notIn_tuple_reads r2 r1 c1 (SeqAt.canLay_of_shaped sd) room ⟨.bl _, H, I, rfl, q⟩
theorem or_in (hu : X.A.units + 65 < cLine) : OpR X (compareOp .In) (r2 X.K (semIn false)) := by
  intro pins s σ H x y v u Q I rx ry h
  obtain ⟨Ex, d1, d2, d, fr, h1, h2, e, q⟩ := h
  obtain ⟨c, e1, e2⟩ := Option.map_eq_some_iff.mp e
  subst e2
  unfold inD at e1
  split at e1
  · split at e1
    · rename_i hs
      cases e1
      rw [Bool.and_eq_true] at hs
      exact op_inD hu pins s σ H x y v u Q I rx ry ⟨d1, _, h1.dp (SeqAt.canLay_of_shaped hs.1), h2.dp (SeqAt.canLay_of_shaped hs.2), hs.1, hs.2, q _ _ (fun _ _ z => z) (.bl _)⟩
    · cases e1
  · split at e1
    · rename_i hs
      cases e1
      rw [Bool.and_eq_true] at hs
      exact in_tupD (neg := false) hu I rx ry (h1.dp (SeqAt.canLay_of_shaped hs.1)) (h2.dp (SeqAt.canLay_of_shaped hs.2)) hs.1 hs.2 (q _ _ (fun _ _ z => z) (.bl _))
    · cases e1
  · obtain ⟨o, e2, e3⟩ := Option.map_eq_some_iff.mp e1
    subst e3
    obtain ⟨a, r, rfl, g, rp⟩ := dget_of h2 h1 e2
    cases ry
    have e4 : o.isSome = r.isSome := by cases o <;> cases r <;> first | rfl | exact rp.elim
    refine d_in (Nat.lt_of_le_of_lt (by omega) hu) I g rx fun s' I' => ⟨.bl _, H, I', rfl, ?_⟩
    rw [← e4]
    exact q _ _ (fun _ _ z => z) (.bl _)
  · cases e1
theorem or_notIn (hu : X.A.units + 65 < cLine) : OpR X (compareOp .NotIn) (r2 X.K (semIn true)) := by
  intro pins s σ H x y v u Q I rx ry h
  obtain ⟨Ex, d1, d2, d, fr, h1, h2, e, q⟩ := h
  obtain ⟨c, e1, e2⟩ := Option.map_eq_some_iff.mp e
  subst e2
  unfold inD at e1
  split at e1
  · split at e1
    · rename_i hs
      cases e1
      rw [Bool.and_eq_true] at hs
      exact op_notInD hu pins s σ H x y v u Q I rx ry ⟨d1, _, h1.dp (SeqAt.canLay_of_shaped hs.1), h2.dp (SeqAt.canLay_of_shaped hs.2), hs.1, hs.2, q _ _ (fun _ _ z => z) (.bl _)⟩
    · cases e1
  · split at e1
    · rename_i hs
      cases e1
      rw [Bool.and_eq_true] at hs
      exact in_tupD (neg := true) hu I rx ry (h1.dp (SeqAt.canLay_of_shaped hs.1)) (h2.dp (SeqAt.canLay_of_shaped hs.2)) hs.1 hs.2 (q _ _ (fun _ _ z => z) (.bl _))
    · cases e1
  · obtain ⟨o, e2, e3⟩ := Option.map_eq_some_iff.mp e1
    subst e3
    obtain ⟨a, r, rfl, g, rp⟩ := dget_of h2 h1 e2
    cases ry
    have e4 : o.isSome = r.isSome := by cases o <;> cases r <;> first | rfl | exact rp.elim
    refine d_notIn (Nat.lt_of_le_of_lt (by omega) hu) I g rx fun s' I' => ⟨.bl _, H, I', rfl, ?_⟩
    rw [← e4]
    exact q _ _ (fun _ _ z => z) (.bl _)
  · cases e1
def semC : CmpOp → D → D → Option D
  | .In => semIn false
  | .NotIn => semIn true
  | op => semCmp op
theorem or_c (hu : X.A.units + 65 < cLine) (op : CmpOp) : OpR X (compareOp op) (r2 X.K (semC op)) := by
  cases op <;> first | exact or_in hu | exact or_notIn hu | exact or_cmp (Nat.lt_of_le_of_lt (by omega) hu) _
theorem semC_bool (op : CmpOp) (x y z : D) (h : semC op x y = some z) : ∃ c, z = .bool c := by
  have i : ∀ n, semIn n x y = some z → ∃ c, z = .bool c := fun n q => by
    obtain ⟨c, _, e⟩ := Option.map_eq_some_iff.mp q
    exact ⟨_, e.symm⟩
  cases op <;> first | exact i _ h | exact semCmp_bool .Eq x y z h | exact semCmp_bool .NotEq x y z h | exact semCmp_bool .Lt x y z h | exact semCmp_bool .LtE x y z h | exact semCmp_bool .Gt x y z h | exact semCmp_bool .GtE x y z h | exact semCmp_bool .Is x y z h | exact semCmp_bool .IsNot x y z h
end

/-! ### calls of what is built in -/
section
variable {X : Cx} {B : Bx} {e : Expr} {es : List Expr} {pos p : Pos}
/-- a new list or dict -/
def rF (K : PySem.W.Frag) (sem : List D → Option D) : List V → Hp → VK → Prop := fun xs H Q => ∃ (Ex : Addr → Prop) (ds : List D) (d : D), Fresh Ex H ∧ RepBs K H Ex ds xs ∧ sem ds = some d ∧
  ∀ p o, H p = none → RepC K H Ex d o → Q (.ref p) (upd H p o)
def fCall (fs : FA) (sem : List D → Option D) : FE := fun ρ => (fs ρ).bind fun p => (resAll p.1 p.2).bind fun ds => (sem ds).map fun d => (.v d, p.2)
def vCall (fs : FA) (sem : List D → Option D) : FV := fun ρ => (fs ρ).bind fun p => (resAll p.1 p.2).bind fun ds => (sem ds).map fun d => (d, p.2)
theorem call_core {fs : FA} {sem : List D → Option D} (ha : EA X B es fs) {ρ h ρ'} (q : fCall fs sem ρ = some (h, ρ')) (mk : ∀ {t : TA}, PA X es t → PE X e (tCB (rN X.K sem) t)) : PE X e (tH X B ρ h ρ') := by
  unfold fCall at q
  obtain ⟨⟨hs, ρ1⟩, e1, q⟩ := Option.bind_eq_some_iff.mp q
  obtain ⟨ds, e2, q⟩ := Option.bind_eq_some_iff.mp q
  obtain ⟨d, e3, q⟩ := Option.map_eq_some_iff.mp q
  cases q
  refine pe_imp (mk (ha _ _ _ e1)) fun σ H Q ⟨om, R, k⟩ => ⟨om, R, fun vs H' om' s R' r => ?_⟩
  exact ⟨Exs B om', ds, d, R'.fresh, r.resb R' e2, e3, fun z H2 s2 r2 => k z H2 om' (s.trans (.same s2)) (R'.same s2) r2⟩
theorem RepC.upd {K : PySem.W.Frag} {H : Hp} {Ex Ex' : Addr → Prop} {d : D} {o : HO} {p : Addr} (n : H p = none) (x : ∀ a, Ex' a → Ex a ∨ H a = none) (h : RepC K H Ex d o) : RepO K (upd H p o) Ex' d p := by
  cases h with
  | lst r => exact .lst upd_same (Reps.mono (.of (same_upd n)) x _ _ r)
  | dk r => exact .dk upd_same (RepK.mono (.of (same_upd n)) x _ _ r)
  | dt r => exact .dt upd_same (RepT.mono (.of (same_upd n)) x _ _ r)
theorem RepC.ntup {K : PySem.W.Frag} {H : Hp} {Ex : Addr → Prop} {d : D} {o : HO} (h : RepC K H Ex d o) : ∀ xs, o ≠ .tup xs := by
  cases h <;> exact fun _ z => nomatch z
end
end Ev

set_option maxRecDepth 100000
set_option maxHeartbeats 4000000
namespace Ev
open PySem PySem.Spec PyProof.Rows L2

/-! ### a change of what is owned -/
theorem Rel.change {K : PySem.W.Frag} {B : Bx} {ρ ρ2 : Er} {om : Om} {σ : L2.St} {H H' : Hp} (R : Rel K B ρ om σ H) (len : ρ2.length = ρ.length)
    (val : ∀ (i : Nat) d, ρ2[i]? = some (.val d) → ρ[i]? = some (.val d))
    (own : ∀ (i : Nat) d, ρ2[i]? = some (.own d) → ∃ d0, ρ[i]? = some (.own d0) ∧ ∀ a, om i = some a → RepO K H (Exs B om) d0 a → RepO K H' (Exs B om) d a)
    (io : ∀ (i : Nat) d, ρ2[i]? = some (.io d) → ∃ d0, ρ[i]? = some (.io d0) ∧ ∀ a, om i = some a → RepO K H (Exs B om) d0 a → RepO K H' (Exs B om) d a)
    (kp : ∀ a o, H a = some o → (∀ i, om i ≠ some a) → a ∉ B.T → H' a = some o)
    (al : ∀ i a, om i = some a → ∃ o, H' a = some o ∧ ∀ xs, o ≠ .tup xs)
    (st : ∀ a, H a ≠ none → H' a ≠ none) (tabs : ∀ P ∈ B.T, GxR.TabG H' P) : Rel K B ρ2 om σ H' ∧ Stp B om H om H' := by
  have k : Keep (Exs B om) H H' := fun a o n e => kp a o e (fun i z => n (.inr ⟨i, z⟩)) fun z => n (.inl (R.tx a z))
  have x : ∀ a, Exs B om a → Exs B om a ∨ H a = none := fun _ z => .inl z
  refine ⟨⟨len.trans R.len, fun i d e => ?_, fun i d e => ?_, fun i d e => ?_, R.inj, R.old, fun a z => ?_, fun a o e n1 n2 => ?_, tabs, R.tx, R.ex0, fun i hi => R.fin i (by rw [← len]; exact hi), fun j a z => st a (R.lent j a z), fun P q e => (R.lam P q e).chg R.tabs kp (fun i a z => .inl ⟨i, z⟩)⟩, ⟨k, x, [], (List.append_nil _).symm⟩⟩
  · obtain ⟨v, e1, r⟩ := R.val i d (val i d e)
    exact ⟨v, e1, Rep.mono k x _ _ r⟩
  · obtain ⟨d0, e0, f⟩ := own i d e
    obtain ⟨a, q0, q1, q2, q3⟩ := R.own i d0 e0
    exact ⟨a, q0, q1, f a q0 q2, q3⟩
  · obtain ⟨d0, e0, f⟩ := io i d e
    obtain ⟨a, q0, q1, q2, q3⟩ := R.io i d0 e0
    exact ⟨a, q0, q1, f a q0 q2, q3⟩
  · rcases z with z | ⟨i, z⟩
    · obtain ⟨o, e, n⟩ := R.exd a (.inl z)
      by_cases h1 : ∃ i, om i = some a
      · obtain ⟨i, hi⟩ := h1
        exact al i a hi
      · by_cases h2 : a ∈ B.T
        · obtain ⟨ps, e2, _⟩ := tabs a h2
          exact ⟨_, e2, fun _ z => nomatch z⟩
        · exact ⟨o, kp a o e (fun i q => h1 ⟨i, q⟩) h2, n⟩
    · exact al i a z
  · have e1 := R.keep a o e n1 n2
    refine kp a o e1 (fun i q => ?_) n2
    rcases R.old i a q with ⟨j, h⟩ | h
    · exact n1 j h
    · rw [h] at e; cases e

/-! ### a def's promise in data -/
structure Fn where
  ios : List Bool
  g : List D → Option (D × List D)
inductive ARep (K : PySem.W.Frag) (H : Hp) (Ex : Addr → Prop) : List Bool → List D → List V → Prop
  | nil : ARep K H Ex [] [] []
  | val {d : D} {v : V} {ios : List Bool} {ds : List D} {vs : List V} : Rep K H Ex d v → ARep K H Ex ios ds vs → ARep K H Ex (false :: ios) (d :: ds) (v :: vs)
  | io {d : D} {a : Addr} {ios : List Bool} {ds : List D} {vs : List V} : RepO K H Ex d a → Ex a → ARep K H Ex ios ds vs → ARep K H Ex (true :: ios) (d :: ds) (.ref a :: vs)
/-- the lent address of the i-th argument -/
def ioA (ios : List Bool) (vs : List V) (i : Nat) : Option Addr := match ios[i]?, vs[i]? with
  | some true, some (.ref a) => some a
  | _, _ => none
def ORep (K : PySem.W.Frag) (H : Hp) (Ex : Addr → Prop) (ios : List Bool) (vs : List V) (outs : List D) : Prop :=
  ∀ i a, ioA ios vs i = some a → ∃ d, outs[i]? = some d ∧ RepO K H Ex d a
def spF (K : PySem.W.Frag) (T : List Addr) (F : Fn) : Sp := fun vs H Q _ => ∃ (Ex : Addr → Prop) (ds : List D) (r : D) (outs : List D),
  Fresh Ex H ∧ (∀ P ∈ T, Ex P) ∧ (∀ P ∈ T, GxR.TabG H P) ∧ ARep K H Ex F.ios ds vs ∧ (∀ i j a, ioA F.ios vs i = some a → ioA F.ios vs j = some a → i = j) ∧ F.g ds = some (r, outs) ∧
  ∀ v H', (∀ a o, H a = some o → (∀ i, ioA F.ios vs i ≠ some a) → a ∉ T → H' a = some o) → (∀ P ∈ T, GxR.TabG H' P) → Rep K H' Ex r v → ORep K H' Ex F.ios vs outs → Q v H'
theorem ARep.len {K : PySem.W.Frag} {H : Hp} {Ex : Addr → Prop} : ∀ {ios : List Bool} {ds : List D} {vs : List V}, ARep K H Ex ios ds vs → ds.length = ios.length ∧ vs.length = ios.length
  | _, _, _, .nil => ⟨rfl, rfl⟩
  | _, _, _, .val _ h => ⟨congrArg (· + 1) h.len.1, congrArg (· + 1) h.len.2⟩
  | _, _, _, .io _ _ h => ⟨congrArg (· + 1) h.len.1, congrArg (· + 1) h.len.2⟩
theorem ARep.at {K : PySem.W.Frag} {H : Hp} {Ex : Addr → Prop} : ∀ {ios : List Bool} {ds : List D} {vs : List V} {i : Nat} {d : D}, ARep K H Ex ios ds vs → ds[i]? = some d →
    ∃ v, vs[i]? = some v ∧ ((ios[i]? = some false ∧ Rep K H Ex d v) ∨ (ios[i]? = some true ∧ ∃ a, v = .ref a ∧ RepO K H Ex d a ∧ Ex a))
  | _, _, _, _, _, .nil, e => by simp at e
  | _, _, _, 0, _, .val h _, e => by simp at e; subst e; exact ⟨_, rfl, .inl ⟨rfl, h⟩⟩
  | _, _, _, 0, _, .io h x _, e => by simp at e; subst e; exact ⟨_, rfl, .inr ⟨rfl, _, rfl, h, x⟩⟩
  | _, _, _, i + 1, _, .val _ h, e => by
    obtain ⟨v, e1, q⟩ := ARep.at (i := i) h (by simpa using e)
    exact ⟨v, by simpa using e1, by simpa using q⟩
  | _, _, _, i + 1, _, .io _ _ h, e => by
    obtain ⟨v, e1, q⟩ := ARep.at (i := i) h (by simpa using e)
    exact ⟨v, by simpa using e1, by simpa using q⟩
/-- the arguments as data; the slots lent -/
def argsOf : List Bool → List Hd → Er → Option (List D)
  | [], [], _ => some []
  | false :: r, .v d :: hs, ρ => (argsOf r hs ρ).map (d :: ·)
  | true :: r, .l i :: hs, ρ => match ρ[i]? with
    | some (.own d) => (argsOf r hs ρ).map (d :: ·)
    | some (.io d) => (argsOf r hs ρ).map (d :: ·)
    | _ => none
  | _, _, _ => none
def lent : List Hd → List Nat
  | [] => []
  | .v _ :: r => lent r
  | .l i :: r => i :: lent r
def setOuts : List Hd → List D → Er → Option Er
  | [], _, ρ => some ρ
  | .v _ :: r, _ :: outs, ρ => setOuts r outs ρ
  | .l i :: r, d :: outs, ρ => match ρ[i]? with
    | some (.own _) => setOuts r outs (ρ.set i (.own d))
    | some (.io _) => setOuts r outs (ρ.set i (.io d))
    | _ => none
  | _, [], _ => none
def nodupN : List Nat → Bool
  | [] => true
  | i :: r => !r.contains i && nodupN r
def fFn (fs : FA) (F : Fn) : FE := fun ρ => (fs ρ).bind fun p => (argsOf F.ios p.1 p.2).bind fun ds => if nodupN (lent p.1) then (F.g ds).bind fun ro => (setOuts p.1 ro.2 p.2).map fun ρ' => (.v ro.1, ρ') else none
section
variable {K : PySem.W.Frag} {B : Bx} {ρ ρ' : Er} {om : Om} {σ : L2.St} {H H' : Hp}
theorem argsOf_rep (R : Rel K B ρ om σ H) : ∀ {ios : List Bool} {hs : List Hd} {vs : List V} {ds : List D}, HReps K B om σ H hs vs → argsOf ios hs ρ = some ds → ARep K H (Exs B om) ios ds vs ∧
    ∀ i a, ioA ios vs i = some a → ∃ j, hs[i]? = some (.l j) ∧ om j = some a
  | [], _, _, _, .nil, e => by cases e; exact ⟨.nil, fun i a z => by simp [ioA] at z⟩
  | false :: r, _, _, _, .cons (h := .v d) h1 h2, e => by
    simp only [argsOf] at e
    obtain ⟨ds, e1, e2⟩ := Option.map_eq_some_iff.mp e
    subst e2
    obtain ⟨a1, a2⟩ := argsOf_rep R h2 e1
    refine ⟨.val h1 a1, fun i a z => ?_⟩
    cases i with
    | zero => simp [ioA] at z
    | succ i => exact a2 i a (by simpa [ioA] using z)
  | true :: r, _, _, _, .cons (h := .l j) h1 h2, e => by
    have h1 : (σ ++ om.τ)[j]? = some (some _) := h1
    simp only [argsOf] at e
    split at e
    · rename_i d e0
      obtain ⟨ds, e1, e2⟩ := Option.map_eq_some_iff.mp e
      subst e2
      obtain ⟨a1, a2⟩ := argsOf_rep R h2 e1
      obtain ⟨a, q0, q1, q2, _⟩ := R.own j _ e0
      rw [h1] at q1; cases q1
      refine ⟨.io q2 (.inr ⟨j, q0⟩) a1, fun i b z => ?_⟩
      cases i with
      | zero => simp [ioA] at z; subst z; exact ⟨j, rfl, q0⟩
      | succ i => exact a2 i b (by simpa [ioA] using z)
    · rename_i d e0
      obtain ⟨ds, e1, e2⟩ := Option.map_eq_some_iff.mp e
      subst e2
      obtain ⟨a1, a2⟩ := argsOf_rep R h2 e1
      obtain ⟨a, q0, q1, q2, _⟩ := R.io j _ e0
      rw [h1] at q1; cases q1
      refine ⟨.io q2 (.inr ⟨j, q0⟩) a1, fun i b z => ?_⟩
      cases i with
      | zero => simp [ioA] at z; subst z; exact ⟨j, rfl, q0⟩
      | succ i => exact a2 i b (by simpa [ioA] using z)
    · cases e
  | [], _, _, _, .cons (h := .v d) h1 h2, e => by simp [argsOf] at e
  | [], _, _, _, .cons (h := .l d) h1 h2, e => by simp [argsOf] at e
  | true :: _, _, _, _, .nil, e => by simp [argsOf] at e
  | false :: _, _, _, _, .nil, e => by simp [argsOf] at e
  | false :: r, _, _, _, .cons (h := .l j) h1 h2, e => by simp [argsOf] at e
  | true :: r, _, _, _, .cons (h := .v d) h1 h2, e => by simp [argsOf] at e
theorem mem_lent : ∀ {hs : List Hd} {i j : Nat}, hs[i]? = some (.l j) → j ∈ lent hs
  | .v _ :: r, 0, j, e => by simp at e
  | .l k :: r, 0, j, e => by simp at e; subst e; exact List.mem_cons_self
  | .v _ :: r, i + 1, j, e => mem_lent (hs := r) (i := i) (by simpa using e)
  | .l k :: r, i + 1, j, e => List.mem_cons_of_mem _ (mem_lent (hs := r) (i := i) (by simpa using e))
theorem lent_inj : ∀ {hs : List Hd} {i i' j : Nat}, nodupN (lent hs) = true → hs[i]? = some (.l j) → hs[i']? = some (.l j) → i = i'
  | [], i, _, _, _, e, _ => by simp at e
  | .v _ :: r, 0, _, j, _, e, _ => by simp at e
  | .v _ :: r, _ + 1, 0, j, _, _, e => by simp at e
  | .v _ :: r, i + 1, i' + 1, j, n, e, e' => congrArg (· + 1) (lent_inj (hs := r) (j := j) n (by simpa using e) (by simpa using e'))
  | .l k :: r, 0, 0, j, _, _, _ => rfl
  | .l k :: r, 0, i' + 1, j, n, e, e' => by
    simp at e; subst e
    simp only [lent, nodupN, Bool.and_eq_true, Bool.not_eq_true', List.contains_eq_mem, decide_eq_false_iff_not] at n
    exact absurd (mem_lent (hs := r) (i := i') (by simpa using e')) n.1
  | .l k :: r, i + 1, 0, j, n, e, e' => by
    simp at e'; subst e'
    simp only [lent, nodupN, Bool.and_eq_true, Bool.not_eq_true', List.contains_eq_mem, decide_eq_false_iff_not] at n
    exact absurd (mem_lent (hs := r) (i := i) (by simpa using e)) n.1
  | .l k :: r, i + 1, i' + 1, j, n, e, e' => by
    simp only [lent, nodupN, Bool.and_eq_true] at n
    exact congrArg (· + 1) (lent_inj (hs := r) (j := j) n.2 (by simpa using e) (by simpa using e'))
/-- the slots behind the call -/
theorem setOuts_spec : ∀ {hs : List Hd} {outs : List D} {ρ ρ' : Er}, nodupN (lent hs) = true → setOuts hs outs ρ = some ρ' → ρ'.length = ρ.length ∧ ∀ j : Nat,
    (ρ'[j]? = ρ[j]? ∧ j ∉ lent hs) ∨ ∃ (i : Nat) (d d0 : D), hs[i]? = some (.l j) ∧ outs[i]? = some d ∧ ((ρ[j]? = some (.own d0) ∧ ρ'[j]? = some (.own d)) ∨ (ρ[j]? = some (.io d0) ∧ ρ'[j]? = some (.io d)))
  | [], _, ρ, ρ', _, e => by cases e; exact ⟨rfl, fun j => .inl ⟨rfl, by simp [lent]⟩⟩
  | .v _ :: r, [], ρ, ρ', n, e => by simp [setOuts] at e
  | .l _ :: r, [], ρ, ρ', n, e => by simp [setOuts] at e
  | .v _ :: r, o :: outs, ρ, ρ', n, e => by
    obtain ⟨l, h⟩ := setOuts_spec (hs := r) (outs := outs) n e
    refine ⟨l, fun j => ?_⟩
    rcases h j with h | ⟨i, d, d0, h1, h2, h3⟩
    · exact .inl h
    · exact .inr ⟨i + 1, d, d0, by simpa using h1, by simpa using h2, h3⟩
  | .l k :: r, o :: outs, ρ, ρ', n, e => by
    simp only [lent, nodupN, Bool.and_eq_true, Bool.not_eq_true', List.contains_eq_mem, decide_eq_false_iff_not] at n
    simp only [setOuts] at e
    split at e
    · rename_i d0 e0
      obtain ⟨l, h⟩ := setOuts_spec (hs := r) (outs := outs) n.2 e
      have kl : k < ρ.length := (List.getElem?_eq_some_iff.mp e0).1
      refine ⟨by rw [l, List.length_set], fun j => ?_⟩
      by_cases hj : j = k
      · subst hj
        rcases h j with ⟨h, _⟩ | ⟨i, d, _, h1, _⟩
        · rw [List.getElem?_set_self kl] at h
          exact .inr ⟨0, o, d0, rfl, rfl, .inl ⟨e0, h⟩⟩
        · exact absurd (mem_lent h1) n.1
      · rcases h j with ⟨h, hm⟩ | ⟨i, d, d1, h1, h2, h3⟩
        · rw [List.getElem?_set_ne (Ne.symm hj)] at h
          exact .inl ⟨h, by simp [lent, hj, hm]⟩
        · rw [List.getElem?_set_ne (Ne.symm hj)] at h3
          exact .inr ⟨i + 1, d, d1, by simpa using h1, by simpa using h2, h3⟩
    · rename_i d0 e0
      obtain ⟨l, h⟩ := setOuts_spec (hs := r) (outs := outs) n.2 e
      have kl : k < ρ.length := (List.getElem?_eq_some_iff.mp e0).1
      refine ⟨by rw [l, List.length_set], fun j => ?_⟩
      by_cases hj : j = k
      · subst hj
        rcases h j with ⟨h, _⟩ | ⟨i, d, _, h1, _⟩
        · rw [List.getElem?_set_self kl] at h
          exact .inr ⟨0, o, d0, rfl, rfl, .inr ⟨e0, h⟩⟩
        · exact absurd (mem_lent h1) n.1
      · rcases h j with ⟨h, hm⟩ | ⟨i, d, d1, h1, h2, h3⟩
        · rw [List.getElem?_set_ne (Ne.symm hj)] at h
          exact .inl ⟨h, by simp [lent, hj, hm]⟩
        · rw [List.getElem?_set_ne (Ne.symm hj)] at h3
          exact .inr ⟨i + 1, d, d1, by simpa using h1, by simpa using h2, h3⟩
    · cases e
end
/-- what is behind a name that a def may call -/
structure Ctr (P : Program) (w : World) (K : PySem.W.Frag) (mg : Str → Option Value) (base : Heap) (CX : CXT) (k : Nat) (T : List Addr) (x : Str) (F : Fn) : Prop where
  ex : ∃ (f : Addr) (fd : FuncData) (ps : List Str), mg x = some (.ref f) ∧ PySem.W.keepIn K (.ref f) = true ∧ Binds K fd ps [] ∧ FnOk P w K mg base CX k f fd ps (spF K T F)
theorem Ctr.mono {P : Program} {w : World} {K : PySem.W.Frag} {mg : Str → Option Value} {base : Heap} {CX : CXT} {j k : Nat} {T : List Addr} {x : Str} {F : Fn} (c : Ctr P w K mg base CX j T x F) (h : j ≤ k) : Ctr P w K mg base CX k T x F := by
  obtain ⟨f, fd, ps, h1, h2, h3, h4⟩ := c.ex
  exact ⟨f, fd, ps, h1, h2, h3, h4.mono h⟩
section
variable {X : Cx} {B : Bx} {CX : CXT} {k : Nat} {e : Expr} {es : List Expr} {pos p : Pos}
abbrev E00 : XK := fun _ _ _ => False
theorem ev_call {x : Str} {F : Fn} {fs : FA} (c : Ctr X.prog X.w X.K X.mg X.base CX k B.T x F) (hr : Room k X.A) (hg : Gl X x) (hx : Passes CX X E00) (ha : EA X B (e :: es) fs) (hdb : (x == ("__debug__" : Str)) = false)
    (he : starEach (e :: es) X.env = (false, eval e X.env) :: starEach es X.env) (hpl : (backTo pos (starEach es X.env)).any (·.1) = false) : EV X B (.Call (.Name x p) (e :: es) [] pos) (fFn fs F) := fun ρ h ρ' q => by
  obtain ⟨f, fd, ps, hm, hk, hb, hF⟩ := c.ex
  unfold fFn at q
  obtain ⟨⟨hs, ρ1⟩, e1, q⟩ := Option.bind_eq_some_iff.mp q
  obtain ⟨ds, e2, q⟩ := Option.bind_eq_some_iff.mp q
  split at q
  · rename_i nd
    obtain ⟨⟨r, outs⟩, e3, q⟩ := Option.bind_eq_some_iff.mp q
    obtain ⟨ρ2, e4, q⟩ := Option.map_eq_some_iff.mp q
    cases q
    refine pe_imp (pe_call hF hr hg hm hk hb .nil hx (ha _ _ _ e1) hdb he hpl) fun σ H Q ⟨om, R, kk⟩ => ⟨om, R, fun vs H1 om1 s1 R1 r1 => ?_⟩
    obtain ⟨ar, io⟩ := argsOf_rep R1 r1 e2
    obtain ⟨ln, sp⟩ := setOuts_spec nd e4
    rw [List.append_nil]
    have inj : ∀ i j a, ioA F.ios vs i = some a → ioA F.ios vs j = some a → i = j := fun i j a h1 h2 => by
      obtain ⟨m1, g1, o1⟩ := io i a h1
      obtain ⟨m2, g2, o2⟩ := io j a h2
      have := R1.inj m1 m2 a o1 o2
      subst this
      exact lent_inj nd g1 g2
    refine ⟨Exs B om1, ds, r, outs, R1.exd, fun P hP => .inl (R1.tx P hP), R1.tabs, ar, inj, e3, fun v H2 keep tabs rr oo => ?_⟩
    -- which argument a lent slot is
    have arg : ∀ (i j : Nat) a, hs[i]? = some (.l j) → om1 j = some a → ioA F.ios vs i = some a := fun i j a g o => by
      have key : ∀ {ios : List Bool} {hs : List Hd} {vs : List V} {ds : List D} {i : Nat}, HReps X.K B om1 σ H1 hs vs → argsOf ios hs ρ1 = some ds → hs[i]? = some (.l j) → ioA ios vs i = some a := by
        intro ios
        induction ios with
        | nil =>
          intro hs vs ds i hh ee gg
          cases hh with
          | nil => simp at gg
          | cons a1 a2 => simp [argsOf] at ee
        | cons b r ih =>
          intro hs vs ds i hh ee gg
          cases hh with
          | nil => simp at gg
          | @cons hd hs v vs a1 a2 =>
            cases i with
            | zero =>
              simp at gg; subst gg
              cases b with
              | false => simp [argsOf] at ee
              | true =>
                have a1 : (σ ++ om1.τ)[j]? = some (some v) := a1
                simp only [argsOf] at ee
                split at ee
                · rename_i d e0
                  obtain ⟨a', q0, q1, _⟩ := R1.own j _ e0
                  rw [o] at q0; cases q0
                  rw [a1] at q1; cases q1
                  rfl
                · rename_i d e0
                  obtain ⟨a', q0, q1, _⟩ := R1.io j _ e0
                  rw [o] at q0; cases q0
                  rw [a1] at q1; cases q1
                  rfl
                · cases ee
            | succ i =>
              have gg' : hs[i]? = some (.l j) := by simpa using gg
              have : ∃ ds', argsOf r hs ρ1 = some ds' := by
                cases b <;> cases hd <;> simp only [argsOf] at ee <;> try cases ee
                · obtain ⟨ds', e', _⟩ := Option.map_eq_some_iff.mp ee; exact ⟨ds', e'⟩
                · split at ee
                  · obtain ⟨ds', e', _⟩ := Option.map_eq_some_iff.mp ee; exact ⟨ds', e'⟩
                  · obtain ⟨ds', e', _⟩ := Option.map_eq_some_iff.mp ee; exact ⟨ds', e'⟩
                  · cases ee
              obtain ⟨ds', e'⟩ := this
              have := ih a2 e' gg'
              simpa [ioA] using this
      exact key r1 e2 g
    have kp : ∀ a o, H1 a = some o → (∀ i, om1 i ≠ some a) → a ∉ B.T → H2 a = some o := fun a o ea no nt => keep a o ea (fun i z => by
      obtain ⟨j, _, o1⟩ := io i a z
      exact no j o1) nt
    have slot : ∀ (j : Nat) a, om1 j = some a → (∃ (i : Nat) (d : D), hs[i]? = some (Hd.l j) ∧ outs[i]? = some d ∧ RepO X.K H2 (Exs B om1) d a) ∨ (j ∉ lent hs) := fun j a o => by
      by_cases hm : j ∈ lent hs
      · have : ∀ {hs : List Hd}, j ∈ lent hs → ∃ i : Nat, hs[i]? = some (.l j) := by
          intro hs
          induction hs with
          | nil => intro h; simp [lent] at h
          | cons hd tl ih =>
            intro h
            cases hd with
            | v d =>
              obtain ⟨i, hi⟩ := ih h
              exact ⟨i + 1, by simpa using hi⟩
            | l m =>
              rcases List.mem_cons.mp h with h | h
              · subst h; exact ⟨0, rfl⟩
              · obtain ⟨i, hi⟩ := ih h
                exact ⟨i + 1, by simpa using hi⟩
        obtain ⟨i, hi⟩ := this hm
        obtain ⟨d, o1, o2⟩ := oo i a (arg i j a hi o)
        exact .inl ⟨i, d, hi, o1, o2⟩
      · exact .inr hm
    have stay : ∀ (j : Nat) a o, om1 j = some a → j ∉ lent hs → H1 a = some o → a ∉ B.T → H2 a = some o := fun j a o oj nl ea nt => keep a o ea (fun i z => by
      obtain ⟨j', g, o1⟩ := io i a z
      have := R1.inj j' j a o1 oj
      subst this
      exact nl (mem_lent g)) nt
    have ntab : ∀ {d : D} {a : Addr}, RepO X.K H1 (Exs B om1) d a → a ∉ B.T := fun {d a} r z => by
      obtain ⟨o, e, _, n, _⟩ := r.some
      obtain ⟨ps, e', _⟩ := R1.tabs a z
      rw [e] at e'; cases e'
      exact n ps rfl
    have k1 : Keep (Exs B om1) H1 H2 := fun a o n ea => kp a o ea (fun i z => n (.inr ⟨i, z⟩)) fun z => n (.inl (R1.tx a z))
    obtain ⟨R2, s2⟩ := R1.change (ρ2 := ρ') (H' := H2) ln (fun j d ej => by
        rcases sp j with ⟨e', _⟩ | ⟨i, d', d0, _, _, ⟨_, e'⟩ | ⟨_, e'⟩⟩
        · rw [← e']; exact ej
        · rw [e'] at ej; cases ej
        · rw [e'] at ej; cases ej)
      (fun j d ej => by
        rcases sp j with ⟨e', nl⟩ | ⟨i, d', d0, g, o1, ⟨e0, e'⟩ | ⟨e0, e'⟩⟩
        · rw [e'] at ej
          refine ⟨d, ej, fun a oj r => r.mono k1 (fun _ z => .inl z) ?_⟩
          obtain ⟨o, eo, _⟩ := r.some
          rw [eo]; exact stay j a o oj nl eo (ntab r)
        · rw [e'] at ej; cases ej
          refine ⟨d0, e0, fun a oj r => ?_⟩
          obtain ⟨d2, o2, r2⟩ := oo i a (arg i j a g oj)
          rw [o1] at o2; cases o2
          exact r2
        · rw [e'] at ej; cases ej)
      (fun j d ej => by
        rcases sp j with ⟨e', nl⟩ | ⟨i, d', d0, g, o1, ⟨e0, e'⟩ | ⟨e0, e'⟩⟩
        · rw [e'] at ej
          refine ⟨d, ej, fun a oj r => r.mono k1 (fun _ z => .inl z) ?_⟩
          obtain ⟨o, eo, _⟩ := r.some
          rw [eo]; exact stay j a o oj nl eo (ntab r)
        · rw [e'] at ej; cases ej
        · rw [e'] at ej; cases ej
          refine ⟨d0, e0, fun a oj r => ?_⟩
          obtain ⟨d2, o2, r2⟩ := oo i a (arg i j a g oj)
          rw [o1] at o2; cases o2
          exact r2)
      kp
      (fun j a oj => by
        rcases slot j a oj with ⟨i, d, _, _, r2⟩ | nl
        · obtain ⟨o, e, _, _, n⟩ := r2.some
          exact ⟨o, e, n⟩
        · obtain ⟨o, eo, n⟩ := R1.exd a (.inr ⟨j, oj⟩)
          by_cases ht : a ∈ B.T
          · obtain ⟨ps, e2, _⟩ := tabs a ht
            exact ⟨_, e2, fun _ z => nomatch z⟩
          · exact ⟨o, stay j a o oj nl eo ht, n⟩)
      (fun a hn => by
        cases eo : H1 a with
        | none => exact absurd eo hn
        | some o =>
          by_cases hi : ∃ i, ioA F.ios vs i = some a
          · obtain ⟨i, hi⟩ := hi
            obtain ⟨d, _, r2⟩ := oo i a hi
            obtain ⟨u, e, _⟩ := r2.some
            rw [e]; exact fun z => nomatch z
          · by_cases ht : a ∈ B.T
            · obtain ⟨ps, e2, _⟩ := tabs a ht
              rw [e2]; exact fun z => nomatch z
            · rw [keep a o eo (fun i z => hi ⟨i, z⟩) ht]; exact fun z => nomatch z)
      tabs
    exact kk v H2 om1 (s1.trans s2) R2 rr
  · cases q
end
end Ev

set_option maxRecDepth 100000
set_option maxHeartbeats 4000000
namespace Ev
open PySem PySem.Spec PyProof.Rows L2

/-! ### storing -/
theorem Rep.less {K : PySem.W.Frag} {H : Hp} {Ex Ex' : Addr → Prop} {d : D} {v : V} (x : ∀ a, Ex' a → Ex a) (r : Rep K H Ex d v) : Rep K H Ex' d v := Rep.mono .refl (fun a z => .inl (x a z)) _ _ r
/-- a move of what is owned -/
def mv (om : Om) (i j : Nat) : Om := ⟨fun k => if k = i then om j else if k = j then none else om k, om.τ⟩
def stV (i : Nat) (d : D) (ρ : Er) : Option Er := match ρ[i]? with
  | some (.io _) => none
  | some _ => some (ρ.set i (.val d))
  | none => none
def stH (n i : Nat) (h : Hd) (ρ : Er) : Option Er := match h with
  | .v d => stV i d ρ
  | .l j => match ρ[j]? with
    | some (.own d) => if n ≤ j then (match ρ[i]? with
      | some (.io _) => none
      | some _ => some ((ρ.set i (.own d)).set j .un)
      | none => none) else stV i d (ρ.set j (.val d))
    | some (.val d) => stV i d ρ
    | _ => none
section
variable {K : PySem.W.Frag} {B : Bx} {ρ ρ' : Er} {om om' : Om} {σ : L2.St} {H H' : Hp} {h : Hd} {v : V} {d : D}
theorem set_app {i : Nat} {τ : L2.St} {x : Option V} (hi : i < σ.length) : σ.set i x ++ τ = (σ ++ τ).set i x := (List.set_append_left (s := σ) (t := τ) i x hi).symm
theorem Rel.storeV {i : Nat} (R : Rel K B ρ om σ H) (hi : i < σ.length) (r : Rep K H (Exs B om) d v) (e : stV i d ρ = some ρ') :
    Rel K B ρ' (drp om i) (σ.set i (some v)) H := by
  have hl : i < (σ ++ om.τ).length := by rw [List.length_append]; omega
  have e' : ρ' = ρ.set i (.val d) := by
    unfold stV at e
    split at e
    · cases e
    · cases e; rfl
    · cases e
  subst e'
  have gs : ∀ {j : Nat}, j ≠ i → (σ.set i (some v) ++ (drp om i).τ)[j]? = (σ ++ om.τ)[j]? := fun {j} h => by
    rw [set_app hi, List.getElem?_set_ne (Ne.symm h)]; rfl
  have gi : (σ.set i (some v) ++ (drp om i).τ)[i]? = some (some v) := by
    rw [set_app hi, List.getElem?_set_self]
    exact hl
  refine R.weak drp_sub.2 (by rw [List.length_set, List.length_append, List.length_set, ← List.length_append]; exact R.len) (fun j hj => drp_sub.none (R.fin j (by simpa using hj))) (fun j d' e' => ?_) (fun j d' e' => ?_) (fun j d' e' => ?_)
  · rcases set_get e' with ⟨rfl, q⟩ | ⟨hj, q⟩
    · cases q; exact ⟨_, gi, r.less fun a z => drp_sub.ex a z⟩
    · obtain ⟨w, e1, r1⟩ := R.val j d' q
      exact ⟨w, (gs hj).trans e1, r1.less fun a z => drp_sub.ex a z⟩
  · rcases set_get e' with ⟨_, q⟩ | ⟨hj, q⟩
    · cases q
    · exact ⟨q, drp_ne hj, gs hj⟩
  · rcases set_get e' with ⟨_, q⟩ | ⟨hj, q⟩
    · cases q
    · exact ⟨q, drp_ne hj, gs hj⟩
theorem Rel.storeM {i j : Nat} (R : Rel K B ρ om σ H) (hi : i < σ.length) (hj : σ.length ≤ j) (ej : ρ[j]? = some (.own d)) (r : (σ ++ om.τ)[j]? = some (some v)) :
    Rel K B ((ρ.set i (.own d)).set j .un) (mv om i j) (σ.set i (some v)) H ∧ ∀ a, Exs B (mv om i j) a → Exs B om a := by
  have ij : i ≠ j := by omega
  have hl : i < (σ ++ om.τ).length := by rw [List.length_append]; omega
  obtain ⟨a, ea, es, o, hn⟩ := R.own j d ej
  rw [r] at es; cases es
  have mi : mv om i j i = some a := (if_pos rfl).trans ea
  have mj : mv om i j j = none := (if_neg (Ne.symm ij)).trans (if_pos rfl)
  have mk : ∀ {k : Nat}, k ≠ i → k ≠ j → mv om i j k = om k := fun h1 h2 => (if_neg h1).trans (if_neg h2)
  have mvO : ∀ {k : Nat} {b : Addr}, mv om i j k = some b → ∃ k', om k' = some b := fun {k b} z => by
    by_cases h1 : k = i
    · rw [h1, mi] at z; exact ⟨j, ea.trans z⟩
    · by_cases h2 : k = j
      · rw [h2, mj] at z; cases z
      · rw [mk h1 h2] at z; exact ⟨k, z⟩
  have sx : ∀ b, Exs B (mv om i j) b → Exs B om b := fun b z => by
    rcases z with z | ⟨k, z⟩
    · exact .inl z
    · by_cases h1 : k = i
      · rw [h1, mi] at z; cases z; exact .inr ⟨j, ea⟩
      · by_cases h2 : k = j
        · rw [h2, mj] at z; cases z
        · rw [mk h1 h2] at z; exact .inr ⟨k, z⟩
  have x : ∀ b, Exs B (mv om i j) b → Exs B om b ∨ H b = none := fun b z => .inl (sx b z)
  have gs : ∀ {k : Nat}, k ≠ i → (σ.set i (some (V.ref a)) ++ (mv om i j).τ)[k]? = (σ ++ om.τ)[k]? := fun {k} h => by
    rw [set_app hi, List.getElem?_set_ne (Ne.symm h)]; rfl
  have gi : (σ.set i (some (V.ref a)) ++ (mv om i j).τ)[i]? = some (some (V.ref a)) := by
    rw [set_app hi, List.getElem?_set_self]
    exact hl
  have ge : ∀ {k : Nat} {y : Sl}, ((ρ.set i (.own d)).set j .un)[k]? = some y → (k = j ∧ y = .un) ∨ (k ≠ j ∧ k = i ∧ y = .own d) ∨ (k ≠ j ∧ k ≠ i ∧ ρ[k]? = some y) := fun {k y} e => by
    rcases set_get e with ⟨h1, h2⟩ | ⟨h1, h2⟩
    · exact .inl ⟨h1, h2⟩
    · rcases set_get h2 with ⟨h3, h4⟩ | ⟨h3, h4⟩
      · exact .inr (.inl ⟨h1, h3, h4⟩)
      · exact .inr (.inr ⟨h1, h3, h4⟩)
  refine ⟨⟨by rw [List.length_set, List.length_set, List.length_append, List.length_set, ← List.length_append]; exact R.len, fun k d' e => ?_, fun k d' e => ?_, fun k d' e => ?_, fun k l b e1 e2 => ?_, fun k b e => ?_, fun b z => R.exd b (sx b z), R.keep, R.tabs, R.tx, R.ex0, fun k hk => ?_, R.lent, fun P q e => (R.lam P q e).chg R.tabs (fun _ _ e _ _ => e) (fun k b z => .inl (mvO z))⟩, sx⟩
  · rcases ge e with ⟨_, q⟩ | ⟨_, _, q⟩ | ⟨h1, h2, q⟩
    · cases q
    · cases q
    · obtain ⟨w, e1, r1⟩ := R.val k d' q
      exact ⟨w, (gs h2).trans e1, r1.less sx⟩
  · rcases ge e with ⟨_, q⟩ | ⟨_, h2, q⟩ | ⟨h1, h2, q⟩
    · cases q
    · cases q
      subst h2
      exact ⟨a, mi, gi, o.mono .refl x rfl, hn⟩
    · obtain ⟨b, q0, q1, q2, q3⟩ := R.own k d' q
      exact ⟨b, (mk h2 h1).trans q0, (gs h2).trans q1, q2.mono .refl x rfl, q3⟩
  · rcases ge e with ⟨_, q⟩ | ⟨_, _, q⟩ | ⟨h1, h2, q⟩
    · cases q
    · cases q
    · obtain ⟨b, q0, q1, q2, q3⟩ := R.io k d' q
      exact ⟨b, (mk h2 h1).trans q0, (gs h2).trans q1, q2.mono .refl x rfl, q3⟩
  · have un : ∀ {k : Nat}, mv om i j k = some b → ∃ k', om k' = some b ∧ ((k = i ∧ k' = j) ∨ (k ≠ i ∧ k ≠ j ∧ k' = k)) := fun {k} e => by
      by_cases h1 : k = i
      · rw [h1, mi] at e; exact ⟨j, ea.trans e, .inl ⟨h1, rfl⟩⟩
      · by_cases h2 : k = j
        · rw [h2, mj] at e; cases e
        · rw [mk h1 h2] at e; exact ⟨k, e, .inr ⟨h1, h2, rfl⟩⟩
    obtain ⟨k', f1, g1⟩ := un e1
    obtain ⟨l', f2, g2⟩ := un e2
    have := R.inj k' l' b f1 f2
    omega
  · by_cases h1 : k = i
    · rw [h1, mi] at e; cases e; exact R.old j a ea
    · by_cases h2 : k = j
      · rw [h2, mj] at e; cases e
      · rw [mk h1 h2] at e; exact R.old k b e
  · have hk' : ρ.length ≤ k := by simpa using hk
    have hl2 := R.len
    have jl := (List.getElem?_eq_some_iff.mp ej).1
    rw [List.length_append] at hl2
    rw [mk (by omega) (by omega)]
    exact R.fin k hk'
theorem Rel.store {n i : Nat} (R : Rel K B ρ om σ H) (hn : σ.length = n) (hi : i < n) (r : HRep K B om σ H h v) (e : stH n i h ρ = some ρ') :
    ∃ om', om'.τ = om.τ ∧ (∀ a, Exs B om' a → Exs B om a) ∧ Rel K B ρ' om' (σ.set i (some v)) H := by
  subst hn
  cases h with
  | v d' => exact ⟨drp om i, rfl, fun a z => drp_sub.ex a z, R.storeV hi r e⟩
  | l j =>
    have r : (σ ++ om.τ)[j]? = some (some v) := r
    simp only [stH] at e
    split at e
    · rename_i d' ej
      split at e
      · rename_i hj
        split at e
        · cases e
        · cases e
          obtain ⟨R', sx⟩ := R.storeM hi hj ej r
          exact ⟨mv om i j, rfl, sx, R'⟩
        · cases e
      · obtain ⟨R1, r1⟩ := R.freeze ej r
        exact ⟨drp (drp om j) i, rfl, fun a z => drp_sub.ex a (drp_sub.ex a z), R1.storeV hi r1 e⟩
    · rename_i d' ej
      obtain ⟨w, es, o⟩ := R.val j _ ej
      rw [r] at es; cases es
      exact ⟨drp om i, rfl, fun a z => drp_sub.ex a z, R.storeV hi o e⟩
    · cases e
/-- what has no name goes -/
def cutO (om : Om) (n : Nat) : Om := ⟨fun k => if k < n then om k else none, []⟩
theorem Rel.cut {n : Nat} (R : Rel K B ρ om σ H) (hn : σ.length = n) : Rel K B (ρ.take n) (cutO om n) σ H ∧ ∀ a, Exs B (cutO om n) a → Exs B om a := by
  subst hn
  have cl : ∀ {k : Nat}, k < σ.length → cutO om σ.length k = om k := fun h => if_pos h
  have cg : ∀ {k : Nat}, ¬ k < σ.length → cutO om σ.length k = none := fun h => if_neg h
  have s : ∀ i a, cutO om σ.length i = some a → om i = some a := fun i a e => by
    by_cases h : i < σ.length
    · rwa [cl h] at e
    · rw [cg h] at e; cases e
  have sx : ∀ a, Exs B (cutO om σ.length) a → Exs B om a := fun a z => z.elim .inl fun ⟨i, e⟩ => .inr ⟨i, s i a e⟩
  have ge : ∀ {k : Nat} {y : Sl}, (ρ.take σ.length)[k]? = some y → k < σ.length ∧ ρ[k]? = some y := fun {k y} e => by
    rw [List.getElem?_take] at e
    split at e
    · exact ⟨by assumption, e⟩
    · cases e
  have gs : ∀ {k : Nat}, k < σ.length → (σ ++ (cutO om σ.length).τ)[k]? = (σ ++ om.τ)[k]? := fun {k} h => by
    show (σ ++ [])[k]? = _
    rw [List.append_nil, List.getElem?_append_left h]
  refine ⟨R.weak s ?_ (fun k hk => cg ?_) (fun k d' e => ?_) (fun k d' e => ?_) (fun k d' e => ?_), sx⟩
  · have := R.len
    rw [List.length_append] at this
    show (ρ.take σ.length).length = (σ ++ []).length
    rw [List.length_take, List.append_nil]; omega
  · have := R.len
    rw [List.length_append] at this
    rw [List.length_take] at hk
    omega
  · obtain ⟨h1, h2⟩ := ge e
    obtain ⟨w, e1, r1⟩ := R.val k d' h2
    exact ⟨w, (gs h1).trans e1, r1.less sx⟩
  · obtain ⟨h1, h2⟩ := ge e
    exact ⟨h2, cl h1, gs h1⟩
  · obtain ⟨h1, h2⟩ := ge e
    exact ⟨h2, cl h1, gs h1⟩
theorem Stp.less (s : Stp B om H om' H') {om2 : Om} (h0 : om.τ = []) (h2 : om2.τ = []) (x : ∀ a, Exs B om2 a → Exs B om' a) : Stp B om H om2 H' := ⟨s.keep, fun a z => s.grow a (x a z), [], by rw [h0, h2]; rfl⟩
end

/-! ### what a statement does -/
inductive Rs where
  | nx (ρ : Er) | ret (d : D) (ρ : Er) | bk (ρ : Er) | ct (ρ : Er)
abbrev FS := Er → Option Rs
def tSt (X : Cx) (B : Bx) (ρ : Er) (r : Rs) : TS := fun D σ H => ∃ om, Rel X.K B ρ om σ H ∧ om.τ = [] ∧ match r with
  | .nx ρ' => ∀ σ' H' om', Stp B om H om' H' → Rel X.K B ρ' om' σ' H' → om'.τ = [] → D.nx σ' H'
  | .bk ρ' => ∀ σ' H' om', Stp B om H om' H' → Rel X.K B ρ' om' σ' H' → om'.τ = [] → D.bk σ' H'
  | .ct ρ' => ∀ σ' H' om', Stp B om H om' H' → Rel X.K B ρ' om' σ' H' → om'.τ = [] → D.ct σ' H'
  | .ret d ρ' => ∀ v σ' H' om', Stp B om H om' H' → Rel X.K B ρ' om' σ' H' → Rep X.K H' (Exs B om') d v → D.rt v H'
def ES (X : Cx) (B : Bx) (st : Stmt) (f : FS) : Prop := ∀ ρ r, f ρ = some r → PS X st (tSt X B ρ r)
def ESs (X : Cx) (B : Bx) (st : List Stmt) (f : FS) : Prop := ∀ ρ r, f ρ = some r → PSs X st (tSt X B ρ r)
def sNext : FS := fun ρ => some (.nx ρ)
def sBrk : FS := fun ρ => some (.bk ρ)
def sCt : FS := fun ρ => some (.ct ρ)
def sSeq (f g : FS) : FS := fun ρ => (f ρ).bind fun r => match r with
  | .nx ρ' => g ρ'
  | r => some r
section
variable {X : Cx} {B : Bx} {st : Stmt} {rest : List Stmt} {f g : FS} {e : Expr} {fe : FE} {pos : Pos} {n : Nat}
theorem es_next (h : PS X st tNext) : ES X B st sNext := fun ρ r q => by
  cases q
  exact ps_imp h fun D σ H ⟨om, R, t, k⟩ => k σ H om .refl R t
theorem es_pass : ES X B (.Pass pos) sNext := es_next ps_pass
theorem es_brk : ES X B (.Break pos) sBrk := fun ρ r q => by
  cases q
  exact ps_imp ps_break fun D σ H ⟨om, R, t, k⟩ => k σ H om .refl R t
theorem es_ct : ES X B (.Continue pos) sCt := fun ρ r q => by
  cases q
  exact ps_imp ps_continue fun D σ H ⟨om, R, t, k⟩ => k σ H om .refl R t
theorem es_never : ES X B st (fun _ => none) := fun ρ r q => by cases q
theorem ess_never {sts : List Stmt} : ESs X B sts (fun _ => none) := fun ρ r q => by cases q
theorem ess_nil : ESs X B [] sNext := fun ρ r q => by
  cases q
  exact pss_imp pss_nil fun D σ H ⟨om, R, t, k⟩ => k σ H om .refl R t
theorem ess_one (h : ES X B st f) : ESs X B [st] f := fun ρ r q => pss_one (h ρ r q)
/-- the rest of the run, from a later state -/
theorem tSt.at {ρ1 : Er} {r : Rs} {D : Ends} {H : Hp} {om : Om} (t : om.τ = [])
    (k : match r with
      | .nx ρ' => ∀ σ' H' om', Stp B om H om' H' → Rel X.K B ρ' om' σ' H' → om'.τ = [] → D.nx σ' H'
      | .bk ρ' => ∀ σ' H' om', Stp B om H om' H' → Rel X.K B ρ' om' σ' H' → om'.τ = [] → D.bk σ' H'
      | .ct ρ' => ∀ σ' H' om', Stp B om H om' H' → Rel X.K B ρ' om' σ' H' → om'.τ = [] → D.ct σ' H'
      | .ret d ρ' => ∀ v σ' H' om', Stp B om H om' H' → Rel X.K B ρ' om' σ' H' → Rep X.K H' (Exs B om') d v → D.rt v H')
    {σ1 : L2.St} {H1 : Hp} {om1 : Om} (s : Stp B om H om1 H1) (R1 : Rel X.K B ρ1 om1 σ1 H1) (t1 : om1.τ = []) : tSt X B ρ1 r D σ1 H1 := by
  refine ⟨om1, R1, t1, ?_⟩
  cases r with
  | nx ρ' => exact fun σ' H' om' s' => k σ' H' om' (s.trans s')
  | bk ρ' => exact fun σ' H' om' s' => k σ' H' om' (s.trans s')
  | ct ρ' => exact fun σ' H' om' s' => k σ' H' om' (s.trans s')
  | ret d ρ' => exact fun v σ' H' om' s' => k v σ' H' om' (s.trans s')
theorem ess_cons (h : ES X B st f) (h2 : ESs X B rest g) : ESs X B (st :: rest) (sSeq f g) := fun ρ r q => by
  unfold sSeq at q
  obtain ⟨r1, e1, q⟩ := Option.bind_eq_some_iff.mp q
  cases r1 with
  | nx ρ1 =>
    refine pss_imp (pss_cons (h _ _ e1) (h2 _ _ q)) fun D σ H ⟨om, R, t, k⟩ => ⟨om, R, t, fun σ' H' om' s R' t' => ?_⟩
    exact tSt.at (X := X) t k s R' t'
  | bk ρ1 =>
    cases q
    exact pss_imp (pss_cons (h _ _ e1) pss_never) fun D σ H ⟨om, R, t, k⟩ => ⟨om, R, t, k⟩
  | ct ρ1 =>
    cases q
    exact pss_imp (pss_cons (h _ _ e1) pss_never) fun D σ H ⟨om, R, t, k⟩ => ⟨om, R, t, k⟩
  | ret d ρ1 =>
    cases q
    exact pss_imp (pss_cons (h _ _ e1) pss_never) fun D σ H ⟨om, R, t, k⟩ => ⟨om, R, t, k⟩
/-- an expression alone -/
def sExp (n : Nat) (fe : FE) : FS := fun ρ => (fe ρ).map fun p => .nx (p.2.take n)
theorem es_expr (hn : X.N.length = n) (h : EV X B e fe) (hs : swapsWith e none pos.line X.env = pure false) : ES X B (.Expr e pos) (sExp n fe) := fun ρ r q => by
  unfold sExp at q
  obtain ⟨⟨h1, ρ1⟩, e1, q⟩ := Option.map_eq_some_iff.mp q
  cases q
  refine ps_impL (ps_expr (h _ _ _ e1) hs) fun D σ H ln ⟨om, R, t, k⟩ => ⟨om, R, fun v H' om' s R' r => ?_⟩
  obtain ⟨R2, x⟩ := R'.cut (ln.trans hn)
  exact k σ H' _ (s.less t rfl x) R2 rfl
/-- name = e -/
def sSet (n i : Nat) (fe : FE) : FS := fun ρ => (fe ρ).bind fun p => (stH n i p.1 p.2).map fun ρ' => .nx (ρ'.take n)
theorem es_set {i : Nat} {x : Str} {pos' : Pos} (hN : X.N.Nodup) (hn : X.N.length = n) (hi : X.N[i]? = some x) (hx : Loc X.env.scope x) (hf : X.fn x = true ∨ X.env.scope.names.lookup x = some .local) (h : EV X B e fe) (hs : swapsWith e (some (.Name x pos')) pos.line X.env = pure false) :
    ES X B (.Assign [.Name x pos'] e pos) (sSet n i fe) := fun ρ r q => by
  unfold sSet at q
  obtain ⟨⟨h1, ρ1⟩, e1, q⟩ := Option.bind_eq_some_iff.mp q
  obtain ⟨ρ2, e2, q⟩ := Option.map_eq_some_iff.mp q
  cases q
  refine ps_impL (ps_set hN hi hx (h _ _ _ e1) hs hf) fun D σ H ln ⟨om, R, t, k⟩ => ⟨om, R, fun v H' om' s R' r => ?_⟩
  obtain ⟨om2, t2, x2, R2⟩ := R'.store (ln.trans hn) (by rw [← hn]; exact (List.getElem?_eq_some_iff.mp hi).1) r e2
  obtain ⟨R3, x3⟩ := R2.cut (n := n) (by rw [List.length_set]; exact ln.trans hn)
  exact k _ H' _ (s.less t rfl fun a z => x2 a (x3 a z)) R3 rfl
/-- the second's place is not touched by the first's store -/
def apart (n i : Nat) : Hd → Bool
  | .v _ => true
  | .l j => decide (n ≤ j)
/-- a, b = e, e -/
def sPar (n i j : Nat) (fs : FA) : FS := fun ρ => (fs ρ).bind fun p => if p.1.all (apart n 0) then (match p.1 with
  | [h1, h2] => (stH n i h1 p.2).bind fun ρ1 => (stH n j h2 ρ1).map fun ρ2 => .nx (ρ2.take n)
  | _ => none) else none
theorem HRep.stored {K : PySem.W.Frag} {ρ ρ1 : Er} {om om1 : Om} {σ : L2.St} {H : Hp} {h : Hd} {v w : V} {i : Nat} (hi : i < σ.length) (ha : apart σ.length i h = true) (t : om1.τ = om.τ) (x : ∀ a, Exs B om1 a → Exs B om a) (r : HRep K B om σ H h v) : HRep K B om1 (σ.set i (some w)) H h v := by
  cases h with
  | v d => exact Rep.less x r
  | l j =>
    have r : (σ ++ om.τ)[j]? = some (some v) := r
    show (σ.set i (some w) ++ om1.τ)[j]? = some (some v)
    have hj : σ.length ≤ j := of_decide_eq_true ha
    rw [t, set_app hi, List.getElem?_set_ne (by omega)]
    exact r
theorem es_par {i j : Nat} {x y : Str} {a b : Expr} {fs : FA} {px py pt : Pos} {kt k2 pt2} (hc : X.calm = true) (hN : X.N.Nodup) (hn : X.N.length = n) (hi : X.N[i]? = some x) (hj : X.N[j]? = some y) (hij : i ≠ j)
    (hx : X.env.scope.names.lookup x = some .local) (hy : X.env.scope.names.lookup y = some .local) (h : EA X B [a, b] fs)
    (hw : swappedStores [.Tuple [.Name x px, .Name y py] kt pt] (.Tuple [a, b] k2 pt2) X.env = pure (some [x, y]))
    (hs : swapsWithSole [.Tuple [.Name x px, .Name y py] kt pt] (.Tuple [a, b] k2 pt2) pos.line X.env = pure false) :
    ES X B (.Assign [.Tuple [.Name x px, .Name y py] kt pt] (.Tuple [a, b] k2 pt2) pos) (sPar n i j fs) := fun ρ r q => by
  unfold sPar at q
  obtain ⟨⟨hs', ρ1⟩, e1, q⟩ := Option.bind_eq_some_iff.mp q
  split at q
  · rename_i ap
    split at q
    · rename_i h1 h2 e0
      have e0 : hs' = [h1, h2] := e0
      subst e0
      obtain ⟨ρ2, e2, q⟩ := Option.bind_eq_some_iff.mp q
      obtain ⟨ρ3, e3, q⟩ := Option.map_eq_some_iff.mp q
      cases q
      refine ps_impL (ps_par hc hN hi hj hij hx hy (h _ _ _ e1) hw hs) fun D σ H ln ⟨om, R, t, k⟩ => ⟨om, R, fun vs H' om' s R' r => ?_⟩
      cases r with
      | cons r1 r =>
        cases r with
        | cons r2 r =>
          cases r
          have ln' := ln.trans hn
          have hi' : i < σ.length := lt_of ln hi
          have hj' : j < σ.length := lt_of ln hj
          refine ⟨_, _, rfl, ?_⟩
          obtain ⟨om2, t2, x2, R2⟩ := R'.store ln' (by rw [← ln']; exact hi') r1 e2
          have ap2 : apart σ.length i h2 = true := by
            rw [ln']
            simp only [List.all_cons, List.all_nil, Bool.and_true, Bool.and_eq_true] at ap
            exact ap.2
          obtain ⟨om3, t3, x3, R3⟩ := R2.store (n := n) (by rw [List.length_set]; exact ln') (by rw [← ln']; exact hj') (r2.stored (ρ := ρ) (ρ1 := ρ) hi' ap2 t2 x2) e3
          obtain ⟨R4, x4⟩ := R3.cut (n := n) (by rw [List.length_set, List.length_set]; exact ln')
          exact k _ H' _ (s.less t rfl fun a z => x2 a (x3 a (x4 a z))) R4 rfl
    · cases q
  · cases q
def sPar3 (n i j l : Nat) (fs : FA) : FS := fun ρ => (fs ρ).bind fun p => if p.1.all (apart n 0) then (match p.1 with
  | [h1, h2, h3] => (stH n i h1 p.2).bind fun ρ1 => (stH n j h2 ρ1).bind fun ρ2 => (stH n l h3 ρ2).map fun ρ3 => .nx (ρ3.take n)
  | _ => none) else none
theorem es_par3 {i j l : Nat} {x y z : Str} {a b c : Expr} {fs : FA} {px py pz pt : Pos} {kt k2 pt2} (hc : X.calm = true) (hN : X.N.Nodup) (hn : X.N.length = n) (hi : X.N[i]? = some x) (hj : X.N[j]? = some y) (hl : X.N[l]? = some z) (hij : i ≠ j) (hil : i ≠ l) (hjl : j ≠ l)
    (hx : X.env.scope.names.lookup x = some .local) (hy : X.env.scope.names.lookup y = some .local) (hz : X.env.scope.names.lookup z = some .local) (h : EA X B [a, b, c] fs)
    (hw : swappedStores [.Tuple [.Name x px, .Name y py, .Name z pz] kt pt] (.Tuple [a, b, c] k2 pt2) X.env = pure (some [x, y, z]))
    (hs : swapsWithSole [.Tuple [.Name x px, .Name y py, .Name z pz] kt pt] (.Tuple [a, b, c] k2 pt2) pos.line X.env = pure false) :
    ES X B (.Assign [.Tuple [.Name x px, .Name y py, .Name z pz] kt pt] (.Tuple [a, b, c] k2 pt2) pos) (sPar3 n i j l fs) := fun ρ r q => by
  unfold sPar3 at q
  obtain ⟨⟨hs', ρ1⟩, e1, q⟩ := Option.bind_eq_some_iff.mp q
  split at q
  · rename_i ap
    split at q
    · rename_i h1 h2 h3 e0
      have e0 : hs' = [h1, h2, h3] := e0
      subst e0
      obtain ⟨ρ2, e2, q⟩ := Option.bind_eq_some_iff.mp q
      obtain ⟨ρ3, e3, q⟩ := Option.bind_eq_some_iff.mp q
      obtain ⟨ρ4, e4, q⟩ := Option.map_eq_some_iff.mp q
      cases q
      refine ps_impL (ps_par3 hc hN hi hj hl hij hil hjl hx hy hz (h _ _ _ e1) hw hs) fun D σ H ln ⟨om, R, t, k⟩ => ⟨om, R, fun vs H' om' s R' r => ?_⟩
      cases r with
      | cons r1 r =>
        cases r with
        | cons r2 r =>
          cases r with
          | cons r3 r =>
            cases r
            have ln' := ln.trans hn
            have hi' : i < σ.length := lt_of ln hi
            have hj' : j < σ.length := lt_of ln hj
            have hl' : l < σ.length := lt_of ln hl
            refine ⟨_, _, _, rfl, ?_⟩
            simp only [List.all_cons, List.all_nil, Bool.and_true, Bool.and_eq_true] at ap
            obtain ⟨om2, t2, x2, R2⟩ := R'.store ln' (by rw [← ln']; exact hi') r1 e2
            have ap2 : apart σ.length i h2 = true := by rw [ln']; exact ap.2.1
            have ap3 : apart σ.length i h3 = true := by rw [ln']; exact ap.2.2
            have ln2 : ∀ w : V, (σ.set i (some w)).length = σ.length := fun w => List.length_set
            obtain ⟨om3, t3, x3, R3⟩ := R2.store (n := n) (by rw [List.length_set]; exact ln') (by rw [← ln']; exact hj') (r2.stored (ρ := ρ) (ρ1 := ρ) hi' ap2 t2 x2) e3
            obtain ⟨om4, t4, x4, R4⟩ := R3.store (n := n) (by rw [List.length_set, List.length_set]; exact ln') (by rw [← ln']; exact hl') ((r3.stored (ρ := ρ) (ρ1 := ρ) hi' ap3 t2 x2).stored (ρ := ρ) (ρ1 := ρ) (by rw [List.length_set]; exact hj') (by rw [List.length_set]; rw [ln']; exact ap.2.2) t3 x3) e4
            obtain ⟨R5, x5⟩ := R4.cut (n := n) (by rw [List.length_set, List.length_set, List.length_set]; exact ln')
            exact k _ H' _ (s.less t rfl fun a z => x2 a (x3 a (x4 a (x5 a z)))) R5 rfl
    · cases q
  · cases q
/-- return e -/
def sRet (fe : FE) : FS := fun ρ => (fz fe ρ).map fun p => .ret p.1 p.2
theorem es_ret (h : EV X B e fe) : ES X B (.Return (some e) pos) (sRet fe) := fun ρ r q => by
  unfold sRet at q
  obtain ⟨⟨d, ρ1⟩, e1, q⟩ := Option.map_eq_some_iff.mp q
  cases q
  exact ps_imp (ps_ret (h.fz e1)) fun D σ H ⟨om, R, t, k⟩ => ⟨om, R, fun v H' om' s R' r => k v σ H' om' s R' r⟩
def sRetN : FS := fun ρ => some (.ret .none ρ)
theorem es_retN : ES X B (.Return none pos) sRetN := fun ρ r q => by
  cases q
  exact ps_imp ps_retN fun D σ H ⟨om, R, t, k⟩ => k .non σ H om .refl R .non
/-- if -/
def sIf (n : Nat) (gc : FT) (f g : FS) : FS := fun ρ => (gc ρ).bind fun p => if p.1 = true then f (p.2.take n) else g (p.2.take n)
theorem es_if {c : Expr} {a b : List Stmt} {gc : FT} (hn : X.N.length = n) (hc : ET X B c gc) (ha : ESs X B a f) (hb : ESs X B b g) : ES X B (.If c a b pos) (sIf n gc f g) := fun ρ r q => by
  unfold sIf at q
  obtain ⟨⟨c1, ρ1⟩, e1, q⟩ := Option.bind_eq_some_iff.mp q
  cases c1 with
  | true =>
    rw [if_pos rfl] at q
    refine ps_impL (ps_if (u := tNever) (hc _ _ _ e1) (ha _ _ q) pss_never) fun D σ H ln ⟨om, R, t, k⟩ => ⟨om, R, fun H' om' s R' => ?_⟩
    obtain ⟨R2, x⟩ := R'.cut (ln.trans hn)
    rw [if_pos rfl]
    exact tSt.at (X := X) t k (s.less t rfl x) R2 rfl
  | false =>
    rw [if_neg Bool.false_ne_true] at q
    refine ps_impL (ps_if (t := tNever) (hc _ _ _ e1) pss_never (hb _ _ q)) fun D σ H ln ⟨om, R, t, k⟩ => ⟨om, R, fun H' om' s R' => ?_⟩
    obtain ⟨R2, x⟩ := R'.cut (ln.trans hn)
    rw [if_neg Bool.false_ne_true]
    exact tSt.at (X := X) t k (s.less t rfl x) R2 rfl
end
end Ev

set_option maxRecDepth 100000
set_option maxHeartbeats 4000000
namespace Ev
open PySem PySem.Spec PyProof.Rows L2

/-! ### targets -/
abbrev FG := D → Er → Option Er
def tG (X : Cx) (B : Bx) (d : D) (ρ ρ' : Er) (ts : List Nat) : TG := fun v σ H Q => ∃ om, Rel X.K B ρ om σ H ∧ Rep X.K H (Exs B om) d v ∧
  ∀ σ' om', om'.τ = om.τ → (∀ a, Exs B om' a → Exs B om a) → σ'.length = σ.length → (∀ i, i ∉ ts → σ'[i]? = σ[i]?) → Rel X.K B ρ' om' σ' H → Q σ' H
structure EG (X : Cx) (B : Bx) (tg : Expr) (f : FG) (ts : List Nat) : Prop where
  pg : ∀ d ρ ρ', f d ρ = some ρ' → PG X tg (tG X B d ρ ρ' ts)
theorem pg_impL {X : Cx} {e : Expr} {t t' : TG} (h : PG X e t) (i : ∀ v σ H Q, σ.length = X.N.length → t' v σ H Q → t v σ H Q) : PG X e t' := ⟨fun pins s σ H v u Q I r q => h.run pins s σ H v u Q I r (i v σ H Q I.len q)⟩
theorem pgs_impL {X : Cx} {e : List Expr} {t t' : TGs} (h : PGs X e t) (i : ∀ v σ H Q, σ.length = X.N.length → t' v σ H Q → t v σ H Q) : PGs X e t' := ⟨fun pins s σ H v u Q I r q => h.run pins s σ H v u Q I r (i v σ H Q I.len q)⟩
def gN (i : Nat) : FG := fun d ρ => stV i d ρ
abbrev FGs := List D → Er → Option Er
def gsNil : FGs := fun ds ρ => match ds with
  | [] => some ρ
  | _ => none
def gsCons (f : FG) (g : FGs) : FGs := fun ds ρ => match ds with
  | d :: r => (f d ρ).bind fun ρ1 => g r ρ1
  | [] => none
def gT (g : FGs) (n : Nat) : FG := fun d ρ => match d with
  | .tuple ds => if ds.length = n then g ds ρ else none
  | _ => none
def tGs (X : Cx) (B : Bx) (ds : List D) (ρ ρ' : Er) (ts : List Nat) : TGs := fun vs σ H Q => ∃ om, Rel X.K B ρ om σ H ∧ Reps X.K H (Exs B om) ds vs ∧
  ∀ σ' om', om'.τ = om.τ → (∀ a, Exs B om' a → Exs B om a) → σ'.length = σ.length → (∀ i, i ∉ ts → σ'[i]? = σ[i]?) → Rel X.K B ρ' om' σ' H → Q σ' H
structure EGs (X : Cx) (B : Bx) (tg : List Expr) (f : FGs) (ts : List Nat) : Prop where
  pg : ∀ d ρ ρ', f d ρ = some ρ' → PGs X tg (tGs X B d ρ ρ' ts)
theorem Reps.less {K : PySem.W.Frag} {H : Hp} {Ex Ex' : Addr → Prop} {d : List D} {v : List V} (x : ∀ a, Ex' a → Ex a) (r : Reps K H Ex d v) : Reps K H Ex' d v := Reps.mono .refl (fun a z => .inl (x a z)) _ _ r
section
variable {X : Cx} {B : Bx} {pos : Pos} {n : Nat}
theorem eg_name {i : Nat} {x : Str} (hN : X.N.Nodup) (hi : X.N[i]? = some x) (hx : Loc X.env.scope x) (hf : X.fn x = true ∨ X.env.scope.names.lookup x = some .local) : EG X B (.Name x pos) (gN i) [i] := ⟨fun d ρ ρ' q => by
  refine pg_impL (pg_name hN hi hx hf) fun v σ H Q ln ⟨om, R, r, k⟩ => ?_
  show Q (σ.set i (some v)) H
  exact k _ (drp om i) rfl (fun a z => drp_sub.ex a z) List.length_set (fun j hj => List.getElem?_set_ne (fun e => hj (by rw [← e]; exact List.mem_singleton.mpr rfl))) (R.storeV (lt_of ln hi) r q)⟩
theorem egs_nil : EGs X B [] gsNil [] := ⟨fun d ρ ρ' q => by
  cases d with
  | nil =>
    cases q
    refine pgs_impL pgs_nil fun v σ H Q ln ⟨om, R, r, k⟩ => ?_
    cases r
    exact ⟨rfl, k σ om rfl (fun _ z => z) rfl (fun _ _ => rfl) R⟩
  | cons _ _ => cases q⟩
theorem egs_cons {e : Expr} {es : List Expr} {f : FG} {g : FGs} {t1 t2 : List Nat} (h : EG X B e f t1) (h2 : EGs X B es g t2) (hs : (assignEach (e :: es) X.env).map (·.2) = assign e X.env :: (assignEach es X.env).map (·.2)) :
    EGs X B (e :: es) (gsCons f g) (t1 ++ t2) := ⟨fun d ρ ρ' q => by
  cases d with
  | nil => cases q
  | cons d r =>
    obtain ⟨ρ1, e1, q⟩ := Option.bind_eq_some_iff.mp q
    refine pgs_impL (pgs_cons (h.pg _ _ _ e1) (h2.pg _ _ _ q) hs) fun v σ H Q ln ⟨om, R, rr, k⟩ => ?_
    cases rr with
    | cons r1 r2 =>
      exact ⟨_, _, rfl, om, R, r1, fun σ' om' t x l u R' => ⟨om', R', r2.less x, fun σ2 om2 t2 x2 l2 u2 R2 => k σ2 om2 (t2.trans t) (fun a z => x a (x2 a z)) (l2.trans l) (fun i hi => by
        rw [List.mem_append, not_or] at hi
        exact (u2 i hi.2).trans (u i hi.1)) R2⟩⟩⟩
theorem eg_tup {es : List Expr} {k : Nat} {g : FGs} {ts : List Nat} (hc : X.calm = true) (h : EGs X B es g ts) (hn : (assignEach es X.env).length = n) (hst : (assignEach es X.env).findIdx? (·.1) = none) : EG X B (.Tuple es k pos) (gT g n) ts := ⟨fun d ρ ρ' q => by
  unfold gT at q
  split at q
  · rename_i ds
    split at q
    · rename_i hl
      refine pg_impL (pg_tup hc (h.pg _ _ _ q) hn hst) fun v σ H Q ln ⟨om, R, r, kk⟩ => ?_
      cases r with
      | tup h1 n1 h2 => exact ⟨_, _, rfl, .of h1, by rw [← h2.length]; exact hl, om, R, h2, kk⟩
    · cases q
  · cases q⟩
/-- targets = e -/
def sAsg (n : Nat) (fe : FE) (g : FG) : FS := fun ρ => (fz fe ρ).bind fun p => (g p.1 p.2).map fun ρ' => .nx (ρ'.take n)
theorem es_asg {tg e : Expr} {fe : FE} {g : FG} {ts : List Nat} (hn : X.N.length = n) (he : EV X B e fe) (hg : EG X B tg g ts) (hs : swapsWithSole [tg] e pos.line X.env = pure false) (hw : swappedStores [tg] e X.env = pure none)
    (h1 : (assignEach [tg] X.env).map (·.2) = [assign tg X.env]) : ES X B (.Assign [tg] e pos) (sAsg n fe g) := fun ρ r q => by
  unfold sAsg at q
  obtain ⟨⟨d, ρ1⟩, e1, q⟩ := Option.bind_eq_some_iff.mp q
  obtain ⟨ρ2, e2, q⟩ := Option.map_eq_some_iff.mp q
  cases q
  refine ps_impL (ps_asg (he.fz e1) (hg.pg _ _ _ e2) hs hw h1) fun D σ H ln ⟨om, R, t, k⟩ => ⟨om, R, fun v H' om' s R' r => ⟨om', R', r, fun σ' om2 t2 x2 l2 _ R2 => ?_⟩⟩
  obtain ⟨R3, x3⟩ := R2.cut (n := n) (l2.trans (ln.trans hn))
  exact k _ H' _ (s.less t rfl fun a z => x2 a (x3 a z)) R3 rfl
end

/-! ### what is walked -/
/-- a step, whatever lies behind the slots -/
structure Ste (B : Bx) (om : Om) (H : Hp) (om' : Om) (H' : Hp) : Prop where
  keep : Keep (Exs B om) H H'
  grow : ∀ a, Exs B om' a → Exs B om a ∨ H a = none
theorem Stp.ste {B : Bx} {om om' : Om} {H H' : Hp} (s : Stp B om H om' H') : Ste B om H om' H' := ⟨s.keep, s.grow⟩
theorem Ste.trans {B : Bx} {om om1 om2 : Om} {H H1 H2 : Hp} (a : Ste B om H om1 H1) (b : Ste B om1 H1 om2 H2) : Ste B om H om2 H2 := by
  refine ⟨fun x o n e => b.keep x o (fun z => (a.grow x z).elim n (by rw [e]; exact fun z => nomatch z)) (a.keep x o n e), fun x z => ?_⟩
  rcases b.grow x z with q | q
  · exact a.grow x q
  · by_cases hx : Exs B om x
    · exact .inl hx
    · refine .inr ?_
      cases e : H x with
      | none => rfl
      | some o => rw [a.keep x o hx e] at q; cases q
theorem Ste.sub {B : Bx} {om om' : Om} {H : Hp} (x : ∀ a, Exs B om' a → Exs B om a) : Ste B om H om' H := ⟨.refl, fun a z => .inl (x a z)⟩
theorem Ste.same {B : Bx} {om : Om} {H H' : Hp} (s : ∀ a o, H a = some o → H' a = some o) : Ste B om H om H' := ⟨.of s, fun _ z => .inl z⟩
theorem Ste.stp {B : Bx} {om om' : Om} {H H' : Hp} (s : Ste B om H om' H') (h0 : om.τ = []) (h : om'.τ = []) : Stp B om H om' H' := ⟨s.keep, s.grow, [], by rw [h0, h]; rfl⟩
theorem Rep.ste {K : PySem.W.Frag} {B : Bx} {om om' : Om} {H H' : Hp} {d : D} {v : V} (s : Ste B om H om' H') (r : Rep K H (Exs B om) d v) : Rep K H' (Exs B om') d v := Rep.mono s.keep s.grow _ _ r
structure ItOk (K : PySem.W.Frag) (B : Bx) (J : It) (items : List D) (om1 : Om) (H1 : Hp) : Prop where
  go : ∀ (i : Nat) (d : D) om H, Fresh (Exs B om) H → Ste B om1 H1 om H → items[i]? = some d → J.go i H ∧ ∀ x H', J.yld i H x H' → (∀ a o, H a = some o → H' a = some o) ∧ Rep K H' (Exs B om) d x
  stop : ∀ om H, Ste B om1 H1 om H → J.stop items.length H
abbrev FI := Er → Option (List D × Er)
def tIt (X : Cx) (B : Bx) (ρ : Er) (items : List D) (ρ' : Er) : TI := fun σ H R => ∃ om, Rel X.K B ρ om σ H ∧ ∀ J H' om', Stp B om H om' H' → Rel X.K B ρ' om' σ H' → ItOk X.K B J items om' H' → R J H'
def EI (X : Cx) (B : Bx) (tg e : Expr) (f : FI) : Prop := ∀ ρ items ρ', f ρ = some (items, ρ') → PI X tg e (tIt X B ρ items ρ')
theorem pi_imp {X : Cx} {tg e : Expr} {t t' : TI} (h : PI X tg e t) (i : ∀ σ H R, t' σ H R → t σ H R) : PI X tg e t' := ⟨fun pins s σ H Q I q => h.run pins s σ H Q I (i σ H Q q)⟩
section
variable {X : Cx} {B : Bx} {pos : Pos} {n : Nat} {tg e : Expr} {fe : FE}
theorem pi_or {tl : TE} (he : PE X e tl) : PI X tg e (fun σ H R => tl σ H fun x H1 => ∃ a, x = .ref a ∧ (((∃ xs, SqL X.K H1 a xs) ∧ R (Itl X.K a) H1) ∨ ((∃ xs, SqT X.K H1 a xs) ∧ R (Itt X.K a) H1))) := by
  refine ⟨fun pins s σ H R I h => ?_⟩
  refine thn (he.run pins s σ H _ I h) fun v s1 ⟨x, H1, I1, r1, q1⟩ => ?_
  obtain ⟨a, e, q⟩ := q1
  subst e
  cases r1
  rcases q with ⟨⟨xs, hq⟩, q⟩ | ⟨⟨xs, hq⟩, q⟩
  · obtain ⟨its, rv, p, hz⟩ := I1.list hq
    refine wpAny_pyIter_list p.isList ?_
    refine ⟨s1.heap.objs.size, [s1.heap.objs.size], _, _, H1, rfl, I1.kept (t' := s1.toks) fun b o e => Heap.get?_push_of_some _ e, turn_list a _, ⟨_, Heap.get?_push_size _ rfl, rfl, rfl⟩, fun b hb => ?_, q⟩
    have e : b = s1.heap.objs.size := by simpa using hb
    subst e
    exact I1.fpOk (Nat.le_refl _) (I1.hok.fresh (Nat.le_refl _))
  · obtain ⟨its, rv, p, hz⟩ := I1.tuple hq
    refine wpAny_pyIter_tuple (show s1.heap.IsTuple a its.toArray from p) ?_
    refine ⟨s1.heap.objs.size, [s1.heap.objs.size], _, _, H1, rfl, I1.kept (t' := s1.toks) fun b o e => Heap.get?_push_of_some _ e, turn_tuple a _, ⟨_, Heap.get?_push_size _ rfl, rfl, rfl⟩, fun b hb => ?_, q⟩
    have e : b = s1.heap.objs.size := by simpa using hb
    subst e
    exact I1.fpOk (Nat.le_refl _) (I1.hok.fresh (Nat.le_refl _))
def itemsOf : D → Option (List D)
  | .list ds => some ds
  | .tuple ds => some ds
  | _ => none
def iSeq (fe : FE) : FI := fun ρ => (fz fe ρ).bind fun p => (itemsOf p.1).map fun ds => (ds, p.2)
theorem ei_seq (he : EV X B e fe) : EI X B tg e (iSeq fe) := fun ρ items ρ' q => by
  unfold iSeq at q
  obtain ⟨⟨d, ρ1⟩, e1, q⟩ := Option.bind_eq_some_iff.mp q
  obtain ⟨ds, e2, q⟩ := Option.map_eq_some_iff.mp q
  cases q
  refine pi_imp (pi_or (he.fz e1)) fun σ H R ⟨om, R0, k⟩ => ⟨om, R0, fun v H' om' s R' r => ?_⟩
  cases d with
  | list ds =>
    cases e2
    cases id r with
    | @lst a xs _ h1 h2 =>
      refine ⟨a, rfl, .inl ⟨⟨_, rep_lstSq h1⟩, k _ H' om' s R' ⟨fun i d om2 H2 _ s2 ei => ?_, fun om2 H2 s2 => ?_⟩⟩⟩
      · cases Rep.ste s2 r with
        | lst g1 g2 =>
          obtain ⟨v, ev, rv⟩ := g2.get ei
          exact ⟨⟨_, v, rep_lstSq g1, ev⟩, fun x H3 y => by
            obtain ⟨y1, y2⟩ := y
            subst y1
            have := y2 _ (rep_lstSq g1)
            rw [ev] at this; cases this
            exact ⟨fun _ _ z => z, rv⟩⟩
      · cases Rep.ste s2 r with
        | lst g1 g2 => exact ⟨_, rep_lstSq g1, by rw [← g2.length]; exact Nat.le_refl _⟩
  | tuple ds =>
    cases e2
    cases id r with
    | @tup a xs _ h1 n1 h2 =>
      refine ⟨a, rfl, .inr ⟨⟨_, .of h1⟩, k _ H' om' s R' ⟨fun i d om2 H2 _ s2 ei => ?_, fun om2 H2 s2 => ?_⟩⟩⟩
      · cases Rep.ste s2 r with
        | tup g1 n1 g2 =>
          obtain ⟨v, ev, rv⟩ := g2.get ei
          exact ⟨⟨_, v, .of g1, ev⟩, fun x H3 y => by
            obtain ⟨y1, y2⟩ := y
            subst y1
            have := y2 _ (.of g1)
            rw [ev] at this; cases this
            exact ⟨fun _ _ z => z, rv⟩⟩
      · cases Rep.ste s2 r with
        | tup g1 n1 g2 => exact ⟨_, .of g1, by rw [← g2.length]; exact Nat.le_refl _⟩
  | _ => cases e2
/-- ranges -/
def rngD (lo : Int) (n : Nat) : List D := (List.range n).map fun (j : Nat) => .int (lo + (j : Int))
theorem rngD_get {lo : Int} {n i : Nat} {d : D} (h : (rngD lo n)[i]? = some d) : i < n ∧ d = .int (lo + (i : Int)) := by
  unfold rngD at h
  rw [List.getElem?_map] at h
  obtain ⟨j, e1, e2⟩ := Option.map_eq_some_iff.mp h
  obtain ⟨h1, h2⟩ := List.getElem?_eq_some_iff.mp e1
  rw [List.length_range] at h1
  rw [List.getElem_range] at h2
  subst h2
  exact ⟨h1, e2.symm⟩
theorem itr_ok {K : PySem.W.Frag} {lo : Int} {m : Nat} {om : Om} {H : Hp} : ItOk K B (Itr lo m) (rngD lo m) om H := ⟨fun i d om2 H2 _ s2 ei => by
  obtain ⟨h1, h2⟩ := rngD_get ei
  subst h2
  exact ⟨h1, fun x H3 y => by
    obtain ⟨y1, y2⟩ := y
    subst y1 y2
    exact ⟨fun _ _ z => z, .int _⟩⟩, fun om2 H2 s2 => by
  show m ≤ (rngD lo m).length
  unfold rngD
  rw [List.length_map, List.length_range]
  exact Nat.le_refl _⟩
def bnd (i : Int) : Bool := decide (-(2 ^ 62) ≤ i) && decide (i < 2 ^ 62)
def iRg1 (fs : FA) : FI := fun ρ => (fs ρ).bind fun p => (plain p.1).bind fun ds => match ds with
  | [.int j] => if bnd j then some (rngD 0 j.toNat, p.2) else none
  | _ => none
def iRg2 (fs : FA) : FI := fun ρ => (fs ρ).bind fun p => (plain p.1).bind fun ds => match ds with
  | [.int i, .int j] => if bnd i && bnd j then some (rngD i (j - i).toNat, p.2) else none
  | _ => none
theorem ei_range1 {a : Expr} {fs : FA} {p : Pos} (hg : Gl X "range") (hm : X.mg "range" = none) (ha : EA X B [a] fs) (hs : starEach [a] X.env = [(false, eval a X.env)]) : EI X B tg (.Call (.Name "range" p) [a] [] pos) (iRg1 fs) := fun ρ items ρ' q => by
  unfold iRg1 at q
  obtain ⟨⟨hs', ρ1⟩, e1, q⟩ := Option.bind_eq_some_iff.mp q
  obtain ⟨ds, e2, q⟩ := Option.bind_eq_some_iff.mp q
  split at q
  · split at q
    · rename_i j hj
      cases q
      refine pi_imp (pi_range1 hg hm (ha _ _ _ e1) hs) fun σ H R ⟨om, R0, k⟩ => ⟨om, R0, fun vs H' om' s R' r => ?_⟩
      have rr := r.plain e2
      cases rr with
      | cons r1 r2 =>
        cases r1
        cases r2
        unfold bnd at hj
        simp only [Bool.and_eq_true, decide_eq_true_eq] at hj
        exact ⟨j, rfl, hj.1, hj.2, k _ H' om' s R' itr_ok⟩
    · cases q
  · cases q
theorem ei_range2 {a b : Expr} {fs : FA} {p : Pos} (hg : Gl X "range") (hm : X.mg "range" = none) (ha : EA X B [a, b] fs) (hs : starEach [a, b] X.env = [(false, eval a X.env), (false, eval b X.env)]) (hs2 : starEach [b] X.env = [(false, eval b X.env)]) :
    EI X B tg (.Call (.Name "range" p) [a, b] [] pos) (iRg2 fs) := fun ρ items ρ' q => by
  unfold iRg2 at q
  obtain ⟨⟨hs', ρ1⟩, e1, q⟩ := Option.bind_eq_some_iff.mp q
  obtain ⟨ds, e2, q⟩ := Option.bind_eq_some_iff.mp q
  split at q
  · split at q
    · rename_i i j hj
      cases q
      refine pi_imp (pi_range2 hg hm (ha _ _ _ e1) hs hs2) fun σ H R ⟨om, R0, k⟩ => ⟨om, R0, fun vs H' om' s R' r => ?_⟩
      have rr := r.plain e2
      cases rr with
      | cons r1 r2 =>
        cases r1
        cases r2 with
        | cons r3 r4 =>
          cases r3
          cases r4
          unfold bnd at hj
          simp only [Bool.and_eq_true, decide_eq_true_eq] at hj
          exact ⟨i, j, rfl, ⟨hj.1.1, hj.1.2, hj.2.1, hj.2.2⟩, k _ H' om' s R' itr_ok⟩
    · cases q
  · cases q

/-! ### for, while -/
theorem pss_len {st : List Stmt} {t : TS} (h : PSs X st t) : PSs X st (fun D σ H => t { nx := fun σ' H' => σ'.length = X.N.length → D.nx σ' H', rt := D.rt, bk := fun σ' H' => σ'.length = X.N.length → D.bk σ' H', ct := fun σ' H' => σ'.length = X.N.length → D.ct σ' H' } σ H) := ⟨fun pins s σ H D I q => by
  refine thn (h.run pins s σ H _ I q) fun fl s' z => ?_
  cases fl with
  | next => obtain ⟨σ', H', J, q⟩ := z; exact ⟨σ', H', J, q J.len⟩
  | brk => obtain ⟨σ', H', J, q⟩ := z; exact ⟨σ', H', J, q J.len⟩
  | cont => obtain ⟨σ', H', J, q⟩ := z; exact ⟨σ', H', J, q J.len⟩
  | ret u => exact z⟩
def runL (n : Nat) (g : FG) (f : FS) : List D → Er → Option Rs
  | [], ρ => some (.nx ρ)
  | d :: r, ρ => (g d ρ).bind fun ρ1 => (f (ρ1.take n)).bind fun x => match x with
    | .nx ρ2 => runL n g f r ρ2
    | .ct ρ2 => runL n g f r ρ2
    | .bk ρ2 => some (.nx ρ2)
    | .ret d ρ2 => some (.ret d ρ2)
def sFor (n : Nat) (fi : FI) (g : FG) (f : FS) : FS := fun ρ => (fi ρ).bind fun p => runL n g f p.1 (p.2.take n)
theorem es_for {iter : Expr} {body : List Stmt} {fi : FI} {g : FG} {ts : List Nat} {f : FS} (hn : X.N.length = n) (hp : PassesOwn (model X.prog X.w) X.A X.env X.xe) (hc : X.calm = true) (hi : EI X B tg iter fi) (hg : EG X B tg g ts) (hb : ESs X B body f)
    (hs : ∀ x, foldedSetIterable iter X.env x = pure x) : ES X B (.For tg iter body [] pos) (sFor n fi g f) := fun ρ r q => by
  unfold sFor at q
  obtain ⟨⟨items, ρ1⟩, e1, q⟩ := Option.bind_eq_some_iff.mp q
  have q : runL n g f items (ρ1.take n) = some r := q
  -- the body's readings, for whatever state a turn starts in
  refine ⟨fun pins s σ H D I h => ?_⟩
  have ln := I.len.trans hn
  have gall : PG X tg (fun v σ H Q => ∃ d ρ ρ', g d ρ = some ρ' ∧ tG X B d ρ ρ' ts v σ H Q) := ⟨fun pins s σ H v u Q I r ⟨d, ρ, ρ', e, z⟩ => (hg.pg d ρ ρ' e).run pins s σ H v u Q I r z⟩
  have ball : PSs X body (fun D σ H => ∃ ρ r, f ρ = some r ∧ tSt X B ρ r D σ H) := ⟨fun pins s σ H D I ⟨ρ, r, e, z⟩ => (hb ρ r e).run pins s σ H D I z⟩
  refine (ps_for hp hc (hi _ _ _ e1) gall (pss_len ball) hs).run pins s σ H D I ?_
  obtain ⟨om, R, t, k⟩ := h
  refine ⟨om, R, fun J H1 om1 s1 R1 ok => ?_⟩
  obtain ⟨R2, x2⟩ := R1.cut ln
  refine ⟨fun i m σ' H' => m = items.length - i ∧ i ≤ items.length ∧ ∃ ρi omi, σ'.length = n ∧ Rel X.K B ρi omi σ' H' ∧ omi.τ = [] ∧ Ste B om1 H1 omi H' ∧ runL n g f (items.drop i) ρi = some r, ⟨items.length, by simp, Nat.zero_le _, _, _, ln, R2, rfl, .sub x2, by simpa using q⟩, ?_⟩
  rintro i m σ' H' ⟨rfl, hi, ρi, omi, lni, Ri, ti, si, qi⟩
  by_cases hlt : i < items.length
  · refine .inr ?_
    rw [List.drop_eq_getElem_cons hlt] at qi
    obtain ⟨ρ3, g1, qi⟩ := Option.bind_eq_some_iff.mp qi
    obtain ⟨x, g2, qi⟩ := Option.bind_eq_some_iff.mp qi
    obtain ⟨jg, jy⟩ := ok.go i items[i] omi H' Ri.exd si (List.getElem?_eq_getElem hlt)
    refine ⟨jg, fun σ5 H5 => ∃ ρ5 om5, σ5.length = n ∧ Rel X.K B ρ5 om5 σ5 H5 ∧ om5.τ = [] ∧ Ste B om1 H1 om5 H5 ∧ runL n g f (items.drop (i + 1)) ρ5 = some r, fun σ5 H5 ⟨ρ5, om5, z1, z2, z3, z4, z5⟩ => ⟨_, by omega, rfl, hlt, ρ5, om5, z1, z2, z3, z4, z5⟩, fun v H3 y => ?_⟩
    obtain ⟨sm, rv⟩ := jy v H3 y
    refine ⟨_, _, _, g1, omi, Ri.same sm, rv, fun σ4 om4 t4 x4 l4 _ R4 => ?_⟩
    obtain ⟨R5, x5⟩ := R4.cut (l4.trans lni)
    have s5 : Ste B om1 H1 (cutO om4 n) H3 := (si.trans (.same sm)).trans (.sub fun a z => x4 a (x5 a z))
    have sF : ∀ {σ6 : L2.St} {H6 : Hp} {om6 : Om}, Stp B (cutO om4 n) H3 om6 H6 → om6.τ = [] → Stp B om H om6 H6 := fun s6 t6 => ((s1.ste.trans s5).trans s6.ste).stp t t6
    refine ⟨_, _, g2, _, R5, rfl, ?_⟩
    cases x with
    | nx ρ6 => exact fun σ6 H6 om6 s6 R6 t6 l6 => ⟨ρ6, om6, l6.trans hn, R6, t6, s5.trans s6.ste, qi⟩
    | ct ρ6 => exact fun σ6 H6 om6 s6 R6 t6 l6 => ⟨ρ6, om6, l6.trans hn, R6, t6, s5.trans s6.ste, qi⟩
    | bk ρ6 =>
      cases qi
      exact fun σ6 H6 om6 s6 R6 t6 _ => k σ6 H6 om6 (sF (σ6 := σ6) s6 t6) R6 t6
    | ret d ρ6 =>
      cases qi
      exact fun v σ6 H6 om6 s6 R6 r6 => k v σ6 H6 om6 ⟨((s1.ste.trans s5).trans s6.ste).keep, ((s1.ste.trans s5).trans s6.ste).grow, om6.τ, by rw [t]; rfl⟩ R6 r6
  · have e : i = items.length := by omega
    subst e
    rw [List.drop_length] at qi
    cases qi
    exact .inl ⟨ok.stop omi H' si, k _ _ omi ((s1.ste.trans si).stp t ti) Ri ti⟩
end
end Ev

set_option maxRecDepth 100000
set_option maxHeartbeats 4000000
namespace Ev
open PySem PySem.Spec PyProof.Rows L2

/-! ### what is owned changes -/
def getO (i : Nat) (ρ : Er) : Option D := match ρ[i]? with
  | some (.own d) => some d
  | some (.io d) => some d
  | _ => none
def setO (i : Nat) (d : D) (ρ : Er) : Option Er := match ρ[i]? with
  | some (.own _) => some (ρ.set i (.own d))
  | some (.io _) => some (ρ.set i (.io d))
  | _ => none
theorem kup {B : Bx} {om : Om} {H : Hp} {i : Nat} {a : Addr} {o : HO} (ha : om i = some a) : Keep (Exs B om) H (upd H a o) := fun b u n e => by
  by_cases h : b = a
  · exact absurd (.inr ⟨i, by rw [h]; exact ha⟩) n
  · rw [upd_ne h]; exact e
section
variable {K : PySem.W.Frag} {B : Bx} {ρ ρ' : Er} {om : Om} {σ : L2.St} {H : Hp} {i : Nat} {a : Addr} {o : HO} {d d0 : D} {v : V}
/-- the object of a handle -/
theorem Rel.getO (R : Rel K B ρ om σ H) (r : HRep K B om σ H (.l i) v) (e : Ev.getO i ρ = some d) : ∃ a, v = .ref a ∧ om i = some a ∧ RepO K H (Exs B om) d a := by
  have r : (σ ++ om.τ)[i]? = some (some v) := r
  unfold Ev.getO at e
  split at e
  · rename_i d' e'
    cases e
    obtain ⟨a, e0, es, o, _⟩ := R.own i _ e'
    rw [r] at es; cases es
    exact ⟨a, rfl, e0, o⟩
  · rename_i d' e'
    cases e
    obtain ⟨a, e0, es, o, _⟩ := R.io i _ e'
    rw [r] at es; cases es
    exact ⟨a, rfl, e0, o⟩
  · cases e
theorem Rel.setO (R : Rel K B ρ om σ H) (ha : om i = some a) (e : Ev.setO i d ρ = some ρ') (old : RepO K H (Exs B om) d0 a) (rp : RepO K (upd H a o) (Exs B om) d a) : Rel K B ρ' om σ (upd H a o) ∧ Stp B om H om (upd H a o) := by
  obtain ⟨o0, eo, mu, ntb, ntp⟩ := old.some
  have ho : ∀ xs, o ≠ .tup xs := by
    obtain ⟨o1, e1, _, _, n1⟩ := rp.some
    rw [upd_same] at e1; cases e1
    exact n1
  have nT : a ∉ B.T := fun z => by
    obtain ⟨ps, e2, _⟩ := R.tabs a z
    rw [eo] at e2; cases e2
    exact ntb ps rfl
  have k := kup (B := B) (H := H) (o := o) ha
  have oth : ∀ {j : Nat} {b : Addr} {d : D}, j ≠ i → om j = some b → RepO K H (Exs B om) d b → RepO K (upd H a o) (Exs B om) d b := fun {j b d} hj e r =>
    r.mono k (fun _ z => .inl z) (upd_ne (fun z => hj (R.inj j i a (by rw [← z]; exact e) ha)))
  have ge : ∀ {x : Sl}, ρ' = ρ.set i x → ρ'.length = ρ.length := fun e => by rw [e, List.length_set]
  unfold Ev.setO at e
  split at e
  · rename_i d1 e'
    cases e
    refine R.change (List.length_set) (fun j d2 e2 => ?_) (fun j d2 e2 => ?_) (fun j d2 e2 => ?_) (fun b u e2 n _ => ?_) (fun j b e2 => ?_) (fun b hn => ?_) (fun P hP => ?_)
    · rcases set_get e2 with ⟨_, q⟩ | ⟨_, q⟩
      · cases q
      · exact q
    · rcases set_get e2 with ⟨rfl, q⟩ | ⟨hj, q⟩
      · cases q
        exact ⟨d1, e', fun b eb _ => by rw [ha] at eb; cases eb; exact rp⟩
      · exact ⟨d2, q, fun b eb r => oth hj eb r⟩
    · rcases set_get e2 with ⟨_, q⟩ | ⟨hj, q⟩
      · cases q
      · exact ⟨d2, q, fun b eb r => oth hj eb r⟩
    · rw [upd_ne (fun z => n i (by rw [z]; exact ha))]; exact e2
    · by_cases h : b = a
      · subst h; exact ⟨o, upd_same, ho⟩
      · rw [upd_ne h]; exact R.exd b (.inr ⟨j, e2⟩)
    · by_cases h : b = a
      · subst h; rw [upd_same]; exact fun z => nomatch z
      · rw [upd_ne h]; exact hn
    · obtain ⟨ps, e2, t⟩ := R.tabs P hP
      exact ⟨ps, by rw [upd_ne (fun z => nT (by rw [← z]; exact hP))]; exact e2, t⟩
  · rename_i d1 e'
    cases e
    refine R.change (List.length_set) (fun j d2 e2 => ?_) (fun j d2 e2 => ?_) (fun j d2 e2 => ?_) (fun b u e2 n _ => ?_) (fun j b e2 => ?_) (fun b hn => ?_) (fun P hP => ?_)
    · rcases set_get e2 with ⟨_, q⟩ | ⟨_, q⟩
      · cases q
      · exact q
    · rcases set_get e2 with ⟨_, q⟩ | ⟨hj, q⟩
      · cases q
      · exact ⟨d2, q, fun b eb r => oth hj eb r⟩
    · rcases set_get e2 with ⟨rfl, q⟩ | ⟨hj, q⟩
      · cases q
        exact ⟨d1, e', fun b eb _ => by rw [ha] at eb; cases eb; exact rp⟩
      · exact ⟨d2, q, fun b eb r => oth hj eb r⟩
    · rw [upd_ne (fun z => n i (by rw [z]; exact ha))]; exact e2
    · by_cases h : b = a
      · subst h; exact ⟨o, upd_same, ho⟩
      · rw [upd_ne h]; exact R.exd b (.inr ⟨j, e2⟩)
    · by_cases h : b = a
      · subst h; rw [upd_same]; exact fun z => nomatch z
      · rw [upd_ne h]; exact hn
    · obtain ⟨ps, e2, t⟩ := R.tabs P hP
      exact ⟨ps, by rw [upd_ne (fun z => nT (by rw [← z]; exact hP))]; exact e2, t⟩
  · cases e
theorem rc_put {H : Hp} {Ex : Addr → Prop} {p : Addr} (k : Keep Ex H (upd H p o)) (h : RepC K H Ex d o) : RepO K (upd H p o) Ex d p := by
  have x : ∀ a, Ex a → Ex a ∨ H a = none := fun _ z => .inl z
  cases h with
  | lst r => exact .lst upd_same (Reps.mono k x _ _ r)
  | dk r => exact .dk upd_same (RepK.mono k x _ _ r)
  | dt r => exact .dt upd_same (RepT.mono k x _ _ r)
end

/-! ### append, pop -/
def isL : Option D → Bool
  | some (.list _) => true
  | _ => false
/-- o.m(e) that changes o: the list, the item made plain -/
def fMut (fo fa : FE) (sem : List D → D → Option (D × List D)) : FE := fun ρ => (fo ρ).bind fun p => match p.1 with
  | .l i => if isL (getO i p.2) then (fz fa p.2).bind fun q => (getO i q.2).bind fun d => match d with
    | .list ds => (sem ds q.1).bind fun r => (setO i (.list r.2) q.2).map fun ρ' => (.v r.1, ρ')
    | _ => none
   else none
  | _ => none
def fMut0 (fo : FE) (sem : List D → Option (D × List D)) : FE := fun ρ => (fo ρ).bind fun p => match p.1 with
  | .l i => (getO i p.2).bind fun d => match d with
    | .list ds => (sem ds).bind fun r => (setO i (.list r.2) p.2).map fun ρ' => (.v r.1, ρ')
    | _ => none
  | _ => none
def semApp (ds : List D) (d : D) : Option (D × List D) := if few ds.length then some (.none, ds ++ [d]) else none
def semPop (ds : List D) : Option (D × List D) := (ds[ds.length - 1]?).map fun d => (d, ds.dropLast)
def semPopAt (ds : List D) : D → Option (D × List D)
  | .int i => if decide (-(2 ^ 63) ≤ i) && decide (i < 2 ^ 63) then (seqIndex? i ds.length).bind fun k => (ds[k]?).map fun d => (d, ds.eraseIdx k) else none
  | _ => none
theorem few_lt {n : Nat} (h : few n = true) : n < sizeLine := by
  have := of_decide_eq_true h
  rw [sizeLine_eq]; omega
section
variable {X : Cx} {B : Bx} {o e a : Expr} {es : List Expr} {fo fa fe : FE} {pos apos : Pos} {n : Nat}
theorem Rel.isL {K : PySem.W.Frag} {ρ : Er} {om : Om} {σ : L2.St} {H : Hp} {i : Nat} {v : V} (R : Rel K B ρ om σ H) (r : HRep K B om σ H (.l i) v) (e : Ev.isL (Ev.getO i ρ) = true) : tyV K "list" v H := by
  unfold Ev.isL at e
  split at e
  · rename_i ds e0
    obtain ⟨a, rfl, ea, ro⟩ := R.getO r e0
    cases ro with
    | lst g1 g2 => exact .inl ⟨rfl, _, .of g1⟩
  · cases e
theorem mut_core {name : Str} {id : String} {r : V → List V → Hp → VK → Prop} {sem : List D → D → Option (D × List D)} (slot : Slot "list" name id) (hty : typeOf (.builtin id) = pure (.type "method_descriptor")) (hm : MtR X id r)
    (hr : ∀ {H : Hp} {Ex : Addr → Prop} {a : Addr} {xs : List V} {ds : List D} {d : D} {v : V} {z : D} {out : List D} {Q : VK}, H a = some (.lst xs) → Reps X.K H Ex ds xs → Rep X.K H Ex d v → sem ds d = some (z, out) →
      (∀ w ys, Rep X.K H Ex z w → Reps X.K H Ex out ys → Q w (upd H a (.lst ys))) → r (.ref a) [v] H Q)
    (ho : EV X B o fo) (ha : EV X B e fa) (hbase : attributeBase o name X.env (eval o X.env) = eval o X.env)
    (hfew : ((backTo pos (starEach [e] X.env)).all (fun x => !x.1) && (backToKw pos (keywordEach [] X.env)).all (fun x => x.1.isSome) && decide ([e].length + ([] : List Keyword).length + (if ([] : List Keyword).isEmpty then 0 else 1) < 30)) = true)
    (hline : (apos.endLine == pos.line) = true) (hs : starEach [e] X.env = (false, eval e X.env) :: starEach [] X.env) (hpl : (backTo pos (starEach [] X.env)).any (·.1) = false) :
    EV X B (.Call (.Attribute o name apos) [e] [] pos) (fMut fo fa sem) := fun ρ h ρ' q => by
  unfold fMut at q
  obtain ⟨⟨h1, ρ1⟩, e1, q⟩ := Option.bind_eq_some_iff.mp q
  split at q
  · rename_i i e0
    have e0 : h1 = .l i := e0
    subst e0
    split at q
    case isFalse => cases q
    rename_i il
    obtain ⟨⟨d, ρ2⟩, e2, q⟩ := Option.bind_eq_some_iff.mp q
    obtain ⟨d0, e3, q⟩ := Option.bind_eq_some_iff.mp q
    split at q
    · rename_i ds
      obtain ⟨⟨z, out⟩, e4, q⟩ := Option.bind_eq_some_iff.mp q
      obtain ⟨ρ3, e5, q⟩ := Option.map_eq_some_iff.mp q
      cases q
      refine pe_imp (pe_bm PySem.F.plainAttrs_list slot hty hm (ho _ _ _ e1) (pa_cons (ha.fz e2) pa_nil hs) hbase hfew hline hs hpl) fun σ H Q ⟨om, R, k⟩ => ⟨om, R, fun v H1 om1 s1 R1 r1 => ?_⟩
      refine ⟨?_, om1, R1, fun w H2 om2 s2 R2 r2 => ?_⟩
      · exact R1.isL r1 il
      · obtain ⟨a, rfl, ea, ro⟩ := R2.getO (r1.stp s2) e3
        have ro2 := ro
        cases ro2 with
        | @lst _ xs _ g1 g2 =>
          show r (V.ref a) [w] H2 Q
          refine hr g1 g2 r2 e4 fun w ys rw' ry => ?_
          have kk := kup (B := B) (H := H2) (o := HO.lst ys) ea
          obtain ⟨R3, s3⟩ := R2.setO ea e5 ro (.lst upd_same (Reps.mono kk (fun _ z => .inl z) _ _ ry))
          exact k w _ om2 ((s1.trans s2).trans s3) R3 (Rep.mono kk (fun _ z => .inl z) _ _ rw')
    · cases q
  · cases q
theorem mut0_core {name : Str} {id : String} {r : V → List V → Hp → VK → Prop} {sem : List D → Option (D × List D)} (slot : Slot "list" name id) (hty : typeOf (.builtin id) = pure (.type "method_descriptor")) (hm : MtR X id r)
    (hr : ∀ {H : Hp} {Ex : Addr → Prop} {a : Addr} {xs : List V} {ds : List D} {z : D} {out : List D} {Q : VK}, H a = some (.lst xs) → Reps X.K H Ex ds xs → sem ds = some (z, out) →
      (∀ w ys, Rep X.K H Ex z w → Reps X.K H Ex out ys → Q w (upd H a (.lst ys))) → r (.ref a) [] H Q)
    (ho : EV X B o fo) (hbase : attributeBase o name X.env (eval o X.env) = eval o X.env) (hline : (apos.endLine == pos.line) = true) :
    EV X B (.Call (.Attribute o name apos) [] [] pos) (fMut0 fo sem) := fun ρ h ρ' q => by
  unfold fMut0 at q
  obtain ⟨⟨h1, ρ1⟩, e1, q⟩ := Option.bind_eq_some_iff.mp q
  split at q
  · rename_i i e0
    have e0 : h1 = .l i := e0
    subst e0
    obtain ⟨d0, e3, q⟩ := Option.bind_eq_some_iff.mp q
    split at q
    · rename_i ds
      obtain ⟨⟨z, out⟩, e4, q⟩ := Option.bind_eq_some_iff.mp q
      obtain ⟨ρ3, e5, q⟩ := Option.map_eq_some_iff.mp q
      cases q
      refine pe_imp (pe_bm0 PySem.F.plainAttrs_list slot hty hm (ho _ _ _ e1) hbase hline) fun σ H Q ⟨om, R, k⟩ => ⟨om, R, fun v H1 om1 s1 R1 r1 => ?_⟩
      refine ⟨R1.isL r1 (by show Ev.isL (getO i ρ1) = true; rw [show getO i ρ1 = some (.list ds) from e3]; rfl), ?_⟩
      obtain ⟨a, rfl, ea, ro⟩ := R1.getO r1 e3
      have ro2 := ro
      cases ro2 with
      | @lst _ xs _ g1 g2 =>
        refine hr g1 g2 e4 fun w ys rw' ry => ?_
        have kk := kup (B := B) (H := H1) (o := HO.lst ys) ea
        obtain ⟨R3, s3⟩ := R1.setO ea e5 ro (.lst upd_same (Reps.mono kk (fun _ z => .inl z) _ _ ry))
        exact k w _ om1 (s1.trans s3) R3 (Rep.mono kk (fun _ z => .inl z) _ _ rw')
    · cases q
  · cases q
theorem ev_append (ho : EV X B o fo) (ha : EV X B e fa) (hbase : attributeBase o "append" X.env (eval o X.env) = eval o X.env)
    (hfew : ((backTo pos (starEach [e] X.env)).all (fun x => !x.1) && (backToKw pos (keywordEach [] X.env)).all (fun x => x.1.isSome) && decide ([e].length + ([] : List Keyword).length + (if ([] : List Keyword).isEmpty then 0 else 1) < 30)) = true)
    (hline : (apos.endLine == pos.line) = true) (hs : starEach [e] X.env = (false, eval e X.env) :: starEach [] X.env) (hpl : (backTo pos (starEach [] X.env)).any (·.1) = false) :
    EV X B (.Call (.Attribute o "append" apos) [e] [] pos) (fMut fo fa semApp) :=
  mut_core PySem.F.slot_list_append PySem.F.type_list_append mt_append (fun {H Ex a xs ds d v z out Q} g1 g2 r2 e4 k => by
    unfold semApp at e4
    split at e4
    · rename_i hl
      cases e4
      exact ⟨a, xs, v, rfl, rfl, g1, by rw [← g2.length]; exact few_lt hl, k _ _ .non (g2.append (.cons r2 .nil))⟩
    · cases e4) ho ha hbase hfew hline hs hpl
theorem ev_popAt (ho : EV X B o fo) (ha : EV X B e fa) (hbase : attributeBase o "pop" X.env (eval o X.env) = eval o X.env)
    (hfew : ((backTo pos (starEach [e] X.env)).all (fun x => !x.1) && (backToKw pos (keywordEach [] X.env)).all (fun x => x.1.isSome) && decide ([e].length + ([] : List Keyword).length + (if ([] : List Keyword).isEmpty then 0 else 1) < 30)) = true)
    (hline : (apos.endLine == pos.line) = true) (hs : starEach [e] X.env = (false, eval e X.env) :: starEach [] X.env) (hpl : (backTo pos (starEach [] X.env)).any (·.1) = false) :
    EV X B (.Call (.Attribute o "pop" apos) [e] [] pos) (fMut fo fa semPopAt) :=
  mut_core PySem.F.slot_list_pop PySem.F.type_list_pop mt_popAt (fun {H Ex a xs ds d v z out Q} g1 g2 r2 e4 k => by
    unfold semPopAt at e4
    split at e4
    · split at e4
      · rename_i i hb
        obtain ⟨kk, e5, e4⟩ := Option.bind_eq_some_iff.mp e4
        obtain ⟨y, e6, e4⟩ := Option.map_eq_some_iff.mp e4
        cases e4
        cases r2
        obtain ⟨w, ew, rw'⟩ := g2.get e6
        simp only [Bool.and_eq_true, decide_eq_true_eq] at hb
        exact ⟨a, xs, i, kk, w, rfl, rfl, g1, hb.1, hb.2, by rw [← g2.length]; exact e5, ew, k _ _ rw' (g2.erase _)⟩
      · cases e4
    · cases e4) ho ha hbase hfew hline hs hpl
theorem Reps.dropLast {K : PySem.W.Frag} {H : Hp} {Ex : Addr → Prop} {ds : List D} {vs : List V} (r : Reps K H Ex ds vs) : Reps K H Ex ds.dropLast vs.dropLast := by
  rw [List.dropLast_eq_take, List.dropLast_eq_take, ← r.length]
  exact r.take _
theorem ev_pop (ho : EV X B o fo) (hbase : attributeBase o "pop" X.env (eval o X.env) = eval o X.env) (hline : (apos.endLine == pos.line) = true) :
    EV X B (.Call (.Attribute o "pop" apos) [] [] pos) (fMut0 fo semPop) :=
  mut0_core PySem.F.slot_list_pop PySem.F.type_list_pop mt_pop (fun {H Ex a xs ds z out Q} g1 g2 e4 k => by
    unfold semPop at e4
    obtain ⟨y, e6, e4⟩ := Option.map_eq_some_iff.mp e4
    cases e4
    obtain ⟨w, ew, rw'⟩ := g2.get e6
    exact ⟨a, xs, w, rfl, rfl, g1, by rw [← g2.length]; exact ew, k _ _ rw' g2.dropLast⟩) ho hbase hline

/-! ### displays -/
/-- a new object behind all slots -/
def pushD (d : D) (ρ : Er) : Hd × Er := (.l ρ.length, ρ ++ [.own d])
def fLst (fs : FA) : FE := fun ρ => (fs ρ).bind fun p => (plain p.1).bind fun ds => if few ds.length then some (pushD (.list ds) p.2) else none
theorem Rel.pushC {K : PySem.W.Frag} {ρ : Er} {om : Om} {σ : L2.St} {H : Hp} {p : Addr} {o : HO} {d : D} (R : Rel K B ρ om σ H) (hn : H p = none) (c : RepC K H (Exs B om) d o) :
    Rel K B (pushD d ρ).2 (psh om ρ.length p) σ (upd H p o) ∧ Stp B om H (psh om ρ.length p) (upd H p o) ∧ HRep K B (psh om ρ.length p) σ (upd H p o) (pushD d ρ).1 (.ref p) := by
  refine R.push hn c.ntup (c.upd hn fun a z => ?_)
  rcases z with z | ⟨j, z⟩
  · exact .inl (.inl z)
  · by_cases e : j = ρ.length
    · rw [e, psh_self] at z; cases z; exact .inr hn
    · rw [psh_ne e] at z; exact .inl (.inr ⟨j, z⟩)
theorem ev_lst {fs : FA} (h : EA X B es fs) : EV X B (.List es pos) (fLst fs) := fun ρ hh ρ' q => by
  unfold fLst at q
  obtain ⟨⟨hs, ρ1⟩, e1, q⟩ := Option.bind_eq_some_iff.mp q
  obtain ⟨ds, e2, q⟩ := Option.bind_eq_some_iff.mp q
  split at q
  · rename_i hl
    cases q
    refine pe_imp (pe_lst (h _ _ _ e1)) fun σ H Q ⟨om, R, k⟩ => ⟨om, R, fun vs H' om' s R' r => ?_⟩
    have rr := r.plain e2
    refine ⟨line_ok (by rw [← rr.length]; exact of_decide_eq_true hl), fun p hn => ?_⟩
    obtain ⟨R2, s2, r2⟩ := R'.pushC hn (.lst rr)
    exact k _ _ _ (s.trans s2) R2 r2
  · cases q
def fNewD (d : D) : FE := fun ρ => some (pushD d ρ)
theorem ev_dict0 : EV X B (.Dict [] [] pos) (fNewD (.dict [])) := fun ρ hh ρ' q => by
  cases q
  refine pe_imp pe_dnewK fun σ H Q ⟨om, R, k⟩ p hn => ?_
  obtain ⟨R2, s2, r2⟩ := R.pushC hn (.dk .nil)
  exact k _ _ _ s2 R2 r2
theorem ev_dict0T : EV X B (.Dict [] [] pos) (fNewD (.dict [(.none, .none)])) := fun ρ hh ρ' q => by
  cases q
  refine pe_imp pe_dnewT fun σ H Q ⟨om, R, k⟩ p hn => ?_
  obtain ⟨R2, s2, r2⟩ := R.pushC hn (.dt .nil)
  exact k _ _ _ s2 R2 r2
/-- a builtin that makes a new list -/
def fNew (fs : FA) (sem : List D → Option D) : FE := fun ρ => (fs ρ).bind fun p => (resAll p.1 p.2).bind fun ds => (sem ds).map fun d => pushD d p.2
theorem new_core {e : Expr} {fs : FA} {sem : List D → Option D} (ha : EA X B es fs) {ρ h ρ'} (q : fNew fs sem ρ = some (h, ρ')) (mk : ∀ {t : TA}, PA X es t → PE X e (tCB (rF X.K sem) t)) : PE X e (tH X B ρ h ρ') := by
  unfold fNew at q
  obtain ⟨⟨hs, ρ1⟩, e1, q⟩ := Option.bind_eq_some_iff.mp q
  obtain ⟨ds, e2, q⟩ := Option.bind_eq_some_iff.mp q
  obtain ⟨d, e3, q⟩ := Option.map_eq_some_iff.mp q
  cases q
  refine pe_imp (mk (ha _ _ _ e1)) fun σ H Q ⟨om, R, k⟩ => ⟨om, R, fun vs H' om' s R' r => ?_⟩
  refine ⟨Exs B om', ds, d, R'.fresh, r.resb R' e2, e3, fun p o hn c => ?_⟩
  obtain ⟨R2, s2, r2⟩ := R'.pushC hn c
  exact k _ _ _ (s.trans s2) R2 r2

/-! ### o[i] = v -/
def putL (ps : List (D × D)) (k : Key) (kd v : D) : List (D × D) := if (ps.any fun p => decide (keyOf p.1 = some k)) = true then ps.map (fun p => if keyOf p.1 = some k then (p.1, v) else p) else ps ++ [(kd, v)]
def putLT (ps : List (D × D)) (k : List Key) (kd v : D) : List (D × D) := if (ps.any fun p => decide (tkeyOf p.1 = some k)) = true then ps.map (fun p => if tkeyOf p.1 = some k then (p.1, v) else p) else ps ++ [(kd, v)]
def semPut : D → D → D → Option D
  | .list ds, .int i, v => (ixN ds.length i).map fun j => .list (ds.set j v)
  | .dict ((.none, .none) :: ps), k, v => (tkeyOf k).bind fun key => if few ps.length then some (.dict ((.none, .none) :: putLT ps key k v)) else none
  | .dict ps, k, v => (keyOf k).bind fun key => if few ps.length then some (.dict (putL ps key k v)) else none
  | _, _, _ => none
end
end Ev

set_option maxRecDepth 100000
set_option maxHeartbeats 4000000
namespace Ev
open PySem PySem.Spec PyProof.Rows L2
section
variable {K : PySem.W.Frag} {H : Hp} {Ex : Addr → Prop}
theorem RepK.anyk (k : Key) : ∀ {ps : List (D × D)} {kvs : List (Key × V)}, RepK K H Ex ps kvs → (ps.any fun p => decide (keyOf p.1 = some k)) = kvs.any fun kv => decide (kv.1 = k)
  | _, _, .nil => rfl
  | _, _, .cons (key := key) h0 h1 h2 => by
    rw [List.any_cons, List.any_cons, RepK.anyk k h2]
    simp [h0]
theorem RepK.mapk (k : Key) {d : D} {v : V} (r : Rep K H Ex d v) : ∀ {ps : List (D × D)} {kvs : List (Key × V)}, RepK K H Ex ps kvs → RepK K H Ex (ps.map fun p => if keyOf p.1 = some k then (p.1, d) else p) (kvs.map fun kv => if kv.1 = k then (kv.1, v) else kv)
  | _, _, .nil => .nil
  | _, _, .cons (k := a) (key := key) h0 h1 h2 => by
    rw [List.map_cons, List.map_cons]
    by_cases e : key = k
    · have e' : keyOf a = some k := by rw [h0, e]
      rw [if_pos e', if_pos e]
      exact .cons h0 r (RepK.mapk k r h2)
    · have e' : ¬ keyOf a = some k := by rw [h0]; exact fun z => e (Option.some.inj z)
      rw [if_neg e', if_neg e]
      exact .cons h0 h1 (RepK.mapk k r h2)
theorem RepK.app : ∀ {ps qs : List (D × D)} {kvs kvs' : List (Key × V)}, RepK K H Ex ps kvs → RepK K H Ex qs kvs' → RepK K H Ex (ps ++ qs) (kvs ++ kvs')
  | _, _, _, _, .nil, g => g
  | _, _, _, _, .cons h0 h1 h2, g => .cons h0 h1 (RepK.app h2 g)
theorem RepK.len : ∀ {ps : List (D × D)} {kvs : List (Key × V)}, RepK K H Ex ps kvs → ps.length = kvs.length
  | _, _, .nil => rfl
  | _, _, .cons _ _ h2 => congrArg (· + 1) (RepK.len h2)
theorem RepK.put {k : Key} {kd d : D} {v : V} (hk : keyOf kd = some k) (r : Rep K H Ex d v) {ps : List (D × D)} {kvs : List (Key × V)} (h : RepK K H Ex ps kvs) : RepK K H Ex (putL ps k kd d) (putK kvs k v) := by
  unfold putL putK
  rw [h.anyk k]
  split
  · exact h.mapk k r
  · exact h.app (.cons hk r .nil)
theorem RepT.anyk (k : List Key) : ∀ {ps : List (D × D)} {kvs : List (List Key × V)}, RepT K H Ex ps kvs → (ps.any fun p => decide (tkeyOf p.1 = some k)) = kvs.any fun kv => decide (kv.1 = k)
  | _, _, .nil => rfl
  | _, _, .cons (key := key) h0 h1 h2 => by
    rw [List.any_cons, List.any_cons, RepT.anyk k h2]
    simp [h0]
theorem RepT.mapk (k : List Key) {d : D} {v : V} (r : Rep K H Ex d v) : ∀ {ps : List (D × D)} {kvs : List (List Key × V)}, RepT K H Ex ps kvs → RepT K H Ex (ps.map fun p => if tkeyOf p.1 = some k then (p.1, d) else p) (kvs.map fun kv => if kv.1 = k then (kv.1, v) else kv)
  | _, _, .nil => .nil
  | _, _, .cons (k := a) (key := key) h0 h1 h2 => by
    rw [List.map_cons, List.map_cons]
    by_cases e : key = k
    · have e' : tkeyOf a = some k := by rw [h0, e]
      rw [if_pos e', if_pos e]
      exact .cons h0 r (RepT.mapk k r h2)
    · have e' : ¬ tkeyOf a = some k := by rw [h0]; exact fun z => e (Option.some.inj z)
      rw [if_neg e', if_neg e]
      exact .cons h0 h1 (RepT.mapk k r h2)
theorem RepT.app : ∀ {ps qs : List (D × D)} {kvs kvs' : List (List Key × V)}, RepT K H Ex ps kvs → RepT K H Ex qs kvs' → RepT K H Ex (ps ++ qs) (kvs ++ kvs')
  | _, _, _, _, .nil, g => g
  | _, _, _, _, .cons h0 h1 h2, g => .cons h0 h1 (RepT.app h2 g)
theorem RepT.len : ∀ {ps : List (D × D)} {kvs : List (List Key × V)}, RepT K H Ex ps kvs → ps.length = kvs.length
  | _, _, .nil => rfl
  | _, _, .cons _ _ h2 => congrArg (· + 1) (RepT.len h2)
theorem RepT.put {k : List Key} {kd d : D} {v : V} (hk : tkeyOf kd = some k) (r : Rep K H Ex d v) {ps : List (D × D)} {kvs : List (List Key × V)} (h : RepT K H Ex ps kvs) : RepT K H Ex (putLT ps k kd d) (putK kvs k v) := by
  unfold putLT putK
  rw [h.anyk k]
  split
  · exact h.mapk k r
  · exact h.app (.cons hk r .nil)
end
section
variable {X : Cx} {B : Bx} {o i e : Expr} {fo fi fv : FE} {pos tpos : Pos} {n : Nat}
def rSetAny : TSet := fun o i v H Q => rSetL o i v H Q ∨ ∃ a H4, o = .ref a ∧ DPut H a i v H4 ∧ Q H4
theorem set_any (hu : X.A.units + 1 < cLine) : PSet X rSetAny := by
  intro pins s σ H o i v ov iv u Q I ro ri rv h
  rcases h with h | ⟨a, H4, rfl, g, q⟩
  · exact set_list pins s σ H o i v ov iv u Q I ro ri rv h
  · cases ro
    exact d_setItem hu I g ri rv fun s' I' => ⟨H4, I', q⟩
theorem dput_of {K : PySem.W.Frag} {H : Hp} {Ex : Addr → Prop} {ps : List (D × D)} {a : Addr} {kd d d' : D} {k v : V} (ro : RepO K H Ex (.dict ps) a) (hk : RepB K H Ex kd k) (hv : Rep K H Ex d v) (e : semPut (.dict ps) kd d = some d') :
    ∃ ob, DPut H a k v (upd H a ob) ∧ RepC K H Ex d' ob := by
  cases ro with
  | dk h1 h2 =>
    have e' : ((keyOf kd).bind fun key => if few ps.length then some (.dict (putL ps key kd d)) else none) = some d' := by
      cases h2 with
      | nil => exact e
      | cons h0 _ _ =>
        unfold semPut at e
        split at e
        · rename_i hh; cases hh
        · rename_i hh
          have h9 := (List.cons.inj (PyData.dict.inj hh)).1
          have h8 := congrArg Prod.fst h9
          simp only at h8
          subst h8
          cases h0
        · rename_i hh; cases hh; exact e
        · cases e
    obtain ⟨key, e1, e2⟩ := Option.bind_eq_some_iff.mp e'
    split at e2
    · rename_i hl
      cases e2
      rw [key_v hk e1]
      exact ⟨_, .k h1 (by rw [← h2.len]; exact few_lt hl), .dk (h2.put e1 hv)⟩
    · cases e2
  | @dt _ _ qs h1 h2 =>
    have e' : ((tkeyOf kd).bind fun key => if few qs.length then some (.dict ((.none, .none) :: putLT qs key kd d)) else none) = some d' := e
    obtain ⟨key, e1, e2⟩ := Option.bind_eq_some_iff.mp e'
    split at e2
    · rename_i hl
      cases e2
      cases kd with
      | tuple ds =>
        obtain ⟨b, xs, rfl, hb, _, r⟩ := hk.tup
        rw [keys_v r e1] at hb
        exact ⟨_, .t h1 hb (by rw [← h2.len]; exact few_lt hl), .dt (h2.put e1 hv)⟩
      | _ => cases e1
    · cases e2
/-- o[i] = v -/
def sPut (n : Nat) (fv fo fi : FE) : FS := fun ρ => (fz fv ρ).bind fun pv => (fo pv.2).bind fun po => match po.1 with
  | .l j => (fi po.2).bind fun pi => (res pi.1 pi.2).bind fun ix => (getO j pi.2).bind fun d0 => (semPut d0 ix pv.1).bind fun d' => (setO j d' pi.2).map fun ρ' => .nx (ρ'.take n)
  | _ => none
theorem es_put (hn : X.N.length = n) (hu : X.A.units + 1 < cLine) (hv : EV X B e fv) (ho : EV X B o fo) (hi : EV X B i fi) (hs : swapsWithSole [.Subscript o i tpos] e pos.line X.env = pure false) (hw : swappedStores [.Subscript o i tpos] e X.env = pure none)
    (h1 : (assignEach [.Subscript o i tpos] X.env).map (·.2) = [assign (.Subscript o i tpos) X.env])
    (ha : ∀ v, assign (.Subscript o i tpos) X.env v = (do
      let ov ← holding [v] (eval o X.env)
      let iv ← holding [v, ov] (eval i X.env)
      standAt tpos
      holding [v, ov, iv] (setItem ov iv v)
      release [v, ov, iv] [])) : ES X B (.Assign [.Subscript o i tpos] e pos) (sPut n fv fo fi) := fun ρ r q => by
  unfold sPut at q
  obtain ⟨⟨d, ρ1⟩, e1, q⟩ := Option.bind_eq_some_iff.mp q
  obtain ⟨⟨h2, ρ2⟩, e2, q⟩ := Option.bind_eq_some_iff.mp q
  split at q
  · rename_i j e0
    have e0 : h2 = .l j := e0
    subst e0
    obtain ⟨⟨h3, ρ3⟩, e3, q⟩ := Option.bind_eq_some_iff.mp q
    obtain ⟨ix, e4, q⟩ := Option.bind_eq_some_iff.mp q
    obtain ⟨d0, e5, q⟩ := Option.bind_eq_some_iff.mp q
    obtain ⟨d', e6, q⟩ := Option.bind_eq_some_iff.mp q
    obtain ⟨ρ4, e7, q⟩ := Option.map_eq_some_iff.mp q
    cases q
    refine ps_impL (ps_asg (hv.fz e1) (pg_sub (ho _ _ _ e2) (hi _ _ _ e3) (set_any hu) ha) hs hw h1) fun D σ H ln ⟨om, R, t, k⟩ => ⟨om, R, fun v H1 om1 s1 R1 r1 => ⟨om1, R1, fun x H2 om2 s2 R2 r2 => ⟨om2, R2, fun y H3 om3 s3 R3 r3 => ?_⟩⟩⟩
    have rv := (r1.stp s2).stp s3
    have rk := R3.resb r3 e4
    obtain ⟨a, rfl, ea, ro⟩ := R3.getO (r2.stp s3) e5
    have fin : ∀ {ob : HO}, RepC X.K H3 (Exs B om3) d' ob → D.nx σ (upd H3 a ob) := fun {ob} c => by
      have kk := kup (B := B) (H := H3) (o := ob) ea
      obtain ⟨R4, s4⟩ := R3.setO ea e7 ro (rc_put kk c)
      obtain ⟨R5, x5⟩ := R4.cut (n := n) (ln.trans hn)
      exact k σ _ _ ((((s1.trans s2).trans s3).trans s4).less t rfl x5) R5 rfl
    cases d0 with
    | list ds =>
      cases ix with
      | int i0 =>
        obtain ⟨jj, e8, e9⟩ := Option.map_eq_some_iff.mp e6
        subst e9
        cases rk.int
        cases ro with
        | lst g1 g2 => exact .inl ⟨a, _, i0, jj, rfl, rfl, g1, by rw [← g2.length]; exact e8, fin (.lst (g2.set rv jj))⟩
      | _ => cases e6
    | dict ps =>
      obtain ⟨ob, g, c⟩ := dput_of ro rk rv e6
      exact .inr ⟨a, _, rfl, g, fin c⟩
    | _ => cases e6
  · cases q

/-! ### while -/
def sWhile (n : Nat) (gc : FT) (f : FS) : Nat → FS
  | 0, _ => none
  | m + 1, ρ => (gc ρ).bind fun p => if p.1 = true then (f (p.2.take n)).bind fun x => match x with
    | .nx ρ2 => sWhile n gc f m ρ2
    | .ct ρ2 => sWhile n gc f m ρ2
    | .bk ρ2 => some (.nx ρ2)
    | .ret d ρ2 => some (.ret d ρ2)
    else some (.nx (p.2.take n))
theorem es_while {c : Expr} {body : List Stmt} {gc : FT} {f : FS} (m : Nat) (hn : X.N.length = n) (hp : PassesOwn (model X.prog X.w) X.A X.env X.xe) (hc : ET X B c gc) (hb : ESs X B body f) : ES X B (.While c body [] pos) (sWhile n gc f m) := fun ρ r q => by
  refine ⟨fun pins s σ H D I h => ?_⟩
  have ln := I.len.trans hn
  have call : PT X c (fun σ H Q => ∃ ρ b ρ', gc ρ = some (b, ρ') ∧ tT X B ρ b ρ' σ H Q) := ⟨fun pins s σ H Q I ⟨ρ, b, ρ', e, z⟩ => (hc ρ b ρ' e).run pins s σ H Q I z⟩
  have ball : PSs X body (fun D σ H => ∃ ρ r, f ρ = some r ∧ tSt X B ρ r D σ H) := ⟨fun pins s σ H D I ⟨ρ, r, e, z⟩ => (hb ρ r e).run pins s σ H D I z⟩
  refine (ps_while hp call (pss_len ball)).run pins s σ H D I ?_
  obtain ⟨om, R, t, k⟩ := h
  refine ⟨fun m σ' H' => ∃ ρi omi, σ'.length = n ∧ Rel X.K B ρi omi σ' H' ∧ omi.τ = [] ∧ Ste B om H omi H' ∧ sWhile n gc f m ρi = some r, ⟨m, ρ, om, ln, R, t, ⟨.refl, fun a z => .inl z⟩, q⟩, ?_⟩
  rintro m σ' H' ⟨ρi, omi, lni, Ri, ti, si, qi⟩
  cases m with
  | zero => cases qi
  | succ m =>
    simp only [sWhile] at qi
    obtain ⟨⟨b, ρ1⟩, g1, qi⟩ := Option.bind_eq_some_iff.mp qi
    refine ⟨_, _, _, g1, omi, Ri, fun H1 om1 s1 R1 => ?_⟩
    obtain ⟨R2, x2⟩ := R1.cut lni
    have s2 : Ste B om H (cutO om1 n) H1 := (si.trans s1.ste).trans (.sub x2)
    cases b with
    | false =>
      rw [if_neg Bool.false_ne_true] at qi
      cases qi
      exact k σ' H1 _ (s2.stp t rfl) R2 rfl
    | true =>
      rw [if_pos rfl] at qi
      obtain ⟨x, g2, qi⟩ := Option.bind_eq_some_iff.mp qi
      refine ⟨fun σ5 H5 => ∃ ρ5 om5, σ5.length = n ∧ Rel X.K B ρ5 om5 σ5 H5 ∧ om5.τ = [] ∧ Ste B om H om5 H5 ∧ sWhile n gc f m ρ5 = some r, fun σ5 H5 z => ⟨m, Nat.lt_succ_self m, z⟩, ?_⟩
      refine ⟨_, _, g2, _, R2, rfl, ?_⟩
      cases x with
      | nx ρ6 => exact fun σ6 H6 om6 s6 R6 t6 l6 => ⟨ρ6, om6, l6.trans hn, R6, t6, s2.trans s6.ste, qi⟩
      | ct ρ6 => exact fun σ6 H6 om6 s6 R6 t6 l6 => ⟨ρ6, om6, l6.trans hn, R6, t6, s2.trans s6.ste, qi⟩
      | bk ρ6 =>
        cases qi
        exact fun σ6 H6 om6 s6 R6 t6 _ => k σ6 H6 om6 ((s2.trans s6.ste).stp t t6) R6 t6
      | ret d ρ6 =>
        cases qi
        exact fun v σ6 H6 om6 s6 R6 r6 => k v σ6 H6 om6 ⟨(s2.trans s6.ste).keep, (s2.trans s6.ste).grow, om6.τ, by rw [t]; rfl⟩ R6 r6
end

/-! ### a def -/
def startR : List Bool → List D → Er
  | [], _ => []
  | _, [] => []
  | true :: r, d :: ds => .io d :: startR r ds
  | false :: r, d :: ds => .val d :: startR r ds
def outsOf : List Bool → Er → List D
  | [], _ => []
  | true :: r, .io d :: ρ => d :: outsOf r ρ
  | _ :: r, _ :: ρ => .none :: outsOf r ρ
  | _ :: r, [] => .none :: outsOf r []
/-- every lent thing is still where it was lent -/
def ioOk : List Bool → Er → Bool
  | [], _ => true
  | true :: r, .io _ :: ρ => ioOk r ρ
  | true :: _, _ => false
  | false :: r, _ :: ρ => ioOk r ρ
  | false :: r, [] => ioOk r []
def gDef (n : Nat) (ios : List Bool) (f : FS) : List D → Option (D × List D) := fun ds => if ds.length = ios.length then (f (startR ios ds ++ List.replicate (n - ios.length) .un)).bind fun r => match r with
  | .ret d ρ => if ioOk ios ρ then some (d, outsOf ios ρ) else none
  | .nx ρ => if ioOk ios ρ then some (.none, outsOf ios ρ) else none
  | _ => none else none
end Ev

set_option maxRecDepth 100000
set_option maxHeartbeats 4000000
namespace Ev
open PySem PySem.Spec PyProof.Rows L2
section
variable {K : PySem.W.Frag} {H : Hp} {Ex : Addr → Prop}
theorem start_at : ∀ {ios : List Bool} {ds : List D} {vs : List V} {i : Nat} {x : Sl} {m : Nat}, ARep K H Ex ios ds vs → (startR ios ds ++ List.replicate m .un)[i]? = some x →
    (∃ d v, x = .val d ∧ vs[i]? = some v ∧ Rep K H Ex d v) ∨ (∃ d a, x = .io d ∧ vs[i]? = some (.ref a) ∧ ioA ios vs i = some a ∧ RepO K H Ex d a) ∨ x = .un
  | _, _, _, i, x, m, .nil, e => by
    rw [show startR [] [] = [] from rfl, List.nil_append] at e
    exact .inr (.inr (List.mem_replicate.mp (List.mem_of_getElem? e)).2)
  | _, _, _, 0, x, m, .val h1 h2, e => by
    have e : some (Sl.val _) = some x := e
    cases e
    exact .inl ⟨_, _, rfl, rfl, h1⟩
  | _, _, _, 0, x, m, .io h1 _ h2, e => by
    have e : some (Sl.io _) = some x := e
    cases e
    exact .inr (.inl ⟨_, _, rfl, rfl, rfl, h1⟩)
  | _, _, _, i + 1, x, m, .val h1 h2, e => by
    have := start_at (i := i) (m := m) h2 (by simpa [startR] using e)
    simpa [ioA] using this
  | _, _, _, i + 1, x, m, .io h1 _ h2, e => by
    have := start_at (i := i) (m := m) h2 (by simpa [startR] using e)
    simpa [ioA] using this
theorem start_len : ∀ {ios : List Bool} {ds : List D} {vs : List V}, ARep K H Ex ios ds vs → (startR ios ds).length = ios.length
  | _, _, _, .nil => rfl
  | _, _, _, .val _ h => congrArg (· + 1) (start_len h)
  | _, _, _, .io _ _ h => congrArg (· + 1) (start_len h)
theorem start_io : ∀ {ios : List Bool} {ds : List D} {vs : List V} {i : Nat} {a : Addr}, ARep K H Ex ios ds vs → ioA ios vs i = some a → Ex a ∧ ∃ d, RepO K H Ex d a
  | _, _, _, i, a, .nil, e => by simp [ioA] at e
  | _, _, _, 0, a, .val h1 h2, e => by simp [ioA] at e
  | _, _, _, 0, a, .io h1 x h2, e => by
    simp [ioA] at e; subst e
    exact ⟨x, _, h1⟩
  | _, _, _, i + 1, a, .val h1 h2, e => start_io (i := i) h2 (by simpa [ioA] using e)
  | _, _, _, i + 1, a, .io h1 _ h2, e => start_io (i := i) h2 (by simpa [ioA] using e)
theorem outs_at : ∀ {ios : List Bool} {ρ : Er} {vs : List V} {i : Nat} {a : Addr}, ioOk ios ρ = true → ioA ios vs i = some a → ∃ d, ρ[i]? = some (.io d) ∧ (outsOf ios ρ)[i]? = some d
  | [], _, _, i, a, _, e => by simp [ioA] at e
  | true :: r, [], _, _, a, h, e => by cases h
  | false :: r, [], vs, 0, a, h, e => by simp [ioA] at e
  | false :: r, [], [], i + 1, a, h, e => by simp [ioA] at e
  | false :: r, [], v :: vs, i + 1, a, h, e => by
    obtain ⟨d, e1, _⟩ := outs_at (ios := r) (ρ := []) (vs := vs) (i := i) h (by simpa [ioA] using e)
    simp at e1
  | true :: r, .io d :: ρ, vs, 0, a, h, e => ⟨d, rfl, rfl⟩
  | true :: r, .io d :: ρ, [], i + 1, a, h, e => by simp [ioA] at e
  | true :: r, .io d :: ρ, v :: vs, i + 1, a, h, e => by
    obtain ⟨d', e1, e2⟩ := outs_at (ios := r) (ρ := ρ) (vs := vs) (i := i) h (by simpa [ioA] using e)
    exact ⟨d', by simpa using e1, by simpa [outsOf] using e2⟩
  | true :: r, .un :: ρ, _, _, a, h, e => by cases h
  | true :: r, .val _ :: ρ, _, _, a, h, e => by cases h
  | true :: r, .own _ :: ρ, _, _, a, h, e => by cases h
  | false :: r, s :: ρ, vs, 0, a, h, e => by simp [ioA] at e
  | false :: r, s :: ρ, [], i + 1, a, h, e => by simp [ioA] at e
  | false :: r, s :: ρ, v :: vs, i + 1, a, h, e => by
    obtain ⟨d', e1, e2⟩ := outs_at (ios := r) (ρ := ρ) (vs := vs) (i := i) h (by simpa [ioA] using e)
    refine ⟨d', by simpa using e1, ?_⟩
    show (outsOf (false :: r) (s :: ρ))[i + 1]? = some d'
    rw [show outsOf (false :: r) (s :: ρ) = .none :: outsOf r ρ from by cases s <;> rfl]
    simpa using e2
end
section
variable {P : Program} {w : World} {K : PySem.W.Frag} {mg : Str → Option Value} {base : Heap} {x qual : Str} {params : Arguments} {body : List Stmt} {scope : Scope} {f : Addr} {fd : FuncData}
theorem start_rel {T : List Addr} {ios : List Bool} {ds : List D} {vs : List V} {Ex : Addr → Prop} {H : Hp} {m : Nat} {r : List (Option V)} (hm : r = List.replicate m none) (fr : Fresh Ex H) (tx : ∀ P ∈ T, Ex P) (tt : ∀ P ∈ T, GxR.TabG H P) (ar : ARep K H Ex ios ds vs)
    (inj : ∀ i j a, ioA ios vs i = some a → ioA ios vs j = some a → i = j) : Rel K ⟨T, Ex, H, ioA ios vs, none⟩ (startR ios ds ++ List.replicate m .un) ⟨ioA ios vs, []⟩ (vs.map some ++ r) H := by
  subst hm
  have exs : ∀ a, Exs ⟨T, Ex, H, ioA ios vs, none⟩ ⟨ioA ios vs, []⟩ a → Ex a := fun a z => by
    rcases z with z | ⟨i, z⟩
    · exact z
    · exact (start_io ar z).1
  have x2 : ∀ a, Ex a → Exs ⟨T, Ex, H, ioA ios vs, none⟩ ⟨ioA ios vs, []⟩ a := fun a z => .inl z
  have vl := ar.len.2
  have gv : ∀ {i : Nat} {v : V}, vs[i]? = some v → ((vs.map some ++ List.replicate m none) ++ ([] : L2.St))[i]? = some (some v) := fun {i v} e => by
    rw [List.append_nil]
    refine get_ext ?_
    rw [List.getElem?_map, e]; rfl
  refine ⟨?_, fun i d e => ?_, fun i d e => ?_, fun i d e => ?_, inj, fun i a e => .inl ⟨i, e⟩, fun a z => fr a (exs a z), fun a o e _ _ => e, tt, tx, fun a z => ?_, fun i hi => ?_, fun j a e => ?_, fun _ _ e => nomatch e⟩
  · rw [List.length_append, start_len ar, List.length_replicate, List.length_append, List.length_append, List.length_map, List.length_replicate, vl]; rfl
  · rcases start_at ar e with ⟨d', v, h, e1, r⟩ | ⟨d', a, h, _⟩ | h
    · cases h; exact ⟨v, gv e1, r.less exs⟩
    · cases h
    · cases h
  · rcases start_at ar e with ⟨d', v, h, e1, r⟩ | ⟨d', a, h, _⟩ | h <;> cases h
  · rcases start_at ar e with ⟨d', v, h, e1, r⟩ | ⟨d', a, h, e1, e2, r⟩ | h
    · cases h
    · cases h; exact ⟨a, e2, gv e1, r.mono .refl (fun a z => .inl (exs a z)) rfl, e2⟩
    · cases h
  · obtain ⟨o, e, _⟩ := fr a z
    show H a ≠ none
    rw [e]; exact fun z => nomatch z
  · rw [List.length_append, start_len ar, List.length_replicate] at hi
    have hv : ios[i]? = none := List.getElem?_eq_none (by omega)
    show ioA ios vs i = none
    unfold ioA
    rw [hv]
  · obtain ⟨_, d, r⟩ := start_io ar e
    obtain ⟨o, e, _⟩ := r.some
    rw [e]; exact fun z => nomatch z
/-- a def keeps its promise -/
theorem fn_ok {N ps : List Str} {k : Nat} {T : List Addr} {ios : List Bool} {fb : FS} (F : FunD K x qual params body scope [] [] f fd) (S : FnScope N ps scope) (hi : ios.length = ps.length) (hl : ps.length ≤ N.length)
    (hb : ∀ (cdv : Value) (A : Around) (outer : List Env) (s : Shared) (H : Hp) (E : XK) (Ex0 : Addr → Prop) (H0 : Hp) (I0 : Nat → Option Addr), Room k (A.deeper (envOfC qual scope s.heap.objs.size f cdv)) →
      ESs (cxOf CX0 P w K mg base N qual scope f cdv A outer s H E).nox ⟨T, Ex0, H0, I0, none⟩ body fb) : FnOk P w K mg base CX0 (k + 1) f fd ps (spF K T ⟨ios, gDef N.length ios fb⟩) := by
  have len : ∀ vs H Q E, spF K T ⟨ios, gDef N.length ios fb⟩ vs H Q E → vs.length = ps.length := fun vs H Q E ⟨Ex, ds, r, outs, _, _, _, ar, _⟩ => by rw [ar.len.2]; exact hi
  refine F.ok S len fun cdv A outer s H vs Q E hr h => ?_
  obtain ⟨Ex, ds, r, outs, fr, tx, tt, ar, inj, g, k⟩ := h
  have g : gDef N.length ios fb ds = some (r, outs) := g
  unfold gDef at g
  rw [if_pos ar.len.1] at g
  obtain ⟨rr, e1, g⟩ := Option.bind_eq_some_iff.mp g
  refine ⟨_, PSs.nox (hb cdv A outer s H E Ex H (ioA ios vs) hr _ _ e1), ⟨ioA ios vs, []⟩, ?_, rfl, ?_⟩
  · unfold L2.start
    refine start_rel (m := N.length - ios.length) ?_ fr tx tt ar inj
    rw [ar.len.2]
  · have fin : ∀ {ρ' : Er} {d : D} {v : V} {σ' : L2.St} {H' : Hp} {om' : Om}, ioOk ios ρ' = true → Rel K ⟨T, Ex, H, ioA ios vs, none⟩ ρ' om' σ' H' → Rep K H' (Exs ⟨T, Ex, H, ioA ios vs, none⟩ om') d v → r = d → outs = outsOf ios ρ' → Q v H' := fun {ρ' d v σ' H' om'} io R rp e1 e2 => by
      subst e1 e2
      have x2 : ∀ a, Ex a → Exs ⟨T, Ex, H, ioA ios vs, none⟩ om' a := fun a z => .inl z
      refine k v H' (fun a o e n nt => R.keep a o e n nt) R.tabs (rp.less x2) fun i a e => ?_
      obtain ⟨d, e3, e4⟩ := outs_at io e
      obtain ⟨b, _, _, ro, eb⟩ := R.io i d e3
      have eb : ioA ios vs i = some b := eb
      rw [e] at eb; cases eb
      exact ⟨d, e4, ro.mono .refl (fun a z => .inl (x2 a z)) rfl⟩
    cases rr with
    | ret d ρ' =>
      simp only at g
      split at g
      · rename_i io
        cases g
        exact fun v σ' H' om' s R rp => fin io R rp rfl rfl
      · cases g
    | nx ρ' =>
      simp only at g
      split at g
      · rename_i io
        cases g
        exact fun σ' H' om' s R t => fin io R .non rfl rfl
      · cases g
    | bk ρ' => cases g
    | ct ρ' => cases g
end
end Ev

set_option maxRecDepth 100000
set_option maxHeartbeats 4000000
namespace Ev
open PySem PySem.Spec PyProof.Rows L2
def wipeR : List Nat → Er → Option Er
  | [], ρ => some ρ
  | v :: vs, ρ => (wipeR vs ρ).bind fun ρ' => match ρ'[v]? with
    | some (.io _) => none
    | some _ => some (ρ'.set v .un)
    | none => none
section
variable {K : PySem.W.Frag} {B : Bx} {ρ ρ' : Er} {om om' : Om} {σ σ' : L2.St} {H H' : Hp}
theorem Rel.unset {i : Nat} (R : Rel K B ρ om σ H) (hi : i < σ.length) (n : ∀ d, ρ[i]? ≠ some (.io d)) : Rel K B (ρ.set i .un) (drp om i) (σ.set i none) H := by
  have gs : ∀ {j : Nat}, j ≠ i → (σ.set i none ++ (drp om i).τ)[j]? = (σ ++ om.τ)[j]? := fun {j} h => by
    rw [set_app hi, List.getElem?_set_ne (Ne.symm h)]; rfl
  refine R.weak drp_sub.2 (by rw [List.length_set, List.length_append, List.length_set, ← List.length_append]; exact R.len) (fun j hj => drp_sub.none (R.fin j (by simpa using hj))) (fun j d' e' => ?_) (fun j d' e' => ?_) (fun j d' e' => ?_)
  · rcases set_get e' with ⟨rfl, q⟩ | ⟨hj, q⟩
    · cases q
    · obtain ⟨w, e1, r1⟩ := R.val j d' q
      exact ⟨w, (gs hj).trans e1, r1.less fun a z => drp_sub.ex a z⟩
  · rcases set_get e' with ⟨_, q⟩ | ⟨hj, q⟩
    · cases q
    · exact ⟨q, drp_ne hj, gs hj⟩
  · rcases set_get e' with ⟨_, q⟩ | ⟨hj, q⟩
    · cases q
    · exact ⟨q, drp_ne hj, gs hj⟩
theorem Rel.wipe : ∀ {vs : List Nat} {ρ' : Er}, Rel K B ρ om σ H → (∀ v ∈ vs, v < σ.length) → wipeR vs ρ = some ρ' →
    ∃ om', om'.τ = om.τ ∧ (∀ a, Exs B om' a → Exs B om a) ∧ Rel K B ρ' om' (L2.wipe σ vs) H ∧ (∀ v ∈ vs, ρ'[v]? = some .un) ∧ ρ'.length = ρ.length
  | [], _, R, _, e => by
    cases e
    exact ⟨om, rfl, fun _ z => z, R, fun v hv => (List.not_mem_nil hv).elim, rfl⟩
  | v :: vs, ρ', R, hl, e => by
    obtain ⟨ρ1, e1, e2⟩ := Option.bind_eq_some_iff.mp e
    obtain ⟨om1, t1, x1, R1, u1, l1⟩ := Rel.wipe R (fun w hw => hl w (List.mem_cons_of_mem _ hw)) e1
    have hv : v < (L2.wipe σ vs).length := by rw [wipe_length]; exact hl v List.mem_cons_self
    have fin : ρ' = ρ1.set v .un → (∀ d, ρ1[v]? ≠ some (.io d)) → ∃ om', om'.τ = om.τ ∧ (∀ a, Exs B om' a → Exs B om a) ∧ Rel K B ρ' om' (L2.wipe σ (v :: vs)) H ∧ (∀ w ∈ v :: vs, ρ'[w]? = some .un) ∧ ρ'.length = ρ.length := fun q n => by
      subst q
      refine ⟨drp om1 v, t1, fun a z => x1 a (drp_sub.ex a z), R1.unset hv n, fun w hw => ?_, by rw [List.length_set]; exact l1⟩
      by_cases h : w = v
      · subst h
        refine List.getElem?_set_self ?_
        have := R1.len
        rw [List.length_append] at this
        omega
      · rw [List.getElem?_set_ne (Ne.symm h)]
        exact u1 w ((List.mem_cons.mp hw).resolve_left h)
    split at e2
    · cases e2
    · rename_i s n e3
      cases e2
      exact fin rfl fun d z => n d (by rw [e3] at z; exact Option.some.inj z)
    · cases e2
theorem Rel.agree (R : Rel K B ρ om σ H) (l : σ'.length = σ.length) (h : ∀ (i : Nat) x, ρ[i]? = some x → x ≠ .un → σ'[i]? = σ[i]?) : Rel K B ρ om σ' H := by
  have gs : ∀ {j : Nat} {x : Sl}, ρ[j]? = some x → x ≠ .un → (σ' ++ om.τ)[j]? = (σ ++ om.τ)[j]? := fun {j x} e n => by
    by_cases hj : j < σ.length
    · rw [List.getElem?_append_left hj, List.getElem?_append_left (by omega)]; exact h j x e n
    · rw [List.getElem?_append_right (by omega), List.getElem?_append_right (by omega), l]
  refine R.weak (fun i a e => e) (by rw [List.length_append, l, ← List.length_append]; exact R.len) R.fin (fun j d e => ?_) (fun j d e => ⟨e, rfl, gs e (fun z => nomatch z)⟩) (fun j d e => ⟨e, rfl, gs e (fun z => nomatch z)⟩)
  obtain ⟨v, e1, r⟩ := R.val j d e
  exact ⟨v, (gs e (fun z => nomatch z)).trans e1, r⟩
theorem wipe_out' {i : Nat} {vs : List Nat} (h : i ∉ vs) : (L2.wipe σ vs)[i]? = σ[i]? := L2.wipe_out h
theorem Rel.unwipe {vs : List Nat} (R : Rel K B ρ om (L2.wipe σ vs) H) (u : ∀ v ∈ vs, ρ[v]? = some .un) : Rel K B ρ om σ H := by
  refine R.agree (wipe_length σ vs).symm fun i x e n => ?_
  refine (wipe_out' fun hv => n ?_).symm
  have := u i hv
  rw [e] at this
  exact Option.some.inj this
/-- what lies behind a place behind the slots goes -/
def cutT (om : Om) (n : Nat) (τ : List (Option V)) : Om := ⟨fun k => if k < n then om k else none, τ⟩
theorem Rel.cutT {n : Nat} {τ t : List (Option V)} (R : Rel K B ρ om σ H) (ht : om.τ = τ ++ t) (hn : σ.length + τ.length = n) : Rel K B (ρ.take n) (Ev.cutT om n τ) σ H ∧ ∀ a, Exs B (Ev.cutT om n τ) a → Exs B om a := by
  subst hn
  generalize hm : σ.length + τ.length = n
  have cl : ∀ {k : Nat}, k < n → Ev.cutT om n τ k = om k := fun h => if_pos h
  have cg : ∀ {k : Nat}, ¬ k < n → Ev.cutT om n τ k = none := fun h => if_neg h
  have s : ∀ i a, Ev.cutT om n τ i = some a → om i = some a := fun i a e => by
    by_cases h : i < n
    · rwa [cl h] at e
    · rw [cg h] at e; cases e
  have sx : ∀ a, Exs B (Ev.cutT om n τ) a → Exs B om a := fun a z => z.elim .inl fun ⟨i, e⟩ => .inr ⟨i, s i a e⟩
  have ge : ∀ {k : Nat} {y : Sl}, (ρ.take n)[k]? = some y → k < n ∧ ρ[k]? = some y := fun {k y} e => by
    rw [List.getElem?_take] at e
    split at e
    · exact ⟨by assumption, e⟩
    · cases e
  have gs : ∀ {k : Nat}, k < n → (σ ++ (Ev.cutT om n τ).τ)[k]? = (σ ++ om.τ)[k]? := fun {k} h => by
    show (σ ++ τ)[k]? = _
    rw [ht, ← List.append_assoc]
    refine (List.getElem?_append_left ?_).symm
    rw [List.length_append]; omega
  have hl := R.len
  rw [List.length_append, ht, List.length_append] at hl
  refine ⟨R.weak s ?_ (fun k hk => cg ?_) (fun k d' e => ?_) (fun k d' e => ?_) (fun k d' e => ?_), sx⟩
  · show (ρ.take n).length = (σ ++ τ).length
    rw [List.length_take, List.length_append]; omega
  · rw [List.length_take] at hk
    omega
  · obtain ⟨h1, h2⟩ := ge e
    obtain ⟨w, e1, r1⟩ := R.val k d' h2
    exact ⟨w, (gs h1).trans e1, r1.less sx⟩
  · obtain ⟨h1, h2⟩ := ge e
    exact ⟨h2, cl h1, gs h1⟩
  · obtain ⟨h1, h2⟩ := ge e
    exact ⟨h2, cl h1, gs h1⟩
end

/-! ### tests of a clause -/
def ETs (X : Cx) (B : Bx) (ifs : List Expr) (f : FT) : Prop := ∀ ρ c ρ', f ρ = some (c, ρ') → PTs X ifs (tT X B ρ c ρ')
def tYesF : FT := fun ρ => some (true, ρ)
theorem pts_imp {X : Cx} {e : List Expr} {t t' : TT} (h : PTs X e t) (i : ∀ σ H Q, t' σ H Q → t σ H Q) : PTs X e t' := ⟨fun pins s σ H Q I q => h.run pins s σ H Q I (i σ H Q q)⟩
theorem ets_nil {X : Cx} {B : Bx} : ETs X B [] tYesF := fun ρ c ρ' q => by
  cases q
  exact pts_imp pts_nil fun σ H Q ⟨om, R, k⟩ => k H om .refl R
theorem ets_one {X : Cx} {B : Bx} {e : Expr} {f : FT} (h : ET X B e f) : ETs X B [e] f := fun ρ c ρ' q => pts_one (h _ _ _ q)

/-! ### [e for t in it if c] -/
def compL (vs : List Nat) (fg : FG) (ft : FT) (fe : FE) (m : Nat) : List D → Er → Option Er
  | [], ρ => some ρ
  | d :: r, ρ => (fg d ρ).bind fun ρ1 => (ft ρ1).bind fun p => if p.1 = true then (fz fe p.2).bind fun q => (getO m q.2).bind fun d0 => match d0 with
      | .list acc => if few acc.length then (setO m (.list (acc ++ [q.1])) q.2).bind fun ρ4 => (wipeR vs (ρ4.take (m + 1))).bind fun ρ5 => compL vs fg ft fe m r ρ5 else none
      | _ => none
    else (wipeR vs (p.2.take (m + 1))).bind fun ρ5 => compL vs fg ft fe m r ρ5
def fLc (vs : List Nat) (fi : FI) (fg : FG) (ft : FT) (fe : FE) : FE := fun ρ => (fi ρ).bind fun p => (wipeR vs p.2).bind fun ρ2 => (compL vs fg ft fe ρ2.length p.1 (ρ2 ++ [.own (.list [])])).map fun ρ' => (.l ρ2.length, ρ')
section
variable {X : Cx} {B : Bx} {elt tg iter : Expr} {ifs : List Expr} {scope : Scope} {own : List (Str × Nat)} {pos : Pos} {fi : FI} {g : FG} {ts : List Nat} {ft : FT} {fe : FE}
theorem lc_read (hts : ∀ t ∈ ts, t ∈ own.map (·.2)) (ok : BlkOk X.N X.env.scope scope own) {ρ ρ1 ρ2 ρ' : Er} {items : List D} {σ : L2.St} {H : Hp} {Q : VK} (ln : σ.length = X.N.length)
    (e2 : wipeR (own.map (·.2)) ρ1 = some ρ2) (e3 : compL (own.map (·.2)) g ft fe ρ2.length items (ρ2 ++ [.own (.list [])]) = some ρ')
    (h : tH X B ρ (.l ρ2.length) ρ' σ H Q) :
    tLc (tIt X B ρ items ρ1) (fun v σ H Q => ∃ d ρ ρ', g d ρ = some ρ' ∧ tG X B d ρ ρ' ts v σ H Q) (fun σ H Q => ∃ ρ b ρ', ft ρ = some (b, ρ') ∧ tT X B ρ b ρ' σ H Q) (fun σ H Q => ∃ ρ d ρ', fz fe ρ = some (d, ρ') ∧ tV X B ρ d ρ' σ H Q) (own.map (·.2)) σ H Q := by
  obtain ⟨om, R, k⟩ := h
  have hv : ∀ {σ : L2.St}, σ.length = X.N.length → ∀ v ∈ own.map (·.2), v < σ.length := fun {σ} l v hv => by
    obtain ⟨p, hp, e⟩ := List.mem_map.mp hv
    rw [← e]
    exact lt_of l (ok.ix p hp)
  refine ⟨om, R, fun J H1 om1 s1 R1 jt L hL => ?_⟩
  obtain ⟨om2, t2, x2, R2, u2, l2⟩ := R1.wipe (hv ln) e2
  obtain ⟨R3, s3, r3⟩ := R2.pushC (d := .list []) (o := .lst []) hL (.lst .nil)
  have lw : (L2.wipe σ (own.map (·.2))).length = X.N.length := by rw [wipe_length]; exact ln
  have st : Ste B om1 H1 (psh om2 ρ2.length L) (upd H1 L (.lst [])) := (Ste.sub x2).trans s3.ste
  have hτ : σ.length + (psh om2 ρ2.length L).τ.length = ρ2.length + 1 := by
    have := R2.len
    rw [List.length_append, wipe_length] at this
    show σ.length + (om2.τ ++ [some (V.ref L)]).length = _
    rw [List.length_append, List.length_singleton]; omega
  have n2 : ∀ v ∈ own.map (·.2), v < ρ2.length := fun v hv' => by
    have := R2.len
    rw [List.length_append, wipe_length] at this
    have := hv ln v hv'
    omega
  -- the loop's state
  refine ⟨fun i m H' => m = items.length - i ∧ i ≤ items.length ∧ ∃ ρi omi, Rel X.K B ρi omi (L2.wipe σ (own.map (·.2))) H' ∧ omi.τ = (psh om2 ρ2.length L).τ ∧ Ste B om1 H1 omi H' ∧ (∀ v ∈ own.map (·.2), ρi[v]? = some .un) ∧
    compL (own.map (·.2)) g ft fe ρ2.length (items.drop i) ρi = some ρ', ⟨items.length, by simp, Nat.zero_le _, _, _, R3, rfl, st, fun v hv' => ?_, by rw [List.drop_zero]; exact e3⟩, ?_⟩
  · show (ρ2 ++ [Sl.own (.list [])])[v]? = some .un
    rw [List.getElem?_append_left (n2 v hv')]; exact u2 v hv'
  rintro i m H' ⟨rfl, hi, ρi, omi, Ri, ti, si, ui, qi⟩
  by_cases hlt : i < items.length
  · refine .inr ?_
    rw [List.drop_eq_getElem_cons hlt] at qi
    simp only [compL] at qi
    obtain ⟨ρ3, g1, qi⟩ := Option.bind_eq_some_iff.mp qi
    obtain ⟨⟨c, ρ4⟩, g2, qi⟩ := Option.bind_eq_some_iff.mp qi
    obtain ⟨jg, jy⟩ := jt.go i items[i] omi H' Ri.exd si (List.getElem?_eq_getElem hlt)
    refine ⟨jg, fun H5 => ∃ ρ5 om5, Rel X.K B ρ5 om5 (L2.wipe σ (own.map (·.2))) H5 ∧ om5.τ = (psh om2 ρ2.length L).τ ∧ Ste B om1 H1 om5 H5 ∧ (∀ v ∈ own.map (·.2), ρ5[v]? = some .un) ∧
      compL (own.map (·.2)) g ft fe ρ2.length (items.drop (i + 1)) ρ5 = some ρ', fun H5 z => ⟨_, by omega, rfl, hlt, z⟩, fun v H3 y => ?_⟩
    obtain ⟨sm, rv⟩ := jy v H3 y
    refine ⟨_, _, _, g1, omi, Ri.same sm, rv, fun σ4 om4 t4 x4 l4 u4 R4 => ?_⟩
    have l4' : σ4.length = σ.length := by rw [l4, wipe_length]
    have w4 : L2.wipe σ4 (own.map (·.2)) = L2.wipe σ (own.map (·.2)) := by
      have ww : ∀ i, i ∉ own.map (·.2) → (L2.wipe σ4 (own.map (·.2)))[i]? = (L2.wipe σ (own.map (·.2)))[i]? := fun i hi => by
        rw [wipe_out' hi, u4 i (fun z => hi (hts i z))]
      have gn : ∀ {τ : L2.St} {vs : List Nat} {i : Nat}, i ∈ vs → i < τ.length → (L2.wipe τ vs)[i]? = some none := by
        intro τ vs
        induction vs with
        | nil => intro i h; exact (List.not_mem_nil h).elim
        | cons a vs ih =>
          intro i h hl
          unfold L2.wipe
          by_cases e : i = a
          · subst e; exact List.getElem?_set_self (by rw [wipe_length]; exact hl)
          · rw [List.getElem?_set_ne (Ne.symm e)]; exact ih ((List.mem_cons.mp h).resolve_left e) hl
      refine List.ext_getElem? fun i => ?_
      by_cases hi : i ∈ own.map (·.2)
      · have h1 := hv ln i hi
        rw [gn hi (by rw [l4']; exact h1), gn hi h1]
      · exact ww i hi
    refine ⟨w4, _, _, _, g2, om4, R4, fun H4 om5 s5 R5 => ?_⟩
    have hl2 : σ.length ≤ ρ2.length := by
      have := R2.len
      rw [List.length_append, wipe_length] at this
      omega
    have o4 : ∀ {ρ : Er} {om : Om} {H : Hp}, Rel X.K B ρ om σ4 H → (∃ t, om.τ = (psh om2 ρ2.length L).τ ++ t) → ∀ {d : Ev.D}, getO ρ2.length ρ = some d → om ρ2.length = some L ∧ RepO X.K H (Exs B om) d L := fun {ρ om H} R ⟨t, et⟩ {d} e => by
      have gx : (σ4 ++ om.τ)[ρ2.length]? = some (some (V.ref L)) := by
        have r3 : (L2.wipe σ (own.map (·.2)) ++ (psh om2 ρ2.length L).τ)[ρ2.length]? = some (some (V.ref L)) := r3
        rw [List.getElem?_append_right (by rw [wipe_length]; exact hl2), wipe_length] at r3
        rw [et, ← List.append_assoc]
        refine get_ext ?_
        rw [List.getElem?_append_right (by omega), l4']
        exact r3
      obtain ⟨a, e1, e2, e3⟩ := R.getO (v := V.ref L) gx e
      cases e1
      exact ⟨e2, e3⟩
    have back : ∀ {ρ5 ρ6 : Er} {om6 : Om} {H6 : Hp}, Rel X.K B ρ5 om6 σ4 H6 → (∃ t, om6.τ = (psh om2 ρ2.length L).τ ++ t) → Ste B om1 H1 om6 H6 → wipeR (own.map (·.2)) (ρ5.take (ρ2.length + 1)) = some ρ6 →
        ∃ om7, Rel X.K B ρ6 om7 (L2.wipe σ (own.map (·.2))) H6 ∧ om7.τ = (psh om2 ρ2.length L).τ ∧ Ste B om1 H1 om7 H6 ∧ ∀ v ∈ own.map (·.2), ρ6[v]? = some .un := fun {ρ5 ρ6 om6 H6} R6 ⟨t, et⟩ s6 ew => by
      obtain ⟨R7, x7⟩ := R6.cutT (n := ρ2.length + 1) et (by rw [l4']; exact hτ)
      obtain ⟨om8, t8, x8, R8, u8, _⟩ := R7.wipe (hv (l4'.trans ln)) ew
      rw [w4] at R8
      exact ⟨om8, R8, t8, s6.trans (.sub fun a z => x7 a (x8 a z)), u8⟩
    have x5 : ∃ t, om5.τ = (psh om2 ρ2.length L).τ ++ t := by
      obtain ⟨t, et⟩ := s5.ext
      exact ⟨t, by rw [et, t4, ti]⟩
    have z5 : Ste B om1 H1 om5 H4 := ((si.trans (.same sm)).trans (.sub x4)).trans s5.ste
    cases c with
    | false =>
      rw [if_neg Bool.false_ne_true] at qi
      refine iF ?_
      obtain ⟨ρ6, g3, qi⟩ := Option.bind_eq_some_iff.mp qi
      obtain ⟨om7, R7, t7, s7, u7⟩ := back R5 x5 z5 g3
      exact ⟨ρ6, om7, R7, t7, s7, u7, qi⟩
    | true =>
      rw [if_pos rfl] at qi
      refine iT ?_
      obtain ⟨⟨y, ρ6⟩, g3, qi⟩ := Option.bind_eq_some_iff.mp qi
      obtain ⟨d0, g4, qi⟩ := Option.bind_eq_some_iff.mp qi
      split at qi
      · rename_i acc
        split at qi
        · rename_i hf
          obtain ⟨ρ7, g5, qi⟩ := Option.bind_eq_some_iff.mp qi
          obtain ⟨ρ8, g6, qi⟩ := Option.bind_eq_some_iff.mp qi
          refine ⟨_, _, _, g3, om5, R5, fun v6 H6 om6 s6 R6 r6 => ?_⟩
          have x6 : ∃ t, om6.τ = (psh om2 ρ2.length L).τ ++ t := by
            obtain ⟨t, et⟩ := x5
            obtain ⟨t', et'⟩ := s6.ext
            exact ⟨t ++ t', by rw [et', et, List.append_assoc]⟩
          obtain ⟨oL, ro⟩ := o4 R6 x6 g4
          have ro2 := ro
          cases ro2 with
          | @lst _ xs _ h1 h2 =>
            refine ⟨xs, h1, by rw [← h2.length]; exact few_lt hf, ?_⟩
            have kk := kup (B := B) (H := H6) (o := HO.lst (xs ++ [v6])) oL
            obtain ⟨R7, s7⟩ := R6.setO oL g5 ro (.lst upd_same (Reps.mono kk (fun _ z => .inl z) _ _ (h2.append (.cons r6 .nil))))
            obtain ⟨om8, R8, t8, s8, u8⟩ := back R7 x6 ((z5.trans s6.ste).trans s7.ste) g6
            exact ⟨ρ8, om8, R8, t8, s8, u8, qi⟩
        · cases qi
      · cases qi
  · have e : i = items.length := by omega
    subst e
    rw [List.drop_length] at qi
    cases qi
    refine .inl ⟨jt.stop omi H' si, k (.ref L) H' omi ⟨(s1.ste.trans si).keep, (s1.ste.trans si).grow, ?_⟩ (Ri.unwipe ui) ?_⟩
    · obtain ⟨t, et⟩ := s1.ext
      exact ⟨t ++ [some (V.ref L)], by rw [ti]; show om2.τ ++ _ = _; rw [t2, et, List.append_assoc]⟩
    · show (σ ++ omi.τ)[ρ2.length]? = some (some (V.ref L))
      have r3 : (L2.wipe σ (own.map (·.2)) ++ (psh om2 ρ2.length L).τ)[ρ2.length]? = some (some (V.ref L)) := r3
      have ge := R2.len
      rw [List.length_append, wipe_length] at ge
      rw [List.getElem?_append_right (by rw [wipe_length]; omega), wipe_length] at r3
      rw [ti, List.getElem?_append_right (by omega)]
      exact r3
theorem lc_start {ρ ρ' : Er} {h : Hd} (q : fLc (own.map (·.2)) fi g ft fe ρ = some (h, ρ')) : ∃ items ρ1 ρ2, fi ρ = some (items, ρ1) ∧ wipeR (own.map (·.2)) ρ1 = some ρ2 ∧ compL (own.map (·.2)) g ft fe ρ2.length items (ρ2 ++ [.own (.list [])]) = some ρ' ∧ h = .l ρ2.length := by
  unfold fLc at q
  obtain ⟨⟨items, ρ1⟩, e1, q⟩ := Option.bind_eq_some_iff.mp q
  obtain ⟨ρ2, e2, q⟩ := Option.bind_eq_some_iff.mp q
  obtain ⟨ρ3, e3, q⟩ := Option.map_eq_some_iff.mp q
  cases q
  exact ⟨items, ρ1, ρ2, e1, e2, e3, rfl⟩
theorem ev_lc (hc : X.calm = true) (hN : X.N.Nodup) (hi : EI X B tg iter fi) (ok : BlkOk X.N X.env.scope scope own) (hts : ∀ t ∈ ts, t ∈ own.map (·.2))
    (hg : ∀ (s : Shared) (H : Hp) (C : Addr) (cl : List (Str × Addr)) (fp : List Addr), EG (X.blk s H scope (compEnvC scope cl C X.env) fp) B tg g ts)
    (ht : ∀ (s : Shared) (H : Hp) (C : Addr) (cl : List (Str × Addr)) (fp : List Addr), ETs (X.blk s H scope (compEnvC scope cl C X.env) fp) B ifs ft)
    (he : ∀ (s : Shared) (H : Hp) (C : Addr) (cl : List (Str × Addr)) (fp : List Addr), EV (X.blk s H scope (compEnvC scope cl C X.env) fp) B elt fe)
    (hs : ∀ x, foldedSetIterable iter X.env x = pure x) : EV X B (.ListComp elt [⟨tg, iter, ifs, 0⟩] scope pos) (fLc (own.map (·.2)) fi g ft fe) := fun ρ h ρ' q => by
  obtain ⟨items, ρ1, ρ2, e1, e2, e3, rfl⟩ := lc_start q
  refine pe_impL (pe_lc hc hN (hi _ _ _ e1) ok (fun s H C cl fp => ⟨fun pins s σ H v u Q I r ⟨d, ρ, ρ', e, z⟩ => ((hg _ _ _ _ _).pg d ρ ρ' e).run pins s σ H v u Q I r z⟩)
    (fun s H C cl fp => ⟨fun pins s σ H Q I ⟨ρ, b, ρ', e, z⟩ => (ht _ _ _ _ _ ρ b ρ' e).run pins s σ H Q I z⟩) (fun s H C cl fp => ⟨fun pins s σ H Q I ⟨ρ, d, ρ', e, z⟩ => ((he _ _ _ _ _).fz e).run pins s σ H Q I z⟩) hs) fun σ H Q ln h => lc_read hts ok ln e2 e3 h
/-- name = [..] on one line -/
theorem es_setLc {i n : Nat} {y : Str} {py spos : Pos} (hc : X.calm = true) (hN : X.N.Nodup) (hn : X.N.length = n) (hy : X.N[i]? = some y) (hyl : X.env.scope.names.lookup y = some .local)
    (hsw : swapsWith (.ListComp elt [⟨tg, iter, ifs, 0⟩] scope pos) (some (.Name y py)) spos.line X.env = pure true) (hi : EI X B tg iter fi) (ok : BlkOk X.N X.env.scope scope own) (hts : ∀ t ∈ ts, t ∈ own.map (·.2))
    (hg : ∀ (s : Shared) (H : Hp) (C : Addr) (cl : List (Str × Addr)) (fp : List Addr), EG (X.blk s H scope (compEnvC scope cl C X.env) fp) B tg g ts)
    (ht : ∀ (s : Shared) (H : Hp) (C : Addr) (cl : List (Str × Addr)) (fp : List Addr), ETs (X.blk s H scope (compEnvC scope cl C X.env) fp) B ifs ft)
    (he : ∀ (s : Shared) (H : Hp) (C : Addr) (cl : List (Str × Addr)) (fp : List Addr), EV (X.blk s H scope (compEnvC scope cl C X.env) fp) B elt fe)
    (hs : ∀ x, foldedSetIterable iter X.env x = pure x) : ES X B (.Assign [.Name y py] (.ListComp elt [⟨tg, iter, ifs, 0⟩] scope pos) spos) (sSet n i (fLc (own.map (·.2)) fi g ft fe)) := fun ρ r q => by
  unfold sSet at q
  obtain ⟨⟨h, ρ'⟩, e0, q⟩ := Option.bind_eq_some_iff.mp q
  obtain ⟨ρ4, e4, q⟩ := Option.map_eq_some_iff.mp q
  cases q
  obtain ⟨items, ρ1, ρ2, e1, e2, e3, rfl⟩ := lc_start e0
  refine ps_impL (ps_setLc hc hN hy hyl hsw (hi _ _ _ e1) ok (fun s H C cl fp => ⟨fun pins s σ H v u Q I r ⟨d, ρ, ρ', e, z⟩ => ((hg _ _ _ _ _).pg d ρ ρ' e).run pins s σ H v u Q I r z⟩)
    (fun s H C cl fp => ⟨fun pins s σ H Q I ⟨ρ, b, ρ', e, z⟩ => (ht _ _ _ _ _ ρ b ρ' e).run pins s σ H Q I z⟩) (fun s H C cl fp => ⟨fun pins s σ H Q I ⟨ρ, d, ρ', e, z⟩ => ((he _ _ _ _ _).fz e).run pins s σ H Q I z⟩) hs) fun D σ H ln ⟨om, R, t, k⟩ => lc_read hts ok ln e2 e3 ⟨om, R, fun v H' om' s R' r => ?_⟩
  obtain ⟨om2, t2, x2, R2⟩ := R'.store (n := n) (ln.trans hn) (by rw [← hn]; exact (List.getElem?_eq_some_iff.mp hy).1) r e4
  obtain ⟨R3, x3⟩ := R2.cut (n := n) (by rw [List.length_set]; exact ln.trans hn)
  exact k _ H' _ (s.less t rfl fun a z => x2 a (x3 a z)) R3 rfl
end
end Ev

set_option maxRecDepth 100000
set_option maxHeartbeats 4000000
namespace Ev
open PySem PySem.Spec PyProof.Rows L2

/-! ### the frame of a generator expression -/
abbrev gx (X : Cx) (Aw : Around) (s : Shared) (H : Hp) (cenv : Env) (fp : List Addr) : Cx :=
  { X with A := Aw.deeper cenv, s_0 := s, H_0 := H, env := cenv, outer := X.stack, stack := cenv :: X.stack, ex := fp, fn := fun _ => false, calm := true, pn := [], xe := fun _ _ => False }
theorem over_gen {A : Around} {elt : Expr} {gs : List Comprehension} {scope : Scope} {pos : Pos} {it acc : Value} {env : Env} : A.over (.compLoop (.GeneratorExp elt gs scope pos) 0 it acc env) [] = A.deeper env := by
  first
    | rfl
    | (obtain ⟨hd, d, fr, gs, u⟩ := A; simp [Around.over, Around.deeper, marksOver, frameCount, unitsOf, envsOf, guardsOf, pushEnvs, pushGuards, Code.envs, Code.env?, Code.isFrame, Code.guards, Code.isGuard, Code.weight, Code.frames, Code.isCreation, Code.isCaller, Code.cUnits])
theorem over_gen0 {A : Around} {elt : Expr} {gs : List Comprehension} {scope : Scope} {pos : Pos} {it acc : Value} {env : Env} : A.over (.compStart (.GeneratorExp elt gs scope pos) 0 it acc env) [] = A.deeper env := by
  first
    | rfl
    | (obtain ⟨hd, d, fr, gs, u⟩ := A; simp [Around.over, Around.deeper, marksOver, frameCount, unitsOf, envsOf, guardsOf, pushEnvs, pushGuards, Code.envs, Code.env?, Code.isFrame, Code.guards, Code.isGuard, Code.weight, Code.frames, Code.isCreation, Code.isCaller, Code.cUnits])
section
variable {X : Cx} {pins : List (Addr × Obj)} {σ : L2.St} {H : Hp} {s : Shared}
theorem gen_start {scope : Scope} {own : List (Str × Nat)} {fp : List Addr} {h' : Heap} {m0 : Str → Option Value} {code : Value} {Aw : Around} (I : Inv X pins σ H s) (ok : BlkOk X.N X.env.scope scope own) (cell : ∀ y ∈ scope.names, y.2 ≠ .cell) (hN : X.N.Nodup)
    (hfp : ∀ b ∈ fp, FpOk X pins H b ∧ b < s.heap.objs.size) (hn' : h'.Ns s.heap.objs.size m0) (kp : ∀ b o, s.heap.get? b = some o → h'.get? b = some o) (hA : Aw.handled = none) (hfr : Aw.frames = some X.stack) :
    Inv (gx X Aw s H (genEnv scope (cloFrom X.env.cells scope.names []) s.heap.objs.size code builtinsNs X.env) fp) [] (wipe σ (own.map (·.2))) H { s with heap := h' } := by
  have hfree : ∀ y ∈ scope.names, y.2 = .free → ∃ c, X.env.cells.lookup y.1 = some c := fun y hy e => by
    rcases ok.free y hy e with k | k
    · exact I.ok.has _ (.inl k)
    · exact I.ok.has _ (.inr k)
  have cm : ∀ {y c}, (cloFrom X.env.cells scope.names []).lookup y = some c → X.env.cells.lookup y = some c ∧ c < s.heap.objs.size := fun {y c} e => by
    rcases cloFrom_mem (PySem.mem_of_lookup e) with hm | ⟨h1, rfl⟩
    · cases hm
    · obtain ⟨c, hc⟩ := hfree _ h1 rfl
      rw [hc]
      obtain ⟨w, z⟩ := I.cell _ _ hc
      exact ⟨rfl, z.lt⟩
  have look : ∀ {y}, scope.names.lookup y = some .free → ∃ c, (cloFrom X.env.cells scope.names []).lookup y = some c ∧ X.env.cells.lookup y = some c := fun {y} hl => by
    obtain ⟨c', e'⟩ := mem_lookup (cloFrom_has (cells := X.env.cells) (acc := []) (PySem.mem_of_lookup hl))
    exact ⟨c', e', (cm e').1⟩
  generalize hcl : cloFrom X.env.cells scope.names [] = cl at cm look
  have okB : (gx X Aw s H (genEnv scope cl s.heap.objs.size code builtinsNs X.env) fp).Ok := by
    refine ⟨I.ok.mod, ok.kind, I.ok.glob, rfl, Nat.le_refl _,
      fun y z c e1 e2 => I.ok.inj y z c (cm e1).1 (cm e2).1, fun y hy => ?_, fun y c z e => (nomatch (show false = true from z)), fun _ => hA, Around.frames_deeper hfr, .inr ⟨rfl, rfl⟩, fun b hb => ⟨Nat.ne_of_lt (hfp b hb).2, fun y c e z => ?_⟩, I.bs, Nat.le_trans I.ok.bsz I.sz, fun b o e hb => ?_, fun b hb z => ?_, I.stack, I.stkFree⟩
    · have hy : scope.names.lookup y = some .cell ∨ scope.names.lookup y = some .free := hy
      rcases hy with hy | hy
      · exact absurd rfl (cell _ (PySem.mem_of_lookup hy))
      · obtain ⟨c, h1, _⟩ := look hy
        exact ⟨c, h1⟩
    · exact (hfp b hb).1.2.2.2.2.1 y c (cm e).1 z
    · rcases (hfp b hb).1.2.2.2.1 with z | z
      · exact I.ok.noex b o e z
      · exact absurd (Nat.lt_of_lt_of_le (Heap.lt_size e) (Nat.le_trans I.ok.bsz z)) (Nat.lt_irrefl _)
    · rcases List.mem_cons.mp (I.stkSub b z) with z | z
      · exact (hfp b hb).1.2.1 z
      · exact (hfp b hb).1.2.2.1 z
  refine ⟨okB, rfl, I.bare, Un.kept kp, ⟨m0, hn', fun i y av e1 e2 e3 => ?_⟩, fun y c e => ?_, I.hok.fresh (Nat.le_refl _), fun y c e => I.freeC y c (cm e).1, fun p hp => absurd (show p ∈ ([] : List (Addr × Obj)) ++ [] from hp) (by simp), I.hok.kept kp, by rw [wipe_length]; exact I.len⟩
  · obtain ⟨e2, hne⟩ := wipe_some e2
    have e3 : scope.names.lookup y = some .local ∨ scope.names.lookup y = some .cell ∨ scope.names.lookup y = some .free := e3
    have fr : scope.names.lookup y = some .free := by
      rcases e3 with e3 | e3 | e3
      · exfalso
        rcases ok.own _ (PySem.mem_of_lookup e3) (.inl rfl) with e' | e'
        · obtain ⟨p, hp, hpy⟩ := List.mem_map.mp e'
          have e4 := ok.ix p hp
          have : p.1 = y := hpy
          rw [this] at e4
          exact hne (List.mem_map.mpr ⟨p, hp, nodup_ix hN e4 e1⟩)
        · exact e' (List.mem_of_getElem? e1)
      · exact absurd rfl (cell _ (PySem.mem_of_lookup e3))
      · exact e3
    obtain ⟨m, hn, hl⟩ := I.loc
    have hvis : Vis X.env.scope y := (ok.free _ (PySem.mem_of_lookup fr) rfl).elim (fun k => .inr (.inl k)) (fun k => .inr (.inr k))
    obtain ⟨w, r, q⟩ := hl i y av e1 e2 hvis
    refine ⟨w, r, .inr ⟨.inr fr, ?_⟩⟩
    obtain ⟨c, h1, h2⟩ := look fr
    rcases q with ⟨k, _⟩ | ⟨_, c', e', z⟩
    · have k : X.env.scope.names.lookup y = some .local := k
      rcases ok.free _ (PySem.mem_of_lookup fr) rfl with k' | k' <;> rw [show X.env.scope.names.lookup y = _ from k'] at k <;> cases k
    · rw [h2] at e'; cases e'
      exact ⟨c, h1, z.keeps kp⟩
  · obtain ⟨w, z⟩ := I.cell y c (cm e).1
    exact ⟨w, z.keeps kp⟩
end

/-! ### what a generator expression hands out -/
def genN (vs : List Nat) (fg : FG) (ft : FT) (fe : FE) (m : Nat) : List D → Er → Option (Option (D × List D) × Er)
  | [], ρ => some (none, ρ)
  | d :: r, ρ => (fg d ρ).bind fun ρ1 => (ft ρ1).bind fun p => if p.1 = true then (fz fe p.2).bind fun q => (wipeR vs (q.2.take m)).map fun ρ4 => (some (q.1, r), ρ4)
    else (wipeR vs (p.2.take m)).bind fun ρ4 => genN vs fg ft fe m r ρ4
/-- the turns that are asked for; full: to the end -/
inductive Tr (G : List D → Er → Option (Option (D × List D) × Er)) : List (D × List D × Er) → Bool → List D → Er → Er → Prop
  | done {rest : List D} {ρ ρE : Er} : G rest ρ = some (none, ρE) → Tr G [] true rest ρ ρE
  | stop {rest r : List D} {ρ ρ' : Er} {y : D} : G rest ρ = some (some (y, r), ρ') → Tr G [(y, r, ρ')] false rest ρ ρ'
  | more {rest r : List D} {ρ ρ' ρE : Er} {y : D} {l : List (D × List D × Er)} {f : Bool} : G rest ρ = some (some (y, r), ρ') → Tr G l f r ρ' ρE → Tr G ((y, r, ρ') :: l) f rest ρ ρE
theorem Tr.skip {G : List D → Er → Option (Option (D × List D) × Er)} {l : List (D × List D × Er)} {f : Bool} {r r' : List D} {ρ ρ' ρE : Er} (e : G r ρ = G r' ρ') (t : Tr G l f r ρ ρE) : Tr G l f r' ρ' ρE := by
  cases t with
  | done h => exact .done (by rw [← e]; exact h)
  | stop h => exact .stop (by rw [← e]; exact h)
  | more h t => exact .more (by rw [← e]; exact h) t
/-- the consumer did nothing but at S -/
structure Slp (S : Option Addr) (s s' : Shared) : Prop where
  os : s'.os = s.os
  bare : AllBare s'.gens
  keep : ∀ b o, S ≠ some b → s.heap.get? b = some o → s'.heap.get? b = some o
  own : ∀ b o, S = some b → s.heap.get? b = some o → ∃ o', s'.heap.get? b = some o' ∧ ∀ v, o'.data ≠ .cell v
/-- what is the same through the whole walk -/
structure GP where
  Xg : Cx
  B : Bx
  a : Addr
  go : Obj
  S : Option Addr
  fp : List Addr
  vs : List Nat
  σw : L2.St
  τ0 : List (Option V)
  om1 : Om
  H1 : Hp
structure GP.Ok (G : GP) : Prop where
  apart : ∀ b, G.S = some b → G.Xg.s_0.heap.objs.size ≤ b ∧ b ≠ G.Xg.env.locals ∧ (∀ x c, G.Xg.env.cells.lookup x = some c → c ≠ b) ∧ b ≠ G.a ∧ b ∉ G.fp
  pn : G.Xg.pn = []
  calm : G.Xg.calm = true
  xe : G.Xg.xe = fun _ _ => False
  afp : G.a ∉ G.fp
  ex : G.Xg.ex = G.fp
/-- where the generator sleeps -/
def GP.At (G : GP) (ρ : Er) (σ : L2.St) (om : Om) (H' : Hp) (s : Shared) : Prop := ∃ cpl, Inv G.Xg ((G.a, G.go) :: cpl) σ H' s ∧ (∀ p ∈ cpl, G.S = some p.1) ∧ (∀ b, G.S = some b → ∃ o, (b, o) ∈ cpl) ∧ Rel G.Xg.K G.B ρ om σ H' ∧ Ste G.B G.om1 G.H1 om H' ∧ ∀ b ∈ G.fp, H' b = none
def GP.Core (G : GP) (ρ : Er) (s : Shared) : Prop := ∃ om H', G.At ρ G.σw om H' s ∧ om.τ = G.τ0 ∧ ∀ v ∈ G.vs, ρ[v]? = some .un
theorem GP.At.slp {G : GP} {ρ : Er} {σ : L2.St} {om : Om} {H' : Hp} {s s' : Shared} (ok : G.Ok) (h : G.At ρ σ om H' s) (z : Slp G.S s s') : G.At ρ σ om H' s' := by
  obtain ⟨cpl, I, h1, h2, R, st, nf⟩ := h
  have pinS : ∀ b, G.S = some b → H' b = none ∧ b ∉ G.Xg.fs ∧ ∃ o, s.heap.get? b = some o := fun b e => by
    obtain ⟨o, ho⟩ := h2 b e
    obtain ⟨e1, n, _, nfs, _⟩ := I.pin (b, o) (List.mem_append_right _ (List.mem_cons_of_mem _ ho))
    exact ⟨n, nfs, o, e1⟩
  have I0 : Inv G.Xg [(G.a, G.go)] σ H' s := I.pins_of fun p hp => I.pin p (List.mem_append_right _ (by rw [List.mem_singleton.mp hp]; exact List.mem_cons_self))
  have kk : ∀ b o, b ∉ G.S.toList → s.heap.get? b = some o → s'.heap.get? b = some o := fun b o n e => z.keep b o (fun q => n (by rw [q]; exact List.mem_singleton.mpr rfl)) e
  have mS : ∀ b, b ∈ G.S.toList → G.S = some b := fun b hb => by
    cases e : G.S with
    | none => rw [e] at hb; cases hb
    | some c => rw [e] at hb; rw [List.mem_singleton.mp hb]
  have nt : ∀ b u, H' b = some u → b ∉ G.S.toList := fun b u e hb => by
    rw [(pinS b (mS b hb)).1] at e; cases e
  obtain ⟨hh, g, d, t, o⟩ := s'
  have ho : o = s.os := z.os
  subst ho
  have J : Inv G.Xg [(G.a, G.go)] σ H' { s with heap := hh, gens := g, drawn := d, toks := t } := by
    refine I0.step (g' := g) (t' := t) (d' := d) (ch := G.S.toList) (fun b hb => ?_)
      (fun b ob _ _ hc q _ => kk b ob hc q) (fun b ob _ _ hc q _ => ⟨ob.slots, kk b ob hc q⟩) (fun _ _ _ _ n => n) (fun b ob hc q => ⟨ob, kk b ob hc q⟩)
      (fun _ _ q => q) (fun _ _ _ q => q) (fun b ps q => ⟨#[], by rw [q]; simp⟩) (fun m hm => ?_) (fun b u q => ?_) z.bare
    · obtain ⟨y1, y2, y3, y4, _⟩ := ok.apart b (mS b hb)
      refine ⟨.inr y1, y2, y3, fun p hp => ?_⟩
      rw [ok.pn, List.nil_append] at hp
      rw [List.mem_singleton.mp hp]
      exact Ne.symm y4
    · obtain ⟨ob, es, ep, ho, r⟩ := hm
      exact ⟨ob, es, ep, kk _ ob (fun hb => (ok.apart _ (mS _ hb)).2.1 rfl) ho, r⟩
    · refine (I0.hok b u q).stay (fun c v hc y => kk c v ?_ y) (fun _ y => y) fun _ _ y => y
      rcases hc with y | y
      · rw [y]; exact nt b u q
      · exact nt c _ y
  refine ⟨G.S.toList.filterMap fun b => (hh.get? b).map fun o => (b, o), J.pins_of fun p hp => ?_, fun p hp => ?_, fun b e => ?_, R, st, nf⟩
  · rcases List.mem_cons.mp hp with hp | hp
    · exact J.pin p (List.mem_append_right _ (List.mem_singleton.mpr hp))
    · obtain ⟨b, hb, eb⟩ := List.mem_filterMap.mp hp
      obtain ⟨ob, e1, e2⟩ := Option.map_eq_some_iff.mp eb
      subst e2
      have eS := mS b hb
      obtain ⟨n, nfs, o1, eo⟩ := pinS b eS
      obtain ⟨o', e3, nc⟩ := z.own b o1 eS eo
      have e3 : hh.get? b = some o' := e3
      rw [e1] at e3; cases e3
      exact ⟨e1, n, (ok.apart b eS).2.1, nfs, nc⟩
  · obtain ⟨b, hb, eb⟩ := List.mem_filterMap.mp hp
    obtain ⟨ob, e1, e2⟩ := Option.map_eq_some_iff.mp eb
    subst e2
    exact mS b hb
  · obtain ⟨n, nfs, o1, eo⟩ := pinS b e
    obtain ⟨o', e3, nc⟩ := z.own b o1 e eo
    have e3 : hh.get? b = some o' := e3
    exact ⟨o', List.mem_filterMap.mpr ⟨b, by rw [e]; exact List.mem_singleton.mpr rfl, by rw [e3]; rfl⟩⟩
/-- an item is handed out -/
def GP.Y (G : GP) (tn : Nat → Heap → Prop) (items : List D) (L : List (D × List D × Er)) (full : Bool) : Protocol := fun n s₀ v s kap =>
  ∃ y r ρ vv om H', L.reverse[n]? = some (y, r, ρ) ∧ (∀ b o, G.S = some b → s₀.heap.get? b = some o → s.heap.get? b = some o) ∧ G.At ρ G.σw om H' s ∧ om.τ = G.τ0 ∧ (∀ v ∈ G.vs, ρ[v]? = some .un) ∧ RelV vv v ∧ Rep G.Xg.K H' (Exs G.B om) y vv ∧ ((full = true ∨ 0 < n) → ∀ s', Slp G.S s s' → kap (.send .none) s')
def GP.R (G : GP) (ρE : Er) : GenEnd := fun n _ r s => r = .ok .next ∧ (n = 0 ∧ G.Core ρE s)
section
variable {G : GP} {elt tg iter : Expr} {ifs : List Expr} {scope : Scope} {pos : Pos} {g : FG} {ts : List Nat} {ft : FT} {fe : FE} {J : It} {it : Addr} {tn : Nat → Heap → Prop} {items : List D} {L : List (D × List D × Er)} {full : Bool} {ρE : Er} {m : Nat} {Aw : Around} {acc : Value}
theorem last_at {α : Type} {pre l : List α} {x : α} : (pre ++ x :: l).reverse[l.length]? = some x := by
  rw [List.reverse_append, List.reverse_cons, List.append_assoc, List.getElem?_append_right (by rw [List.length_reverse]; exact Nat.le_refl _), List.length_reverse, Nat.sub_self]
  rfl
theorem thnG {α : Type} {t : Sem α} {Q Q' : α → Shared → Prop} {M : Model} {A : Around} {E E' : Value → Shared → Prop} {s : Shared} (hE : E = fun _ _ => False) (h : wpAny M A t Q E s) (hQ : ∀ a s, Q a s → Q' a s) : wpAny M A t Q' E' s := wpAny_mono h hQ fun _ _ z => by rw [hE] at z; exact z.elim
theorem seg_loop (ok : G.Ok) (hov : ∀ acc, Aw.over (.compLoop (.GeneratorExp elt [⟨tg, iter, ifs, 0⟩] scope pos) 0 (.ref it) acc G.Xg.env) [] = G.Xg.A) (hco : G.Xg.env.scope.isCoroutine = false) (T : Turn G.Xg.prog G.Xg.w G.Xg.K tg J G.fp it tn)
    (jt : ItOk G.Xg.K G.B J items G.om1 G.H1) (hg : EG G.Xg G.B tg g ts) (ht : ETs G.Xg G.B ifs ft) (he : EV G.Xg G.B elt fe) (hts : ∀ t ∈ ts, t ∈ G.vs) (hw : L2.wipe G.σw G.vs = G.σw) (hv : ∀ v ∈ G.vs, v < G.σw.length) (hm : G.σw.length + G.τ0.length = m) :
    ∀ (k i : Nat) (ρ : Er) (s₀ s : Shared) (l : List (D × List D × Er)), items.length - i = k → i ≤ items.length → G.Core ρ s → tn i s.heap → (∀ b o, G.S = some b → s₀.heap.get? b = some o → s.heap.get? b = some o) → Tr (genN G.vs g ft fe m) l full (items.drop i) ρ ρE → (∃ pre, L = pre ++ l) →
      Seg (model G.Xg.prog G.Xg.w) Aw (G.R ρE) (G.Y tn items L full) l.length s₀ (.compLoop (.GeneratorExp elt [⟨tg, iter, ifs, 0⟩] scope pos) 0 (.ref it) .none G.Xg.env)
        ((model G.Xg.prog G.Xg.w).den (.compLoop (.GeneratorExp elt [⟨tg, iter, ifs, 0⟩] scope pos) 0 (.ref it) .none G.Xg.env)) [] s := by
  have fpok : ∀ {σ : L2.St} {H' : Hp} {s : Shared} {cpl : List (Addr × Obj)}, Inv G.Xg ((G.a, G.go) :: cpl) σ H' s → (∀ p ∈ cpl, G.S = some p.1) → (∀ b ∈ G.fp, H' b = none) → ∀ b ∈ G.fp, FpOk G.Xg ((G.a, G.go) :: cpl) H' b := fun {σ H' s cpl} I h1 nf b hb => by
    have hb' : b ∈ G.Xg.ex := by rw [ok.ex]; exact hb
    refine ⟨nf b hb, (I.ok.exf b hb').1, I.ok.exfs b hb', .inl hb', fun x c e => (I.ok.exf b hb').2 x c e, fun p hp => ?_⟩
    rw [ok.pn, List.nil_append] at hp
    rcases List.mem_cons.mp hp with hp | hp
    · rw [hp]; exact fun e => ok.afp (by rw [show G.a = b from e]; exact hb)
    · exact fun e => (ok.apart p.1 (h1 p hp)).2.2.2.2 (e ▸ hb)
  intro k
  induction k with
  | zero =>
    intro i ρ s₀ s l hk hi core st hs0 tr hL
    have hin : i = items.length := by omega
    subst hin
    rw [List.drop_length] at tr
    obtain ⟨om, H', ⟨cpl, I, h1, h2, R, sti, nf⟩, tτ, un⟩ := core
    show Seg _ Aw _ _ _ s₀ _ ((compTurn (.GeneratorExp elt [⟨tg, iter, ifs, 0⟩] scope pos) 0 (.ref it) .none G.Xg.env).onRaise (leaving G.Xg.env)) [] s
    rw [compTurn_gen, Sem.onRaise_eq_wrap]
    refine seg_bind_wrap (wpAny_standAt ?_)
    refine seg_bind_wrap ?_
    rw [hov]
    refine wpAny_mono (T.done G.Xg rfl rfl rfl ok.calm items.length _ s G.σw H' (fun _ _ => False) I (fpok I h1 nf) st (jt.stop om H' sti)) (fun r s' ⟨hr, I'⟩ => ?_) fun _ _ z => z.elim
    subst hr
    cases tr with
    | done e =>
      cases e
      exact seg_end (.ok .next) ⟨rfl, rfl, om, H', ⟨cpl, I', h1, h2, R, sti, nf⟩, tτ, un⟩
    | stop e => cases e
    | more e _ => cases e
  | succ k ih =>
    intro i ρ s₀ s l hk hi core st hs0 tr hL
    have hlt : i < items.length := by omega
    obtain ⟨om, H', ⟨cpl, I, h1, h2, R, sti, nf⟩, tτ, un⟩ := core
    show Seg _ Aw _ _ _ s₀ _ ((compTurn (.GeneratorExp elt [⟨tg, iter, ifs, 0⟩] scope pos) 0 (.ref it) .none G.Xg.env).onRaise (leaving G.Xg.env)) [] s
    rw [compTurn_gen, Sem.onRaise_eq_wrap]
    refine seg_bind_wrap (wpAny_standAt ?_)
    refine seg_bind_wrap ?_
    rw [hov]
    obtain ⟨jg, jy⟩ := jt.go i items[i] om H' R.exd sti (List.getElem?_eq_getElem hlt)
    refine wpAny_mono (T.item G.Xg rfl rfl rfl ok.calm i _ s G.σw H' (fun _ _ => False) I (fpok I h1 nf) st jg) (fun r s1 ⟨u, hr, h3⟩ => ?_) fun _ _ z => z.elim
    subst hr
    refine seg_bind_wrap ?_
    rw [hov]
    refine wpAny_mono h3 (fun _ s2 ⟨x, H2, I2, r2, y2, st2, nf2⟩ => ?_) fun _ _ z => z.elim
    obtain ⟨sm, rv⟩ := jy x H2 y2
    have I2' := I2.pinned (fpok I2 h1 nf2) (T.obj _ _ st2)
    -- what the turn does, by the reading
    rw [List.drop_eq_getElem_cons hlt] at tr
    have gE : ∀ z, genN G.vs g ft fe m (items[i] :: items.drop (i + 1)) ρ = some z → ∃ ρ1 c ρ2, g items[i] ρ = some ρ1 ∧ ft ρ1 = some (c, ρ2) ∧ ((c = true ∧ ∃ y ρ3 ρ4, fz fe ρ2 = some (y, ρ3) ∧ wipeR G.vs (ρ3.take m) = some ρ4 ∧ z = (some (y, items.drop (i + 1)), ρ4)) ∨
        (c = false ∧ ∃ ρ4, wipeR G.vs (ρ2.take m) = some ρ4 ∧ genN G.vs g ft fe m (items[i] :: items.drop (i + 1)) ρ = genN G.vs g ft fe m (items.drop (i + 1)) ρ4)) := fun z e => by
      have e0 := e
      simp only [genN] at e
      obtain ⟨ρ1, a1, e⟩ := Option.bind_eq_some_iff.mp e
      obtain ⟨⟨c, ρ2⟩, a2, e⟩ := Option.bind_eq_some_iff.mp e
      refine ⟨ρ1, c, ρ2, a1, a2, ?_⟩
      cases c with
      | true =>
        rw [if_pos rfl] at e
        obtain ⟨⟨y, ρ3⟩, a3, e⟩ := Option.bind_eq_some_iff.mp e
        obtain ⟨ρ4, a4, e⟩ := Option.map_eq_some_iff.mp e
        exact .inl ⟨rfl, y, ρ3, ρ4, a3, a4, e.symm⟩
      | false =>
        rw [if_neg Bool.false_ne_true] at e
        obtain ⟨ρ4, a4, e⟩ := Option.bind_eq_some_iff.mp e
        refine .inr ⟨rfl, ρ4, a4, ?_⟩
        rw [e0]; exact e.symm
    obtain ⟨z0, ez⟩ : ∃ z, genN G.vs g ft fe m (items[i] :: items.drop (i + 1)) ρ = some z := by
      cases tr with
      | done e => exact ⟨_, e⟩
      | stop e => exact ⟨_, e⟩
      | more e _ => exact ⟨_, e⟩
    obtain ⟨ρ1, c, ρ2, a1, a2, br⟩ := gE z0 ez
    refine seg_bind_wrap ?_
    rw [hov]
    refine thnG ok.xe ((hg.pg _ _ _ a1).run _ s2 G.σw H2 x u (fun σ' H4 => σ'.length = G.σw.length ∧ (∀ i, i ∉ ts → σ'[i]? = G.σw[i]?) ∧ H4 = H2 ∧ ∃ om4, om4.τ = om.τ ∧ (∀ a, Exs G.B om4 a → Exs G.B om a) ∧ Rel G.Xg.K G.B ρ1 om4 σ' H4) I2' r2
      ⟨om, R.same sm, rv, fun σ' om' t x' l u R' => ⟨l, u, rfl, om', t, x', R'⟩⟩) fun _ s3 ⟨σ4, H4, I4, l4, u4, eH, om4, t4, x4, R4⟩ => ?_
    subst eH
    have st4 : Ste G.B G.om1 G.H1 om4 H4 := (sti.trans (.same sm)).trans (.sub x4)
    refine seg_bind_wrap ?_
    rw [hov]
    refine thnG ok.xe ((ht _ _ _ a2).run _ s3 σ4 H4 (fun b H5 => b = c ∧ ∃ om5, Stp G.B om4 H4 om5 H5 ∧ Rel G.Xg.K G.B ρ2 om5 σ4 H5) I4 ⟨om4, R4, fun H5 om5 s5 R5 => ⟨rfl, om5, s5, R5⟩⟩) fun b s5 ⟨H5, I5, eb, om5, s5', R5⟩ => ?_
    subst eb
    have w4 : L2.wipe σ4 G.vs = G.σw := by
      rw [← hw]
      have gn : ∀ {τ : L2.St} {vs : List Nat} {i : Nat}, i ∈ vs → i < τ.length → (L2.wipe τ vs)[i]? = some none := by
        intro τ vs
        induction vs with
        | nil => intro i h; exact (List.not_mem_nil h).elim
        | cons a vs ih =>
          intro i h hl
          unfold L2.wipe
          by_cases e : i = a
          · subst e; exact List.getElem?_set_self (by rw [wipe_length]; exact hl)
          · rw [List.getElem?_set_ne (Ne.symm e)]; exact ih ((List.mem_cons.mp h).resolve_left e) hl
      refine List.ext_getElem? fun i => ?_
      by_cases hi : i ∈ G.vs
      · have h1 := hv i hi
        rw [gn hi (by rw [l4]; exact h1), gn hi h1]
      · rw [wipe_out' hi, wipe_out' hi, u4 i (fun z => hi (hts i z))]
    -- asleep again, or on to the next turn
    have back : ∀ {ρ5 ρ6 : Er} {om6 : Om} {H6 : Hp} {s6 : Shared}, Inv G.Xg (((G.a, G.go) :: cpl) ++ pinsAt G.fp s2.heap) σ4 H6 s6 → Rel G.Xg.K G.B ρ5 om6 σ4 H6 → (∃ t, om6.τ = G.τ0 ++ t) → Ste G.B G.om1 G.H1 om6 H6 → wipeR G.vs (ρ5.take m) = some ρ6 →
        ∃ om7, G.At ρ6 G.σw om7 H6 s6 ∧ om7.τ = G.τ0 ∧ (∀ v ∈ G.vs, ρ6[v]? = some .un) ∧ tn (i + 1) s6.heap ∧ ∀ a, Exs G.B om7 a → Exs G.B om6 a := fun {ρ5 ρ6 om6 H6 s6} I6 R6 ⟨t, et⟩ s6' ew => by
      obtain ⟨R7, x7⟩ := R6.cutT (n := m) et (by rw [l4]; exact hm)
      obtain ⟨om8, t8, x8, R8, u8, _⟩ := R7.wipe (fun v hv' => by rw [l4]; exact hv v hv') ew
      rw [w4] at R8
      have pin' : ∀ b ∈ G.fp, ∀ o, s2.heap.get? b = some o → s6.heap.get? b = some o ∧ H6 b = none := fun b hb o e =>
        let z := I6.pin (b, o) (List.mem_append_right _ (List.mem_append_right _ (mem_pinsAt hb e)))
        ⟨z.1, z.2.1⟩
      have I7 : Inv G.Xg ((G.a, G.go) :: cpl) G.σw H6 s6 := (I6.unpinned).weak l4.symm fun j v e => by
        rw [← w4] at e
        exact (wipe_some e).1
      refine ⟨om8, ⟨cpl, I7, h1, h2, R8, s6'.trans (.sub fun a z => x7 a (x8 a z)), fun b hb => ?_⟩, t8, u8, T.keep _ _ _ st2 fun b hb o e => (pin' b hb o e).1, fun a z => x7 a (x8 a z)⟩
      obtain ⟨o, e, _⟩ := T.obj _ _ st2 b hb
      exact (pin' b hb o e).2
    have kS : ∀ {σ' : L2.St} {H6 : Hp} {s6 : Shared}, Inv G.Xg (((G.a, G.go) :: cpl) ++ pinsAt G.fp s2.heap) σ' H6 s6 → ∀ b o, G.S = some b → s₀.heap.get? b = some o → s6.heap.get? b = some o := fun {σ' H6 s6} I6 b o e1 e2 => by
      obtain ⟨o', ho⟩ := h2 b e1
      have q1 := (I.pin (b, o') (List.mem_append_right _ (List.mem_cons_of_mem _ ho))).1
      have q2 := (I6.pin (b, o') (List.mem_append_right _ (List.mem_append_left _ (List.mem_cons_of_mem _ ho)))).1
      have q3 := hs0 b o e1 e2
      rw [q1] at q3; cases q3
      exact q2
    have x5 : ∃ t, om5.τ = G.τ0 ++ t := by
      obtain ⟨t, et⟩ := s5'.ext
      exact ⟨t, by rw [et, t4, tτ]⟩
    have z5 : Ste G.B G.om1 G.H1 om5 H5 := st4.trans s5'.ste
    rcases br with ⟨rfl, y, ρ3, ρ4, a3, a4, e4⟩ | ⟨rfl, ρ4, a4, e4⟩
    · simp only [if_true]
      have hy : ∀ v, yieldOut G.Xg.env v = yieldValue v := fun v => by simp only [yieldOut, hco, Bool.false_eq_true, if_false]
      simp only [hy]
      rw [Sem.bind_eq_wrap', Sem.bind_eq_wrap', Sem.wrap_wrap, Sem.wrap_wrap]
      refine seg_wrap ?_
      rw [hov]
      refine thnG ok.xe ((he.fz a3).run _ s5 σ4 H5 (fun v H6 => ∃ om6, Stp G.B om5 H5 om6 H6 ∧ Rel G.Xg.K G.B ρ3 om6 σ4 H6 ∧ Rep G.Xg.K H6 (Exs G.B om6) y v) I5 ⟨om5, R5, fun v H6 om6 s6 R6 r6 => ⟨om6, s6, R6, r6⟩⟩) fun yv s6 ⟨vv, H6, I6, rvv, om6, s6', R6, r6⟩ => ?_
      have x6 : ∃ t, om6.τ = G.τ0 ++ t := by
        obtain ⟨t, et⟩ := x5
        obtain ⟨t', et'⟩ := s6'.ext
        exact ⟨t ++ t', by rw [et', et, List.append_assoc]⟩
      obtain ⟨om7, at7, t7, u7, tn7, xx⟩ := back I6 R6 x6 (z5.trans s6'.ste) a4
      subst e4
      obtain ⟨pre, hpre⟩ := hL
      have dec : ∃ l', l = (y, items.drop (i + 1), ρ4) :: l' ∧ ((full = true ∨ 0 < l'.length) → Tr (genN G.vs g ft fe m) l' full (items.drop (i + 1)) ρ4 ρE) := by
        cases tr with
        | done e => rw [ez] at e; cases e
        | stop e =>
          rw [ez] at e; cases e
          exact ⟨[], rfl, fun z => z.elim (fun z => nomatch z) fun z => absurd z (Nat.lt_irrefl _)⟩
        | more e t =>
          rw [ez] at e; cases e
          exact ⟨_, rfl, fun _ => t⟩
      obtain ⟨l', rfl, htr⟩ := dec
      rw [List.length_cons]
      refine seg_at (seg_yield rfl rfl rfl ⟨y, items.drop (i + 1), ρ4, vv, om7, H6, by rw [hpre]; exact last_at, kS I6, at7, t7, u7, rvv, Rep.less xx r6, fun hf s' hz => ?_⟩)
      have core' : G.Core ρ4 s' := ⟨om7, H6, at7.slp ok hz, t7, u7⟩
      refine seg_again rfl (ih (i + 1) ρ4 s' s' l' (by omega) hlt core' (T.keep _ _ _ tn7 fun b hb o e => hz.keep b o (fun z => (ok.apart b z).2.2.2.2 hb) e) (fun _ _ _ e => e) (htr hf) ⟨pre ++ [(y, items.drop (i + 1), ρ4)], by rw [hpre, List.append_assoc]; rfl⟩)
    · simp only [Bool.false_eq_true, if_false]
      obtain ⟨om7, at7, t7, u7, tn7, _⟩ := back I5 R5 x5 z5 a4
      exact seg_again rfl (ih (i + 1) ρ4 s₀ s5 l (by omega) hlt ⟨om7, H5, at7, t7, u7⟩ tn7 (kS I5) (tr.skip e4) hL)
end
end Ev

set_option maxRecDepth 100000
set_option maxHeartbeats 4000000
namespace Ev
open PySem PySem.Spec PyProof.Rows L2 GenW
section
variable {G : GP} {elt tg iter : Expr} {ifs : List Expr} {scope : Scope} {pos : Pos} {J : It} {it : Addr} {tn : Nat → Heap → Prop} {items : List D} {L : List (D × List D × Er)} {full : Bool} {ρE : Er} {m : Nat} {Aw : Around}
theorem seg_start {l : List (D × List D × Er)} {s₀ s : Shared} (T : Turn G.Xg.prog G.Xg.w G.Xg.K tg J G.fp it tn) (st : tn 0 s.heap)
    (loop : Seg (model G.Xg.prog G.Xg.w) Aw (G.R ρE) (G.Y tn items L full) l.length s₀ (.compLoop (.GeneratorExp elt [⟨tg, iter, ifs, 0⟩] scope pos) 0 (.ref it) .none G.Xg.env)
        ((model G.Xg.prog G.Xg.w).den (.compLoop (.GeneratorExp elt [⟨tg, iter, ifs, 0⟩] scope pos) 0 (.ref it) .none G.Xg.env)) [] s) :
    Seg (model G.Xg.prog G.Xg.w) Aw (G.R ρE) (G.Y tn items L full) l.length s₀ (.compStart (.GeneratorExp elt [⟨tg, iter, ifs, 0⟩] scope pos) 0 (.ref it) .none G.Xg.env)
        ((model G.Xg.prog G.Xg.w).den (.compStart (.GeneratorExp elt [⟨tg, iter, ifs, 0⟩] scope pos) 0 (.ref it) .none G.Xg.env)) [] s := by
  show Seg _ Aw _ _ _ s₀ _ ((compStart (.GeneratorExp elt [⟨tg, iter, ifs, 0⟩] scope pos) 0 (.ref it) .none G.Xg.env).onRaise (leaving G.Xg.env)) [] s
  unfold compStart
  rw [Sem.onRaise_eq_wrap]
  show Seg _ Aw _ _ _ s₀ _ ((ask >>= _).wrap _ _ _ _) [] s
  refine seg_bind_wrap (wpAny_askSetting ?_)
  split
  · exact seg_again rfl loop
  · first
      | exact seg_bind_wrap (wpAny_rule (seg_bind_wrap (wpAny_standAt (seg_bind_wrap (T.self _ 0 s _ _ st (seg_again rfl loop))))))
      | (refine seg_bind_wrap (wpAny_rule ?_); show Seg _ Aw _ _ _ s₀ _ ((standAt iter.pos >>= _).wrap _ _ _ _) [] s; exact seg_bind_wrap (wpAny_standAt (seg_bind_wrap (T.self _ 0 s _ _ st (seg_again rfl loop)))))

/-! ### the consumer's side -/
structure GP.Live (G : GP) (tn : Nat → Heap → Prop) (items : List D) (L : List (D × List D × Er)) (full : Bool) (A1 : Around) (g : Nat) (l : List (D × List D × Er)) (ρE : Er) (s : Shared) : Prop where
  gen : s.heap.IsGen G.a g
  lim : s.heap.NoLimit
  bare : AllBare s.gens
  go : ∃ gs, s.gens[g]? = some gs ∧ ∀ s'', Slp G.S s s'' → gs.Goes (model G.Xg.prog G.Xg.w) A1.in1 (G.R ρE) (G.Y tn items L full) l.length (.send .none) s''
theorem Slp.trans {S : Option Addr} {s s' s'' : Shared} (h : ∀ b o, S = some b → s'.heap.get? b = some o → ∃ o', s''.heap.get? b = some o' ∧ ∀ v, o'.data ≠ .cell v) (a : Slp S s s') (b : Slp S s' s'') : Slp S s s'' :=
  ⟨b.os.trans a.os, b.bare, fun c o n e => b.keep c o n (a.keep c o n e), fun c o e1 e2 => by
    obtain ⟨o', e3, _⟩ := a.own c o e1 e2
    exact h c o' e1 e3⟩
theorem Slp.gens {S : Option Addr} {s : Shared} {gs : Array GenState} (hS : ∀ b o, S = some b → s.heap.get? b = some o → ∀ v, o.data ≠ .cell v) (hb : AllBare gs) : Slp S s { s with gens := gs } :=
  ⟨rfl, hb, fun _ _ _ e => e, fun b o e1 e2 => ⟨o, e2, hS b o e1 e2⟩⟩
variable {A1 : Around} {g : Nat}
theorem next_core {l : List (D × List D × Er)} {s : Shared} {Q : Option Value → Shared → Prop} {E : Value → Shared → Prop} (h : G.Live tn items L full A1 g l ρE s) (hS : ∀ b o, G.S = some b → s.heap.get? b = some o → ∀ v, o.data ≠ .cell v) (hh : A1.handled = none) (hroom : A1.depth < recursionLimit)
    (hY : ∀ y r ρ l' v vv om H' s', l = (y, r, ρ) :: l' → (∀ b o, G.S = some b → s.heap.get? b = some o → s'.heap.get? b = some o) → G.At ρ G.σw om H' s' → om.τ = G.τ0 → (∀ v ∈ G.vs, ρ[v]? = some .un) → RelV vv v → Rep G.Xg.K H' (Exs G.B om) y vv → ((full = true ∨ 0 < l'.length) → G.Live tn items L full A1 g l' ρE s') → Q (some v) s')
    (hD : ∀ s', l = [] → G.Core ρE s' → Q none s') (hL : ∃ pre, L = pre ++ l) (ok : G.Ok) (hfull : l = [] → full = true) (hgo : ∃ nm qn, G.go.cls = .type "generator" ∧ G.go.data = .fields #[.int g 0, nm, qn] ∧ G.go.slots = #[]) :
    wpAny (model G.Xg.prog G.Xg.w) A1 (pyNext (.ref G.a)) Q E s := by
  obtain ⟨gs, hgs, go⟩ := h.go
  have hgl : g < s.gens.size := (Array.getElem?_eq_some_iff.mp hgs).1
  have atB : ∀ {ρ : Er} {σ : L2.St} {om : Om} {H' : Hp} {s' : Shared} {x : GenState}, x.bare = true → G.At ρ σ om H' s' → Slp G.S s' (s'.setGen g x) ∧ s'.heap.IsGen G.a g ∧ s'.heap.NoLimit ∧ AllBare (s'.setGen g x).gens ∧ (∀ b o, G.S = some b → s'.heap.get? b = some o → ∀ v, o.data ≠ .cell v) := fun {ρ σ om H' s' x} hx hat => by
    obtain ⟨cpl, I, h1, h2, _⟩ := hat
    have hb : AllBare (s'.setGen g x).gens := allBare_setGen I.bare hx
    have nc : ∀ b o, G.S = some b → s'.heap.get? b = some o → ∀ v, o.data ≠ .cell v := fun b o e1 e2 => by
      obtain ⟨o', ho⟩ := h2 b e1
      obtain ⟨e3, _, _, _, n⟩ := I.pin (b, o') (List.mem_append_right _ (List.mem_cons_of_mem _ ho))
      rw [e2] at e3; cases e3
      exact n
    obtain ⟨e1, _⟩ := I.pin (G.a, G.go) (List.mem_append_right _ List.mem_cons_self)
    obtain ⟨nm, qn, q1, q2, q3⟩ := hgo
    exact ⟨⟨rfl, hb, fun _ _ _ e => e, fun b o e1 e2 => ⟨o, e2, nc b o e1 e2⟩⟩, ⟨G.go, nm, qn, e1, q1, q2, q3⟩, I.nolimit, hb, nc⟩
  refine wpAny_gsz (n := g + 1) hgl (wpAny_pyNext_genexpQ (P := fun n s₀ s₁ => n = 0 ∧ G.Core ρE s₁) hh h.lim hroom h.gen hgs (go (s.setGen g .running) ⟨rfl, allBare_setGen h.bare rfl, fun _ _ _ e => e, fun b o e1 e2 => ⟨o, e2, hS b o e1 e2⟩⟩) (fun v s₁ gs' hb hv => ?_) (fun s₁ hp h' hk => ?_))
  · intro hsz
    obtain ⟨y, r, ρ, vv, om, H', eL, kS, hat, tτ, un, rv, rp, hk⟩ := hv
    cases l with
    | nil =>
      exfalso
      obtain ⟨sl, _, _, _, _⟩ := atB (x := .running) rfl hat
      exact (hk (.inl (hfull rfl)) (s₁.setGen g .running) sl).elim
    | cons x l' =>
      obtain ⟨pre, hpre⟩ := hL
      have e2 : L.reverse[l'.length]? = some x := by rw [hpre]; exact last_at
      have e3 : L.reverse[l'.length]? = some (y, r, ρ) := eL
      rw [e2] at e3; cases e3
      obtain ⟨sl, ig, nl, ab, nc⟩ := atB hb hat
      have hsz1 : g < s₁.gens.size := by
        have q : (s₁.setGen g gs').gens.size = s₁.gens.size := setGen_size _ _ _
        have hsz' : g + 1 ≤ (s₁.setGen g gs').gens.size := hsz
        omega
      refine hY y r ρ l' v vv om H' (s₁.setGen g gs') rfl kS (hat.slp ok sl) tτ un rv rp fun hf => ⟨ig, nl, ab, gs', setGen_at hsz1, fun s'' z => ?_⟩
      exact hk hf s'' (Slp.trans (fun b o e1 e2 => z.own b o e1 e2) sl z)
  · intro hsz
    obtain ⟨hn, core⟩ := hp
    have el : l = [] := List.length_eq_zero_iff.mp hn
    refine hD _ el ?_
    obtain ⟨om, H', hat, tτ, un⟩ := core
    obtain ⟨sl, _, _, ab, nc⟩ := atB (x := .finished) rfl hat
    refine ⟨om, H', hat.slp ok ⟨rfl, ab, fun b o _ e => hk b o e, fun b o e1 e2 => ⟨o, hk b o e2, nc b o e1 e2⟩⟩, tτ, un⟩
def genOk (go : Obj) (g : Nat) : Prop := ∃ nm qn, go.cls = .type "generator" ∧ go.data = .fields #[.int g 0, nm, qn] ∧ go.slots = #[]
/-- all (sv = false), any (sv = true) -/
def stopT (sv : Bool) : List (D × List D × Er) → Bool → Bool → Prop
  | [], f, b => f = true ∧ b = !sv
  | (y, _, _) :: l, f, b => ∃ c, y = .bool c ∧ if c = sv then l = [] ∧ f = false ∧ b = sv else (f = true ∨ 0 < l.length) ∧ stopT sv l f b
theorem loop_all {A : Around} {R : Result → Shared → Prop} {b : Bool} (ok : G.Ok) (hS : G.S = none) (hh : A.handled = none) (hroom : A.depth < recursionLimit) (hgo : genOk G.go g) (hR : ∀ s', G.Core ρE s' → R (.ok (.ret (.bool b))) s') :
    ∀ (l : List (D × List D × Er)) (rest : List D) (ρ : Er) (s : Shared), (∃ pre, L = pre ++ l) → (l = [] → full = true) → G.Live tn items L full A.in1 g l ρE s → stopT false l full b → (l ≠ [] → full = false → ∃ y r, l.getLast? = some (y, r, ρE)) →
      codeAny (model G.Xg.prog G.Xg.w) A (.builtin "all.loop" ⟨[.ref G.a], []⟩) R s := by
  intro l
  induction l with
  | nil =>
    intro rest ρ s hL hf lv hst hlast
    refine codeAny_builtin F.entry_all_loop ?_
    rw [Around.under_plainId F.plain_all_loop _]
    show wpAny _ A.in1 (pyNext (.ref G.a) >>= _) _ _ s
    refine wpAny_bind (next_core (A1 := A.in1) lv (fun b o e => by rw [hS] at e; cases e) hh hroom (fun y r ρ l' v vv om H' s' e => by cases e) (fun s' _ hc => ?_) hL ok hf hgo)
    refine wpAny_bind (wpAny_rule (wpAny_pure ?_))
    obtain ⟨_, hb⟩ := hst
    subst hb
    exact hR s' hc
  | cons x l ih =>
    intro rest ρ s hL hf lv hst hlast
    obtain ⟨y0, r0, ρ0⟩ := x
    refine codeAny_builtin F.entry_all_loop ?_
    rw [Around.under_plainId F.plain_all_loop _]
    show wpAny _ A.in1 (pyNext (.ref G.a) >>= _) _ _ s
    refine wpAny_bind (next_core (A1 := A.in1) lv (fun b o e => by rw [hS] at e; cases e) hh hroom (fun y r ρ1 l' v vv om H' s' e kS hat tτ un rv rp hlive => ?_) (fun s' e => by cases e) hL ok hf hgo)
    cases e
    obtain ⟨c, rfl, hc⟩ := hst
    cases rp
    cases rv
    refine wpAny_bind (wpAny_holding (wpAny_truthy_bool ?_))
    refine wpAny_bind (wpAny_letGo ?_)
    obtain ⟨pre, hpre⟩ := hL
    cases c with
    | true =>
      rw [if_neg (by decide)] at hc
      simp only [if_true]
      refine wpAny_pure ⟨plainId_quiet F.plain_all_loop _, ih r0 ρ0 s' ⟨pre ++ [(.bool true, r0, ρ0)], by rw [hpre, List.append_assoc]; rfl⟩ (fun z => ?_) (hlive hc.1) hc.2 (fun h1 h2 => ?_)⟩
      · rcases hc.1 with q | q
        · exact q
        · rw [z] at q; exact absurd q (Nat.lt_irrefl _)
      · obtain ⟨y, r, e⟩ := hlast (fun z => nomatch z) h2
        cases l with
        | nil => exact absurd rfl h1
        | cons a t => exact ⟨y, r, by rw [List.getLast?_cons_cons] at e; exact e⟩
    | false =>
      rw [if_pos rfl] at hc
      obtain ⟨rfl, hff, rfl⟩ := hc
      simp only [Bool.false_eq_true, if_false]
      refine wpAny_bind (wpAny_rule (wpAny_pure ?_))
      obtain ⟨y, r, e⟩ := hlast (fun z => nomatch z) hff
      cases e
      exact hR s' ⟨om, H', hat, tτ, un⟩
theorem loop_any {A : Around} {R : Result → Shared → Prop} {b : Bool} (ok : G.Ok) (hS : G.S = none) (hh : A.handled = none) (hroom : A.depth < recursionLimit) (hgo : genOk G.go g) (hR : ∀ s', G.Core ρE s' → R (.ok (.ret (.bool b))) s') :
    ∀ (l : List (D × List D × Er)) (rest : List D) (ρ : Er) (s : Shared), (∃ pre, L = pre ++ l) → (l = [] → full = true) → G.Live tn items L full A.in1 g l ρE s → stopT true l full b → (l ≠ [] → full = false → ∃ y r, l.getLast? = some (y, r, ρE)) →
      codeAny (model G.Xg.prog G.Xg.w) A (.builtin "any.loop" ⟨[.ref G.a], []⟩) R s := by
  intro l
  induction l with
  | nil =>
    intro rest ρ s hL hf lv hst hlast
    refine codeAny_builtin F.entry_any_loop ?_
    rw [Around.under_plainId F.plain_any_loop _]
    show wpAny _ A.in1 (pyNext (.ref G.a) >>= _) _ _ s
    refine wpAny_bind (next_core (A1 := A.in1) lv (fun b o e => by rw [hS] at e; cases e) hh hroom (fun y r ρ l' v vv om H' s' e => by cases e) (fun s' _ hc => ?_) hL ok hf hgo)
    refine wpAny_bind (wpAny_rule (wpAny_pure ?_))
    obtain ⟨_, hb⟩ := hst
    subst hb
    exact hR s' hc
  | cons x l ih =>
    intro rest ρ s hL hf lv hst hlast
    obtain ⟨y0, r0, ρ0⟩ := x
    refine codeAny_builtin F.entry_any_loop ?_
    rw [Around.under_plainId F.plain_any_loop _]
    show wpAny _ A.in1 (pyNext (.ref G.a) >>= _) _ _ s
    refine wpAny_bind (next_core (A1 := A.in1) lv (fun b o e => by rw [hS] at e; cases e) hh hroom (fun y r ρ1 l' v vv om H' s' e kS hat tτ un rv rp hlive => ?_) (fun s' e => by cases e) hL ok hf hgo)
    cases e
    obtain ⟨c, rfl, hc⟩ := hst
    cases rp
    cases rv
    refine wpAny_bind (wpAny_holding (wpAny_truthy_bool ?_))
    refine wpAny_bind (wpAny_letGo ?_)
    obtain ⟨pre, hpre⟩ := hL
    cases c with
    | false =>
      rw [if_neg (by decide)] at hc
      simp only [Bool.false_eq_true, if_false]
      refine wpAny_pure ⟨plainId_quiet F.plain_any_loop _, ih r0 ρ0 s' ⟨pre ++ [(.bool false, r0, ρ0)], by rw [hpre, List.append_assoc]; rfl⟩ (fun z => ?_) (hlive hc.1) hc.2 (fun h1 h2 => ?_)⟩
      · rcases hc.1 with q | q
        · exact q
        · rw [z] at q; exact absurd q (Nat.lt_irrefl _)
      · obtain ⟨y, r, e⟩ := hlast (fun z => nomatch z) h2
        cases l with
        | nil => exact absurd rfl h1
        | cons a t => exact ⟨y, r, by rw [List.getLast?_cons_cons] at e; exact e⟩
    | true =>
      rw [if_pos rfl] at hc
      obtain ⟨rfl, hff, rfl⟩ := hc
      simp only [if_true]
      refine wpAny_bind (wpAny_rule (wpAny_pure ?_))
      obtain ⟨y, r, e⟩ := hlast (fun z => nomatch z) hff
      cases e
      exact hR s' ⟨om, H', hat, tτ, un⟩
/-- sum: the ints, in long range -/
def inLong (i : Int) : Bool := decide (-(2 ^ 63) ≤ i) && decide (i < 2 ^ 63)
def sumT : List (D × List D × Er) → Int → Int → Prop
  | [], a, b => b = a
  | (y, _, _) :: l, a, b => ∃ i, y = .int i ∧ inLong i = true ∧ inLong (a + i) = true ∧ sumT l (a + i) b
theorem loop_sum {A : Around} {R : Result → Shared → Prop} {b : Int} {S : Addr} (ok : G.Ok) (hS : G.S = some S) (hf : full = true) (hh : A.handled = none) (hroom : A.depth < recursionLimit) (hgo : genOk G.go g) (hR : ∀ s' t, G.Core ρE s' → R (.ok (.ret (.int b t))) s') :
    ∀ (l : List (D × List D × Er)) (acc : Int) (tA : Tok) (c : Nat) (s : Shared), (∃ pre, L = pre ++ l) → G.Live tn items L full A.in1 g l ρE s → sumT l acc b → s.heap.get? S = some { cls := .type "list", dict := none, data := .seq #[.int acc tA] c, slots := #[] } →
      codeAny (model G.Xg.prog G.Xg.w) A (.builtin "sum.loop" ⟨[.ref G.a, .ref S, rawInt 0, rawInt 0], []⟩) R s := by
  intro l
  induction l with
  | nil =>
    intro acc tA c s hL lv hst hSo
    refine codeAny_builtin F.entry_sum_loop ?_
    rw [Around.under_plainId F.plain_sum_loop _]
    show wpAny _ A.in1 (seqItems? (.ref S) >>= _) _ _ s
    refine wpAny_bind (wpAny_seqItems hSo rfl ?_)
    show wpAny _ A.in1 (tryCatch (pyNext (.ref G.a)) _ >>= _) _ _ s
    refine wpAny_bind (wpAny_tryCatch (next_core (A1 := A.in1) lv (fun b o e1 e2 => by rw [hS] at e1; cases e1; rw [hSo] at e2; cases e2; exact fun _ z => nomatch z) hh hroom (fun y r ρ l' v vv om H' s' e => by cases e) (fun s' _ hc => ?_) hL ok (fun _ => hf) hgo))
    have hb : b = acc := hst
    subst hb
    exact wpAny_pure (hR s' tA hc)
  | cons x l ih =>
    intro acc tA c s hL lv hst hSo
    obtain ⟨y0, r0, ρ0⟩ := x
    refine codeAny_builtin F.entry_sum_loop ?_
    rw [Around.under_plainId F.plain_sum_loop _]
    show wpAny _ A.in1 (seqItems? (.ref S) >>= _) _ _ s
    refine wpAny_bind (wpAny_seqItems hSo rfl ?_)
    show wpAny _ A.in1 (tryCatch (pyNext (.ref G.a)) _ >>= _) _ _ s
    refine wpAny_bind (wpAny_tryCatch (next_core (A1 := A.in1) lv (fun b o e1 e2 => by rw [hS] at e1; cases e1; rw [hSo] at e2; cases e2; exact fun _ z => nomatch z) hh hroom (fun y r ρ1 l' v vv om H' s' e kS hat tτ un rv rp hlive => ?_) (fun s' e => by cases e) hL ok (fun _ => hf) hgo))
    cases e
    obtain ⟨j, rfl, f1, f2, hst⟩ := hst
    cases rp
    obtain ⟨t, rfl⟩ := rv
    have hS' := kS S _ hS hSo
    have hc : ((decide (-(2 ^ 63) ≤ j) && decide (j < 2 ^ 63)) && (decide (-(2 ^ 63) ≤ acc + j) && decide (acc + j < 2 ^ 63))) = true := by
      unfold inLong at f1 f2
      rw [f1, f2]; rfl
    show wpAny _ A.in1 (if (_ : Bool) = true then (mkInt (acc + j) >>= _) else _) _ _ _
    obtain ⟨pre, hpre⟩ := hL
    split
    · refine wpAny_bind (wpAny_mkInt ?_)
      show wpAny _ A.in1 (updateSeq S (fun _ => #[.int (acc + j) s'.toks]) >>= _) _ _ _
      refine wpAny_bind ?_
      refine wpAny_updateSeq hS' rfl (wpAny_pure ⟨plainId_quiet F.plain_sum_loop _, ih (acc + j) s'.toks _ _ ⟨pre ++ [(.int j, r0, ρ0)], by rw [hpre, List.append_assoc]; rfl⟩ ?_ hst (Heap.get?_update_self _ hS' rfl)⟩)
      have lv' := hlive (.inl hf)
      have up : ∀ b o, b ≠ S → s'.heap.get? b = some o → (s'.heap.update S (Obj.mapSeq (fun _ => #[.int (acc + j) s'.toks]))).get? b = some o := fun b o hb e => (Heap.get?_update_other _ _ (Ne.symm hb)).trans e
      have upS := Heap.get?_update_self (Obj.mapSeq (fun _ => #[Value.int (acc + j) s'.toks])) hS' rfl
      have aS : G.a ≠ S := fun z => (ok.apart S hS).2.2.2.1 z.symm
      obtain ⟨gs, q1, q2⟩ := lv'.go
      refine ⟨?_, ?_, lv'.bare, gs, q1, fun s'' z => q2 s'' ⟨z.os, z.bare, fun b o n e => z.keep b o n (up b o (fun q => n (by rw [q]; exact hS)) e), fun b o e1 e2 => ?_⟩⟩
      · obtain ⟨o, nm, qn, ho, r⟩ := lv'.gen
        exact ⟨o, nm, qn, up _ _ aS ho, r⟩
      · obtain ⟨mc, hns, hnn⟩ := lv'.lim
        refine ⟨mc, hns.at' fun o e => up _ o (fun q => ?_) e, hnn⟩
        obtain ⟨o', es, ep, ho, hd, _⟩ := hns
        rw [q, hS'] at ho; cases ho
        cases hd
      · rw [hS] at e1; cases e1
        exact z.own _ _ hS upS
    · rename_i hneg
      exact absurd hc hneg
end
end Ev

set_option maxRecDepth 100000
set_option maxHeartbeats 4000000
namespace Ev
open PySem PySem.Spec PyProof.Rows L2 GenW
/-- a table has grown -/
theorem Rel.tab {K : PySem.W.Frag} {B : Bx} {ρ : Er} {om : Om} {σ : L2.St} {H : Hp} {P : Addr} {ps : Array Value} (R : Rel K B ρ om σ H) (hP : P ∈ B.T) (ht : TriplesOk ps.toList) : Rel K B ρ om σ (upd H P (.tbl ps)) ∧ Stp B om H om (upd H P (.tbl ps)) := by
  obtain ⟨qs, eP, _⟩ := R.tabs P hP
  have ne : ∀ {d : D} {a : Addr}, RepO K H (Exs B om) d a → a ≠ P := fun {d a} r z => by
    obtain ⟨o, e, _, n, _⟩ := r.some
    rw [z, eP] at e; cases e
    exact n qs rfl
  have k : Keep (Exs B om) H (upd H P (.tbl ps)) := fun b o n e => by
    rw [upd_ne (fun z => n (.inl (R.tx b (by rw [z]; exact hP))))]; exact e
  refine R.change rfl (fun i d e => e) (fun i d e => ⟨d, e, fun a _ r => r.mono k (fun _ z => .inl z) (upd_ne (ne r))⟩) (fun i d e => ⟨d, e, fun a _ r => r.mono k (fun _ z => .inl z) (upd_ne (ne r))⟩) (fun a o e _ n => ?_) (fun i a e => ?_) (fun a h => ?_) (fun Q hQ => ?_)
  · rw [upd_ne (fun z => n (by rw [z]; exact hP))]; exact e
  · by_cases z : a = P
    · rw [z, upd_same]; exact ⟨_, rfl, fun _ z => nomatch z⟩
    · rw [upd_ne z]; exact R.exd a (.inr ⟨i, e⟩)
  · by_cases z : a = P
    · rw [z, upd_same]; exact fun z => nomatch z
    · rw [upd_ne z]; exact h
  · by_cases z : Q = P
    · rw [z]; exact ⟨ps, upd_same, ht⟩
    · obtain ⟨rs, e, t⟩ := R.tabs Q hQ
      exact ⟨rs, by rw [upd_ne z]; exact e, t⟩
/-- what the consumer may have done ahead of the first turn -/
structure Aft (g : Nat) (S : Option Addr) (s s' : Shared) : Prop where
  os : s'.os = s.os
  bare : AllBare s'.gens
  at_ : s'.gens[g]? = s.gens[g]?
  keep : ∀ b o, s.heap.get? b = some o → s'.heap.get? b = some o
  own : ∀ b, S = some b → s.heap.objs.size ≤ b ∧ ∃ o, s'.heap.get? b = some o ∧ ∀ v, o.data ≠ .cell v
section
variable {X : Cx} {B : Bx} {elt tg iter : Expr} {ifs : List Expr} {scope : Scope} {own : List (Str × Nat)} {gpos : Pos} {fi : FI} {fg : FG} {ts : List Nat} {ft : FT} {fe : FE} {k : Nat}
/-- the generator that a generator expression makes -/
structure Mk (X : Cx) (B : Bx) (pins : List (Addr × Obj)) (vs : List Nat) (fg : FG) (ft : FT) (fe : FE) (σ : L2.St) (om : Om) (H : Hp) (items : List D) (ρ2 : Er) (s5 : Shared) (a g : Nat) (G : Option Addr → GP) (tn : Nat → Heap → Prop) : Prop where
  prog : ∀ S, (G S).Xg.prog = X.prog
  w : ∀ S, (G S).Xg.w = X.w
  a_ : ∀ S, (G S).a = a
  S_ : ∀ S, (G S).S = S
  ok : ∀ S s', Aft g S s5 s' → (G S).Ok
  go : ∀ S, genOk (G S).go g
  gen : s5.heap.IsGen a g
  bare : AllBare s5.gens
  live : ∀ S s' l full ρE, Aft g S s5 s' → Tr (genN vs fg ft fe ρ2.length) l full items ρ2 ρE → (G S).Live tn items l full X.A.in1 g l ρE s'
  fin : ∀ S ρE s', (G S).Core ρE s' → ∃ H' om', Inv X pins σ H' s' ∧ Stp B om H om' H' ∧ Rel X.K B ρE om' σ H'
theorem gen_make {c P : Addr} {pins : List (Addr × Obj)} {s : Shared} {σ : L2.St} {H : Hp} {om : Om} {Q' : Value → Shared → Prop} {ρ ρ1 ρ2 : Er} {items : List D} (hr : Room (k + 3) X.A) (TB : GxR.TabB X.base X.mg c P) (hcode : X.env.code = .ref c) (hP : P ∈ B.T)
    (hN : X.N.Nodup) (hi : EI X B tg iter fi) (ok : BlkOk X.N X.env.scope scope own) (hco : scope.isCoroutine = false) (cell : ∀ y ∈ scope.names, y.2 ≠ .cell) (dot : scope.names.lookup (".0" : Str) = some NameKind.local) (hts : ∀ t ∈ ts, t ∈ own.map (·.2))
    (hg : ∀ (s : Shared) (H : Hp) (C : Addr) (cl : List (Str × Addr)) (code : Value) (fp : List Addr), EG (gx X X.A.in1.in1 s H (genEnv scope cl C code builtinsNs X.env) fp) B tg fg ts)
    (ht : ∀ (s : Shared) (H : Hp) (C : Addr) (cl : List (Str × Addr)) (code : Value) (fp : List Addr), ETs (gx X X.A.in1.in1 s H (genEnv scope cl C code builtinsNs X.env) fp) B ifs ft)
    (he : ∀ (s : Shared) (H : Hp) (C : Addr) (cl : List (Str × Addr)) (code : Value) (fp : List Addr), EV (gx X X.A.in1.in1 s H (genEnv scope cl C code builtinsNs X.env) fp) B elt fe)
    (hs : ∀ x, genFold iter X.env x = pure x) (I : Inv X pins σ H s) (R : Rel X.K B ρ om σ H) (e1 : fi ρ = some (items, ρ1)) (e2 : wipeR (own.map (·.2)) ρ1 = some ρ2)
    (hQ : ∀ s5 a g G tn, Mk X B pins (own.map (·.2)) fg ft fe σ om H items ρ2 s5 a g G tn → Q' (.ref a) s5) :
    wpAny (model X.prog X.w) X.A (eval (.GeneratorExp elt [⟨tg, iter, ifs, 0⟩] scope gpos) X.env) Q' X.xe s := by
  have hfree : ∀ y ∈ scope.names, y.2 = .free → ∃ c, X.env.cells.lookup y.1 = some c := fun y hy e => by
    rcases ok.free y hy e with k | k
    · exact I.ok.has _ (.inl k)
    · exact I.ok.has _ (.inr k)
  refine wpAny_GeneratorExp_make hco (closure_ok hfree) cell dot ok.kind (by have := hr.dp; omega) ?_ hs
  refine thn ((hi ρ items ρ1 e1).run pins s σ H _ I ⟨om, R, fun J H1 om1 s1 R1 jt => (show (fun J H1 => ∃ om1, Stp B om H om1 H1 ∧ Rel X.K B ρ1 om1 σ H1 ∧ ItOk X.K B J items om1 H1) J H1 from ⟨om1, s1, R1, jt⟩)⟩) fun xv s1 h1 => thn h1 fun itv s2 h2 => ?_
  obtain ⟨it, fp, tn, J, H2, rfl, I2, T, st2, f2, om1, s1', R1, jt⟩ := h2
  obtain ⟨ps, eP, htp⟩ := R1.tabs P hP
  have hPs : s2.heap.get? P = some { cls := .none, data := .fields ps } := I2.hok P _ eP
  have cd : PySem.W.CodeHd s2.heap c P := TB.code.keeps fun b u e => I2.bk b u e
  have sz : ∀ b ∈ fp, b < s2.heap.objs.size := fun b hb => by
    obtain ⟨o, e, _⟩ := T.obj _ _ st2 b hb
    exact Heap.lt_size e
  have Pfp : P ∉ fp := fun hb => by
    have := (f2 P hb).1
    rw [eP] at this; cases this
  -- behind the code object
  have cont : ∀ (code : Value) (s3 : Shared) (H3 : Hp), Inv X pins σ H3 s3 → Rel X.K B ρ1 om1 σ H3 → Stp B om1 H2 om1 H3 → (∀ b o, b ≠ P → s2.heap.get? b = some o → s3.heap.get? b = some o) → (∀ b ∈ fp, H3 b = none) → s2.heap.objs.size ≤ s3.heap.objs.size →
      wpAny (model X.prog X.w) X.A (builtinsFor X.env.globals X.env.builtins) (fun bi s₄ => ∀ h', h'.Ns s₄.heap.objs.size (fun y => if y = ".0" then some (.ref it) else none) → Heap.SameBut s₄.heap.objs.size (s₄.heap.push { cls := .type "frame", data := .dict #[] }) h' →
          Q' (.ref h'.objs.size) { s₄ with
            gens := s₄.gens.push (.fresh (.compStart (.GeneratorExp elt [⟨tg, iter, ifs, 0⟩] scope gpos) 0 (.ref it) .none (genEnv scope (cloFrom X.env.cells scope.names []) s₄.heap.objs.size code bi X.env))),
            toks := s₄.toks + 1 + 1 + 1,
            heap := h'.push { cls := .type "generator", data := .fields #[.int s₄.gens.size 0, .str "<genexpr>" (s₄.toks + 1), .str (X.env.qual ++ "<genexpr>") (s₄.toks + 1 + 1)] } }) X.xe s3 := by
    intro code s3 H3 I3 R3 s3' kp3 nf3 sz3
    obtain ⟨bm, ob, b1, b2, b3, b4, b5, b6, b7, b8⟩ := TB.bm
    refine wpAny_builtinsFor (m := X.mg) (by rw [I3.ok.glob]; exact I3.mod.glob.keeps I3.bk) b1 b2 (I3.bk _ _ b5) b6 b7 b8 ?_
    intro h' hn' hsb
    have hsz : h'.objs.size = s3.heap.objs.size + 1 := by rw [hsb.1, Heap.size_push]
    have kp' : ∀ b o, s3.heap.get? b = some o → h'.get? b = some o := fun b o e => hsb.extBut b o (Nat.ne_of_lt (Heap.lt_size e)) (Heap.get?_push_of_some _ e)
    obtain ⟨om2, t2, x2, R4, u2, l2⟩ := R3.wipe (fun v hv => by
      obtain ⟨p, hp, e⟩ := List.mem_map.mp hv
      rw [← e]; exact lt_of I3.len (ok.ix p hp)) e2
    generalize hgo : ({ cls := .type "generator", data := .fields #[.int s3.gens.size 0, .str "<genexpr>" (s3.toks + 1), .str (X.env.qual ++ "<genexpr>") (s3.toks + 1 + 1)] } : Obj) = go
    have goc : go.cls = .type "generator" ∧ go.data = .fields #[.int s3.gens.size 0, .str "<genexpr>" (s3.toks + 1), .str (X.env.qual ++ "<genexpr>") (s3.toks + 1 + 1)] ∧ go.slots = #[] := by subst hgo; exact ⟨rfl, rfl, rfl⟩
    have hgp : (h'.push go).get? h'.objs.size = some go := Heap.get?_push_size _ (by rw [← hgo]; rfl)
    generalize hce : genEnv scope (cloFrom X.env.cells scope.names []) s3.heap.objs.size code builtinsNs X.env = ce
    have cL : ce.locals = s3.heap.objs.size := by rw [← hce]; rfl
    have kp5 : ∀ b o, h'.get? b = some o → (h'.push go).get? b = some o := fun b o e => Heap.get?_push_of_some _ e
    have f3 : ∀ b ∈ fp, FpOk X pins H3 b ∧ b < s3.heap.objs.size := fun b hb => ⟨⟨nf3 b hb, (f2 b hb).2⟩, Nat.lt_of_lt_of_le (sz b hb) sz3⟩
    have I4 : Inv (gx X X.A.in1.in1 s3 H3 ce fp) [] (wipe σ (own.map (·.2))) H3 { s3 with heap := h' } := by
      rw [← hce]
      exact gen_start (Aw := X.A.in1.in1) I3 ok cell hN f3 hn' kp' hr.hd I3.ok.frames
    have frC : ∀ b, s3.heap.objs.size < b → H3 b = none ∧ b ≠ ce.locals ∧ b ∉ frs X.stack ∧ s3.heap.objs.size ≤ b ∧ ∀ x c, ce.cells.lookup x = some c → c ≠ b := fun b hb => by
      refine ⟨I3.hok.fresh (Nat.le_of_lt hb), by rw [cL]; exact Nat.ne_of_gt hb, fun z => ?_, Nat.le_of_lt hb, fun x c e z => ?_⟩
      · rcases List.mem_cons.mp (I3.stkSub b z) with q | q
        · have := I3.lt
          rw [← q] at this
          exact absurd (Nat.lt_trans this hb) (Nat.lt_irrefl _)
        · exact I3.nofs (Nat.le_of_lt hb) q
      · have e' : (gx X X.A.in1.in1 s3 H3 ce fp).env.cells.lookup x = some c := e
        obtain ⟨v, q⟩ := I4.cell x c e'
        have e9 : (cloFrom X.env.cells scope.names []).lookup x = some c := by rw [← hce] at e; exact e
        rcases cloFrom_mem (PySem.mem_of_lookup e9) with hm | ⟨h1, h2⟩
        · cases hm
        · obtain ⟨c', hc'⟩ := hfree _ h1 rfl
          have hc'' : X.env.cells.lookup x = some c' := hc'
          rw [hc''] at h2
          have h2 : c = c' := h2
          obtain ⟨w, q'⟩ := I3.cell x c' hc''
          have := q'.lt
          rw [← h2, z] at this
          exact absurd (Nat.lt_trans this hb) (Nat.lt_irrefl _)
    have hcoE : ce.scope.isCoroutine = false := by rw [← hce]; exact hco
    have hgE : EG (gx X X.A.in1.in1 s3 H3 ce fp) B tg fg ts := by rw [← hce]; exact hg _ _ _ _ _ _
    have htE : ETs (gx X X.A.in1.in1 s3 H3 ce fp) B ifs ft := by rw [← hce]; exact ht _ _ _ _ _ _
    have heE : EV (gx X X.A.in1.in1 s3 H3 ce fp) B elt fe := by rw [← hce]; exact he _ _ _ _ _ _
    let G : Option Addr → GP := fun S => ⟨gx X X.A.in1.in1 s3 H3 ce fp, B, h'.objs.size, go, S, fp, own.map (·.2), wipe σ (own.map (·.2)), om2.τ, om2, H3⟩
    have aC : s3.heap.objs.size < h'.objs.size := by rw [hsz]; exact Nat.lt_succ_self _
    have okG : ∀ S s', Aft s3.gens.size S { s3 with gens := s3.gens.push (.fresh (.compStart (.GeneratorExp elt [⟨tg, iter, ifs, 0⟩] scope gpos) 0 (.ref it) .none ce)), toks := s3.toks + 1 + 1 + 1, heap := h'.push go } s' → (G S).Ok := fun S s' af => by
      refine ⟨fun b e => ?_, rfl, rfl, rfl, fun z => ?_, rfl⟩
      · obtain ⟨q1, _⟩ := af.own b e
        have q1 : @LE.le Nat _ (h'.push go).objs.size b := q1
        rw [Heap.size_push] at q1
        have aC' : @LT.lt Nat _ s3.heap.objs.size h'.objs.size := aC
        obtain ⟨y1, y2, y3, y4, y5⟩ := frC b (by omega)
        refine ⟨y4, y2, y5, fun z => ?_, fun z => ?_⟩
        · rw [show b = h'.objs.size from z] at q1
          exact Nat.lt_irrefl _ q1
        · have : @LT.lt Nat _ b s3.heap.objs.size := (f3 b z).2
          omega
      · have : @LT.lt Nat _ h'.objs.size s3.heap.objs.size := (f3 _ z).2
        have aC' : @LT.lt Nat _ s3.heap.objs.size h'.objs.size := aC
        omega
    have coreG : ∀ S s', Aft s3.gens.size S { s3 with gens := s3.gens.push (.fresh (.compStart (.GeneratorExp elt [⟨tg, iter, ifs, 0⟩] scope gpos) 0 (.ref it) .none ce)), toks := s3.toks + 1 + 1 + 1, heap := h'.push go } s' → (G S).Core ρ2 s' ∧ tn 0 s'.heap := fun S s' af => by
      have kk : ∀ b o, h'.get? b = some o → s'.heap.get? b = some o := fun b o e => af.keep b o (kp5 b o e)
      have I5 : Inv (gx X X.A.in1.in1 s3 H3 ce fp) [] (wipe σ (own.map (·.2))) H3 s' := I4.call' (ch := []) af.os (Un.kept kk) (I4.hok.kept kk) af.bare fun b z => by simp at z
      refine ⟨⟨om2, H3, ⟨S.toList.filterMap fun b => (s'.heap.get? b).map fun o => (b, o), I5.pins_of fun p hp => ?_, fun p hp => ?_, fun b e => ?_, R4, ⟨.refl, fun _ z => .inl z⟩, nf3⟩, rfl, u2⟩, T.keep _ _ _ st2 fun b hb o e => kk b o (kp' b o (kp3 b o (fun z => Pfp (by rw [← z]; exact hb)) e))⟩
      · rcases List.mem_cons.mp hp with hp | hp
        · rw [hp]
          obtain ⟨y1, y2, y3, _⟩ := frC h'.objs.size aC
          exact ⟨af.keep _ _ hgp, y1, y2, y3, fun v q => by
            have q : go.data = .cell v := q
            rw [goc.2.1] at q; cases q⟩
        · obtain ⟨b, hb, eb⟩ := List.mem_filterMap.mp hp
          obtain ⟨o, q1, q2⟩ := Option.map_eq_some_iff.mp eb
          subst q2
          have eS : S = some b := by
            cases S with
            | none => cases hb
            | some c => rw [List.mem_singleton.mp hb]
          obtain ⟨q3, o', q4, nc⟩ := af.own b eS
          rw [q1] at q4; cases q4
          have q3 : (h'.push go).objs.size ≤ b := q3
          rw [Heap.size_push, hsz] at q3
          obtain ⟨y1, y2, y3, _⟩ := frC b (by omega)
          exact ⟨q1, y1, y2, y3, nc⟩
      · obtain ⟨b, hb, eb⟩ := List.mem_filterMap.mp hp
        obtain ⟨o, q1, q2⟩ := Option.map_eq_some_iff.mp eb
        subst q2
        show S = some b
        cases S with
        | none => cases hb
        | some c => rw [List.mem_singleton.mp hb]
      · have e : S = some b := e
        obtain ⟨q3, o', q4, nc⟩ := af.own b e
        exact ⟨o', List.mem_filterMap.mpr ⟨b, by rw [e]; exact List.mem_singleton.mpr rfl, by rw [q4]; rfl⟩⟩
    refine hQ _ h'.objs.size s3.gens.size G tn ⟨fun _ => rfl, fun _ => rfl, fun _ => rfl, fun _ => rfl, okG, fun S => ⟨_, _, goc.1, goc.2.1, goc.2.2⟩, ⟨go, _, _, hgp, goc.1, goc.2.1, goc.2.2⟩, AllBare.push I3.bare rfl, fun S s' l full ρE af tr => ?_, fun S ρE s' core => ?_⟩
    · have lim : s'.heap.NoLimit := (I3.nolimit.keeps kp').keeps fun b o e => af.keep b o (kp5 b o e)
      refine ⟨⟨go, _, _, af.keep _ _ hgp, goc.1, goc.2.1, goc.2.2⟩, lim, af.bare, _, af.at_.trans (Array.getElem?_push_size ..), fun s'' sl => ⟨rfl, ?_⟩⟩
      obtain ⟨core, tn0⟩ := coreG S s' af
      have okS := okG S s' af
      have hml : (G S).σw.length + (G S).τ0.length = ρ2.length := by
        have q := R4.len
        rw [List.length_append] at q
        exact q.symm
      have core2 : (G S).Core ρ2 s'' := by
        obtain ⟨oma, Ha, hat, ta, ua⟩ := core
        exact ⟨oma, Ha, hat.slp okS sl, ta, ua⟩
      have tn2 : tn 0 s''.heap := T.keep _ _ _ tn0 fun b hb o e => sl.keep b o (fun z => (okS.apart b z).2.2.2.2 hb) e
      have jt3 : ItOk X.K B J items om2 H3 := ⟨fun i d omz Hz fz sz e => jt.go i d omz Hz fz ((s3'.ste.trans (.sub x2)).trans sz) e, fun omz Hz sz => jt.stop omz Hz ((s3'.ste.trans (.sub x2)).trans sz)⟩
      have ww : L2.wipe (L2.wipe σ (own.map (·.2))) (own.map (·.2)) = L2.wipe σ (own.map (·.2)) := by
        have gn : ∀ {τ : L2.St} {vs : List Nat} {i : Nat}, i ∈ vs → i < τ.length → (L2.wipe τ vs)[i]? = some none := by
          intro τ vs
          induction vs with
          | nil => intro i h; exact (List.not_mem_nil h).elim
          | cons a vs ih =>
            intro i h hl
            unfold L2.wipe
            by_cases e : i = a
            · subst e; exact List.getElem?_set_self (by rw [wipe_length]; exact hl)
            · rw [List.getElem?_set_ne (Ne.symm e)]; exact ih ((List.mem_cons.mp h).resolve_left e) hl
        refine List.ext_getElem? fun i => ?_
        by_cases hi : i ∈ own.map (·.2)
        · by_cases hl : i < σ.length
          · rw [gn hi (by rw [wipe_length]; exact hl), gn hi hl]
          · rw [List.getElem?_eq_none (by rw [wipe_length, wipe_length]; omega), List.getElem?_eq_none (by rw [wipe_length]; omega)]
        · rw [wipe_out' hi]
      refine seg_start (G := G S) T tn2 ?_
      refine seg_loop (G := G S) (L := l) okS (fun acc => over_gen) hcoE T jt3 hgE htE heE hts ww (fun v hv => ?_) hml items.length 0 ρ2 s'' s'' l (by omega) (Nat.zero_le _) core2 tn2 (fun _ _ _ e => e) (by rw [List.drop_zero]; exact tr) ⟨[], rfl⟩
      obtain ⟨p, hp, e⟩ := List.mem_map.mp hv
      show v < (wipe σ (own.map (·.2))).length
      rw [wipe_length, ← e]; exact lt_of I3.len (ok.ix p hp)
    · obtain ⟨omE, HE, ⟨cpl, IE, _, _, RE, sE, nfE⟩, tE, uE⟩ := core
      have IX : Inv X pins σ HE s' := I3.call' (ch := fp) IE.os IE.base IE.hok IE.bare fun b hb => ⟨(f3 b hb).1.2.2.2.1, (f3 b hb).1.2.1, (f3 b hb).1.2.2.2.2.1, (f3 b hb).1.2.2.2.2.2⟩
      have st : Ste B om H omE HE := ((s1'.ste.trans s3'.ste).trans (.sub x2)).trans sE
      refine ⟨HE, omE, IX, ⟨st.keep, st.grow, ?_⟩, Rel.unwipe RE uE⟩
      obtain ⟨t, et⟩ := s1'.ext
      exact ⟨t, by rw [show omE.τ = om2.τ from tE, t2, et]⟩
  refine ⟨I2.nolimit, ?_⟩
  cases hf : codeAmong gpos ps.toList with
  | none =>
    refine wpAny_genexprCodeX hcode (cd.code hPs htp) (cd.tab hPs) hf fun c' h' tk hx hge hlt hco' _ htab' _ => ?_
    obtain ⟨o1, vs1, f1, tf, fl, tg1, inF, tx, tt, op, _, _, _, _, _, _, _, _, _, htr, _⟩ := hco'
    obtain ⟨R3, s3⟩ := R1.tab hP htr
    refine cont _ _ _ (GxR.inv_tab (more := _) (g' := s2.gens) (d' := s2.drawn) (t' := tk) I2 eP (fun b o hb e => hx b o hb e) htab'.2 I2.bare) R3 s3 (fun b o hb e => hx b o hb e) (fun b hb => ?_) (Nat.le_trans hge (Nat.le_of_lt hlt))
    rw [upd_ne (fun z => Pfp (by rw [← z]; exact hb))]
    exact (f2 b hb).1
  | some cv =>
    refine wpAny_genexprCode_hit hcode (cd.code hPs htp) hf ?_
    exact cont cv s2 H2 I2 R1 .refl (fun _ _ _ e => e) (fun b hb => (f2 b hb).1) (Nat.le_refl _)
end
end Ev

set_option maxRecDepth 100000
set_option maxHeartbeats 4000000
namespace Ev
open PySem PySem.Spec PyProof.Rows L2 GenW
def allG (sv : Bool) (vs : List Nat) (fg : FG) (ft : FT) (fe : FE) (m : Nat) : List D → Er → Option (Bool × Er)
  | [], ρ => some (!sv, ρ)
  | d :: r, ρ => (fg d ρ).bind fun ρ1 => (ft ρ1).bind fun p => if p.1 = true then (fz fe p.2).bind fun q => (wipeR vs (q.2.take m)).bind fun ρ4 => match q.1 with
      | .bool b => if b = sv then some (sv, ρ4) else allG sv vs fg ft fe m r ρ4
      | _ => none
    else (wipeR vs (p.2.take m)).bind fun ρ4 => allG sv vs fg ft fe m r ρ4
def sumG (vs : List Nat) (fg : FG) (ft : FT) (fe : FE) (m : Nat) : Int → List D → Er → Option (Int × Er)
  | a, [], ρ => some (a, ρ)
  | a, d :: r, ρ => (fg d ρ).bind fun ρ1 => (ft ρ1).bind fun p => if p.1 = true then (fz fe p.2).bind fun q => (wipeR vs (q.2.take m)).bind fun ρ4 => match q.1 with
      | .int i => if inLong i && inLong (a + i) then sumG vs fg ft fe m (a + i) r ρ4 else none
      | _ => none
    else (wipeR vs (p.2.take m)).bind fun ρ4 => sumG vs fg ft fe m a r ρ4
theorem allG_tr {sv : Bool} {vs : List Nat} {fg : FG} {ft : FT} {fe : FE} {m : Nat} : ∀ {rest : List D} {ρ ρE : Er} {b : Bool}, allG sv vs fg ft fe m rest ρ = some (b, ρE) →
    ∃ l full, Tr (genN vs fg ft fe m) l full rest ρ ρE ∧ stopT sv l full b ∧ (l = [] → full = true) ∧ (l ≠ [] → full = false → ∃ y r, l.getLast? = some (y, r, ρE))
  | [], ρ, ρE, b, e => by
    cases e
    exact ⟨[], true, .done rfl, ⟨rfl, rfl⟩, fun _ => rfl, fun z => absurd rfl z⟩
  | d :: r, ρ, ρE, b, e => by
    simp only [allG] at e
    obtain ⟨ρ1, e1, e⟩ := Option.bind_eq_some_iff.mp e
    obtain ⟨⟨c, ρ2⟩, e2, e⟩ := Option.bind_eq_some_iff.mp e
    cases c with
    | true =>
      rw [if_pos rfl] at e
      obtain ⟨⟨y, ρ3⟩, e3, e⟩ := Option.bind_eq_some_iff.mp e
      obtain ⟨ρ4, e4, e⟩ := Option.bind_eq_some_iff.mp e
      have step : genN vs fg ft fe m (d :: r) ρ = some (some (y, r), ρ4) := by
        simp only [genN, e1, Option.bind_some, e2, if_pos, e3, e4, Option.map_some]
      cases y with
      | bool bb =>
        have e : (if bb = sv then some (sv, ρ4) else allG sv vs fg ft fe m r ρ4) = some (b, ρE) := e
        split at e
        · rename_i hb
          cases e
          exact ⟨[(.bool bb, r, ρE)], false, .stop step, ⟨bb, rfl, by rw [if_pos hb]; exact ⟨rfl, rfl, rfl⟩⟩, (fun z => nomatch z), fun _ _ => ⟨_, _, rfl⟩⟩
        · rename_i hb
          obtain ⟨l, full, tr, st, h1, h2⟩ := allG_tr e
          refine ⟨_, full, .more step tr, ⟨bb, rfl, by
            rw [if_neg hb]
            refine ⟨?_, st⟩
            cases l with
            | nil => exact .inl (h1 rfl)
            | cons _ _ => exact .inr (Nat.succ_pos _)⟩, (fun z => nomatch z), fun _ hf => ?_⟩
          cases l with
          | nil => rw [h1 rfl] at hf; cases hf
          | cons a t =>
            obtain ⟨y, r', e⟩ := h2 (fun z => nomatch z) hf
            exact ⟨y, r', by rw [List.getLast?_cons_cons]; exact e⟩
      | _ => cases e
    | false =>
      rw [if_neg Bool.false_ne_true] at e
      obtain ⟨ρ4, e4, e⟩ := Option.bind_eq_some_iff.mp e
      obtain ⟨l, full, tr, st, h1, h2⟩ := allG_tr e
      refine ⟨l, full, tr.skip ?_, st, h1, h2⟩
      simp only [genN, e1, Option.bind_some, e2, Bool.false_eq_true, if_false, e4]
theorem sumG_tr {vs : List Nat} {fg : FG} {ft : FT} {fe : FE} {m : Nat} : ∀ {rest : List D} {ρ ρE : Er} {a b : Int}, sumG vs fg ft fe m a rest ρ = some (b, ρE) → ∃ l, Tr (genN vs fg ft fe m) l true rest ρ ρE ∧ sumT l a b
  | [], ρ, ρE, a, b, e => by
    cases e
    exact ⟨[], .done rfl, rfl⟩
  | d :: r, ρ, ρE, a, b, e => by
    simp only [sumG] at e
    obtain ⟨ρ1, e1, e⟩ := Option.bind_eq_some_iff.mp e
    obtain ⟨⟨c, ρ2⟩, e2, e⟩ := Option.bind_eq_some_iff.mp e
    cases c with
    | true =>
      rw [if_pos rfl] at e
      obtain ⟨⟨y, ρ3⟩, e3, e⟩ := Option.bind_eq_some_iff.mp e
      obtain ⟨ρ4, e4, e⟩ := Option.bind_eq_some_iff.mp e
      have step : genN vs fg ft fe m (d :: r) ρ = some (some (y, r), ρ4) := by
        simp only [genN, e1, Option.bind_some, e2, if_pos, e3, e4, Option.map_some]
      cases y with
      | int i =>
        have e : (if (inLong i && inLong (a + i)) = true then sumG vs fg ft fe m (a + i) r ρ4 else none) = some (b, ρE) := e
        split at e
        · rename_i hl
          rw [Bool.and_eq_true] at hl
          obtain ⟨l, tr, st⟩ := sumG_tr e
          exact ⟨_, .more step tr, ⟨i, rfl, hl.1, hl.2, st⟩⟩
        · cases e
      | _ => cases e
    | false =>
      rw [if_neg Bool.false_ne_true] at e
      obtain ⟨ρ4, e4, e⟩ := Option.bind_eq_some_iff.mp e
      obtain ⟨l, tr, st⟩ := sumG_tr e
      refine ⟨l, tr.skip ?_, st⟩
      simp only [genN, e1, Option.bind_some, e2, Bool.false_eq_true, if_false, e4]
def fAll (sv : Bool) (vs : List Nat) (fi : FI) (fg : FG) (ft : FT) (fe : FE) : FE := fun ρ => (fi ρ).bind fun p => (wipeR vs p.2).bind fun ρ2 => (allG sv vs fg ft fe ρ2.length p.1 ρ2).map fun r => (.v (.bool r.1), r.2)
def fSum (vs : List Nat) (fi : FI) (fg : FG) (ft : FT) (fe : FE) : FE := fun ρ => (fi ρ).bind fun p => (wipeR vs p.2).bind fun ρ2 => (sumG vs fg ft fe ρ2.length 0 p.1 ρ2).map fun r => (.v (.int r.1), r.2)
section
variable {X : Cx} {B : Bx} {elt tg iter : Expr} {ifs : List Expr} {scope : Scope} {own : List (Str × Nat)} {gpos pos p : Pos} {fi : FI} {fg : FG} {ts : List Nat} {ft : FT} {fe : FE} {k : Nat} {c P : Addr}
theorem ev_all (hr : Room (k + 3) X.A) (hgl : Gl X "all") (hm : X.mg "all" = none) (TB : GxR.TabB X.base X.mg c P) (hcode : X.env.code = .ref c) (hP : P ∈ B.T)
    (hN : X.N.Nodup) (hi : EI X B tg iter fi) (ok : BlkOk X.N X.env.scope scope own) (hco : scope.isCoroutine = false) (cell : ∀ y ∈ scope.names, y.2 ≠ .cell) (dot : scope.names.lookup (".0" : Str) = some NameKind.local) (hts : ∀ t ∈ ts, t ∈ own.map (·.2))
    (hg : ∀ (s : Shared) (H : Hp) (C : Addr) (cl : List (Str × Addr)) (code : Value) (fp : List Addr), EG (gx X X.A.in1.in1 s H (genEnv scope cl C code builtinsNs X.env) fp) B tg fg ts)
    (ht : ∀ (s : Shared) (H : Hp) (C : Addr) (cl : List (Str × Addr)) (code : Value) (fp : List Addr), ETs (gx X X.A.in1.in1 s H (genEnv scope cl C code builtinsNs X.env) fp) B ifs ft)
    (he : ∀ (s : Shared) (H : Hp) (C : Addr) (cl : List (Str × Addr)) (code : Value) (fp : List Addr), EV (gx X X.A.in1.in1 s H (genEnv scope cl C code builtinsNs X.env) fp) B elt fe)
    (hs : ∀ x, genFold iter X.env x = pure x)
    (hst : starEach [.GeneratorExp elt [⟨tg, iter, ifs, 0⟩] scope gpos] X.env = (false, eval (.GeneratorExp elt [⟨tg, iter, ifs, 0⟩] scope gpos) X.env) :: starEach [] X.env) :
    EV X B (.Call (.Name "all" p) [.GeneratorExp elt [⟨tg, iter, ifs, 0⟩] scope gpos] [] pos) (fAll false (own.map (·.2)) fi fg ft fe) := fun ρ h ρ' q => by
  unfold fAll at q
  obtain ⟨⟨items, ρ1⟩, e1, q⟩ := Option.bind_eq_some_iff.mp q
  obtain ⟨ρ2, e2, q⟩ := Option.bind_eq_some_iff.mp q
  obtain ⟨⟨b, ρE⟩, e3, q⟩ := Option.map_eq_some_iff.mp q
  cases q
  obtain ⟨l, full, tr, st, h1, h2⟩ := allG_tr e3
  refine ⟨fun pins s σ H Q I ⟨om, R, kk⟩ => ?_⟩
  have hbt : bootBuiltins "all" = some (.builtin "all") := by rfl
  refine wpAny_Call_Name_kw (ld_blt I hgl hm hbt ?_)
  refine PyProof.Rows.callWith_builtin1 ?_ hst (by rfl)
  rw [hst]
  show wpAny _ _ (spliced ((false, eval (.GeneratorExp elt [⟨tg, iter, ifs, 0⟩] scope gpos) X.env) :: backTo pos (starEach [] X.env))) _ _ s
  refine Calls.spliced_cons (gen_make hr TB hcode hP hN hi ok hco cell dot hts hg ht he hs I R e1 e2 fun s5 a g G tn mk => ?_)
  refine Calls.spliced_nil ?_
  refine call_function_tree F.kind_all F.plain_all F.entry_all (F.args_all1 _) ?_
  unfold Builtin.«all»
  refine wpAny_bind (m := oneArg "all" _) (wpAny_pure ?_)
  refine wpAny_bind (wpAny_pyIter_gen mk.gen ?_)
  have af : Aft g none s5 s5 := ⟨rfl, mk.bare, rfl, fun _ _ e => e, fun b z => nomatch z⟩
  have lp := loop_all (G := G none) (A := X.A) (L := l) (R := fun r s' => r = .ok (.ret (.bool b)) ∧ (G none).Core ρE s') (mk.ok none s5 af) (mk.S_ none) hr.hd (by have := hr.dp; omega) (mk.go none) (fun s' c => ⟨rfl, c⟩) l items ρ2 s5 ⟨[], rfl⟩ h1 (mk.live none s5 l full ρE af tr) st h2
  rw [mk.prog, mk.w, mk.a_] at lp
  refine wpAny_pure ⟨plainId_quiet F.plain_all_loop _, codeAny_mono lp fun r s' ⟨hr', core⟩ => ?_⟩
  subst hr'
  obtain ⟨H', om', I', st', R'⟩ := mk.fin none ρE s' core
  exact ⟨.bl b, H', I', rfl, kk _ H' om' st' R' (.bl b)⟩
theorem ev_any (hr : Room (k + 3) X.A) (hgl : Gl X "any") (hm : X.mg "any" = none) (TB : GxR.TabB X.base X.mg c P) (hcode : X.env.code = .ref c) (hP : P ∈ B.T)
    (hN : X.N.Nodup) (hi : EI X B tg iter fi) (ok : BlkOk X.N X.env.scope scope own) (hco : scope.isCoroutine = false) (cell : ∀ y ∈ scope.names, y.2 ≠ .cell) (dot : scope.names.lookup (".0" : Str) = some NameKind.local) (hts : ∀ t ∈ ts, t ∈ own.map (·.2))
    (hg : ∀ (s : Shared) (H : Hp) (C : Addr) (cl : List (Str × Addr)) (code : Value) (fp : List Addr), EG (gx X X.A.in1.in1 s H (genEnv scope cl C code builtinsNs X.env) fp) B tg fg ts)
    (ht : ∀ (s : Shared) (H : Hp) (C : Addr) (cl : List (Str × Addr)) (code : Value) (fp : List Addr), ETs (gx X X.A.in1.in1 s H (genEnv scope cl C code builtinsNs X.env) fp) B ifs ft)
    (he : ∀ (s : Shared) (H : Hp) (C : Addr) (cl : List (Str × Addr)) (code : Value) (fp : List Addr), EV (gx X X.A.in1.in1 s H (genEnv scope cl C code builtinsNs X.env) fp) B elt fe)
    (hs : ∀ x, genFold iter X.env x = pure x)
    (hst : starEach [.GeneratorExp elt [⟨tg, iter, ifs, 0⟩] scope gpos] X.env = (false, eval (.GeneratorExp elt [⟨tg, iter, ifs, 0⟩] scope gpos) X.env) :: starEach [] X.env) :
    EV X B (.Call (.Name "any" p) [.GeneratorExp elt [⟨tg, iter, ifs, 0⟩] scope gpos] [] pos) (fAll true (own.map (·.2)) fi fg ft fe) := fun ρ h ρ' q => by
  unfold fAll at q
  obtain ⟨⟨items, ρ1⟩, e1, q⟩ := Option.bind_eq_some_iff.mp q
  obtain ⟨ρ2, e2, q⟩ := Option.bind_eq_some_iff.mp q
  obtain ⟨⟨b, ρE⟩, e3, q⟩ := Option.map_eq_some_iff.mp q
  cases q
  obtain ⟨l, full, tr, st, h1, h2⟩ := allG_tr e3
  refine ⟨fun pins s σ H Q I ⟨om, R, kk⟩ => ?_⟩
  refine wpAny_Call_Name_kw (ld_blt I hgl hm boot_any ?_)
  refine PyProof.Rows.callWith_builtin1 ?_ hst (by rfl)
  rw [hst]
  show wpAny _ _ (spliced ((false, eval (.GeneratorExp elt [⟨tg, iter, ifs, 0⟩] scope gpos) X.env) :: backTo pos (starEach [] X.env))) _ _ s
  refine Calls.spliced_cons (gen_make hr TB hcode hP hN hi ok hco cell dot hts hg ht he hs I R e1 e2 fun s5 a g G tn mk => ?_)
  refine Calls.spliced_nil ?_
  refine call_function_tree F.kind_any F.plain_any F.entry_any (F.args_any1 _) ?_
  unfold Builtin.«any»
  refine wpAny_bind (m := oneArg "any" _) (wpAny_pure ?_)
  refine wpAny_bind (wpAny_pyIter_gen mk.gen ?_)
  have af : Aft g none s5 s5 := ⟨rfl, mk.bare, rfl, fun _ _ e => e, fun b z => nomatch z⟩
  have lp := loop_any (G := G none) (A := X.A) (L := l) (R := fun r s' => r = .ok (.ret (.bool b)) ∧ (G none).Core ρE s') (mk.ok none s5 af) (mk.S_ none) hr.hd (by have := hr.dp; omega) (mk.go none) (fun s' c => ⟨rfl, c⟩) l items ρ2 s5 ⟨[], rfl⟩ h1 (mk.live none s5 l full ρE af tr) st h2
  rw [mk.prog, mk.w, mk.a_] at lp
  refine wpAny_pure ⟨plainId_quiet F.plain_any_loop _, codeAny_mono lp fun r s' ⟨hr', core⟩ => ?_⟩
  subst hr'
  obtain ⟨H', om', I', st', R'⟩ := mk.fin none ρE s' core
  exact ⟨.bl b, H', I', rfl, kk _ H' om' st' R' (.bl b)⟩
theorem ev_sum (hr : Room (k + 3) X.A) (hgl : Gl X "sum") (hm : X.mg "sum" = none) (TB : GxR.TabB X.base X.mg c P) (hcode : X.env.code = .ref c) (hP : P ∈ B.T)
    (hN : X.N.Nodup) (hi : EI X B tg iter fi) (ok : BlkOk X.N X.env.scope scope own) (hco : scope.isCoroutine = false) (cell : ∀ y ∈ scope.names, y.2 ≠ .cell) (dot : scope.names.lookup (".0" : Str) = some NameKind.local) (hts : ∀ t ∈ ts, t ∈ own.map (·.2))
    (hg : ∀ (s : Shared) (H : Hp) (C : Addr) (cl : List (Str × Addr)) (code : Value) (fp : List Addr), EG (gx X X.A.in1.in1 s H (genEnv scope cl C code builtinsNs X.env) fp) B tg fg ts)
    (ht : ∀ (s : Shared) (H : Hp) (C : Addr) (cl : List (Str × Addr)) (code : Value) (fp : List Addr), ETs (gx X X.A.in1.in1 s H (genEnv scope cl C code builtinsNs X.env) fp) B ifs ft)
    (he : ∀ (s : Shared) (H : Hp) (C : Addr) (cl : List (Str × Addr)) (code : Value) (fp : List Addr), EV (gx X X.A.in1.in1 s H (genEnv scope cl C code builtinsNs X.env) fp) B elt fe)
    (hs : ∀ x, genFold iter X.env x = pure x)
    (hst : starEach [.GeneratorExp elt [⟨tg, iter, ifs, 0⟩] scope gpos] X.env = (false, eval (.GeneratorExp elt [⟨tg, iter, ifs, 0⟩] scope gpos) X.env) :: starEach [] X.env) :
    EV X B (.Call (.Name "sum" p) [.GeneratorExp elt [⟨tg, iter, ifs, 0⟩] scope gpos] [] pos) (fSum (own.map (·.2)) fi fg ft fe) := fun ρ h ρ' q => by
  unfold fSum at q
  obtain ⟨⟨items, ρ1⟩, e1, q⟩ := Option.bind_eq_some_iff.mp q
  obtain ⟨ρ2, e2, q⟩ := Option.bind_eq_some_iff.mp q
  obtain ⟨⟨b, ρE⟩, e3, q⟩ := Option.map_eq_some_iff.mp q
  cases q
  obtain ⟨l, tr, st⟩ := sumG_tr e3
  refine ⟨fun pins s σ H Q I ⟨om, R, kk⟩ => ?_⟩
  have hbt : bootBuiltins "sum" = some (.builtin "sum") := by rfl
  refine wpAny_Call_Name_kw (ld_blt I hgl hm hbt ?_)
  refine PyProof.Rows.callWith_builtin1 ?_ hst (by rfl)
  rw [hst]
  show wpAny _ _ (spliced ((false, eval (.GeneratorExp elt [⟨tg, iter, ifs, 0⟩] scope gpos) X.env) :: backTo pos (starEach [] X.env))) _ _ s
  refine Calls.spliced_cons (gen_make hr TB hcode hP hN hi ok hco cell dot hts hg ht he hs I R e1 e2 fun s5 a g G tn mk => ?_)
  refine Calls.spliced_nil ?_
  refine call_function_tree F.kind_sum F.plain_sum F.entry_sum (F.args_sum1 _) ?_
  unfold Builtin.«sum»
  simp only [List.length_cons, List.length_nil]
  rw [if_neg (by decide)]
  refine wpAny_bind (wpAny_of_eq (show Builtin.Builtins.bindParams "sum" ["start"] 0 { } = pure [none] from rfl) ?_)
  refine wpAny_bind (wpAny_pyIter_gen mk.gen ?_)
  refine wpAny_bind (wpAny_mkInt ?_)
  refine wpAny_bind (wpAny_pure ?_)
  simp only [List.forIn_cons, List.forIn_nil]
  refine wpAny_bind (wpAny_bind (wpAny_bind (wpAny_isInstance (T := "int") (b := false) (typeIs_int _ _ _) PySem.sub_int_str ?_)))
  simp only [Bool.false_eq_true, if_false]
  refine wpAny_pure (wpAny_bind (wpAny_bind (wpAny_isInstance (T := "int") (b := false) (typeIs_int _ _ _) PySem.sub_int_bytes ?_)))
  simp only [Bool.false_eq_true, if_false]
  refine wpAny_pure (wpAny_bind (wpAny_bind (wpAny_isInstance (T := "int") (b := false) (typeIs_int _ _ _) PySem.sub_int_bytearray ?_)))
  simp only [Bool.false_eq_true, if_false]
  refine wpAny_pure (wpAny_pure ?_)
  refine wpAny_bind (wpAny_newObj_type ?_)
  have hSo := Heap.get?_push_size s5.heap (o := { cls := .type "list", data := .seq #[.int 0 s5.toks] }) rfl
  have af : Aft g (some s5.heap.objs.size) s5 { s5 with heap := s5.heap.push { cls := .type "list", data := .seq #[.int 0 s5.toks] }, toks := s5.toks + 1 } :=
    ⟨rfl, mk.bare, rfl, fun _ _ e => Heap.get?_push_of_some _ e, fun b z => by
      cases z
      exact ⟨Nat.le_refl _, _, hSo, fun _ z => nomatch z⟩⟩
  have lp := loop_sum (G := G (some s5.heap.objs.size)) (A := X.A) (L := l) (R := fun r s' => (∃ t, r = .ok (.ret (.int b t))) ∧ (G (some s5.heap.objs.size)).Core ρE s') (mk.ok _ _ af) (mk.S_ _) rfl hr.hd (by have := hr.dp; omega) (mk.go _) (fun s' t c => ⟨⟨t, rfl⟩, c⟩) l 0 s5.toks 0 _ ⟨[], rfl⟩ (mk.live _ _ l true ρE af tr) st hSo
  rw [mk.prog, mk.w, mk.a_] at lp
  refine wpAny_pure ⟨plainId_quiet F.plain_sum_loop _, codeAny_mono lp fun r s' ⟨⟨t, hr'⟩, core⟩ => ?_⟩
  subst hr'
  obtain ⟨H', om', I', st', R'⟩ := mk.fin _ ρE s' core
  exact ⟨.int b, H', I', ⟨t, rfl⟩, kk _ H' om' st' R' (.int b)⟩
end
end Ev

set_option maxRecDepth 100000
set_option maxHeartbeats 4000000
namespace Ev
open PySem PySem.Spec PyProof.Rows L2
section
variable {X : Cx} {B : Bx} {e : Expr} {es : List Expr} {fs : FA} {pos p : Pos} {n : Nat}
/-! ### calls of what is built in, plain results -/
theorem ev_blt {x : Str} {id : String} {sem : List D → Option D} (hc : CallR X (.builtin id) (rN X.K sem)) (hg : Gl X x) (hm : X.mg x = none) (hv : bootBuiltins x = some (.builtin id)) (ha : EA X B (e :: es) fs) (hn : x ≠ "__name__") (hdb : (x == ("__debug__" : Str)) = false)
    (he : starEach (e :: es) X.env = (false, eval e X.env) :: starEach es X.env) (hpl : (backTo pos (starEach es X.env)).any (·.1) = false) : EV X B (.Call (.Name x p) (e :: es) [] pos) (fCall fs sem) := fun ρ h ρ' q =>
  call_core ha q fun pa => pe_callB hc hg hm hv pa hn hdb he hpl
theorem pe_callTy {x : Str} {T : String} {r : List V → Hp → VK → Prop} {t : TA} (hc : CallR X (.type T) r) (hg : Gl X x) (hm : X.mg x = none) (hv : bootBuiltins x = some (.type T)) (ha : PA X (e :: es) t) (hn : x ≠ "__name__") (hdb : (x == ("__debug__" : Str)) = false)
    (he : starEach (e :: es) X.env = (false, eval e X.env) :: starEach es X.env) (hpl : (backTo pos (starEach es X.env)).any (·.1) = false) : PE X (.Call (.Name x p) (e :: es) [] pos) (tCB r t) := by
  refine ⟨fun pins s σ H Q I h => ?_⟩
  refine wpAny_Call_Name_kw (ld_blt I hg hm hv ?_ hn hdb)
  exact PyProof.Rows.callWith_type1 (thn (ha.run pos pins s σ H _ I h) fun us s1 ⟨vs, H1, I1, r1, q1⟩ => hc pins s1 σ H1 vs us Q I1 r1 q1) he hpl
theorem ev_bltT {x : Str} {T : String} {sem : List D → Option D} (hc : CallR X (.type T) (rN X.K sem)) (hg : Gl X x) (hm : X.mg x = none) (hv : bootBuiltins x = some (.type T)) (ha : EA X B (e :: es) fs) (hn : x ≠ "__name__") (hdb : (x == ("__debug__" : Str)) = false)
    (he : starEach (e :: es) X.env = (false, eval e X.env) :: starEach es X.env) (hpl : (backTo pos (starEach es X.env)).any (·.1) = false) : EV X B (.Call (.Name x p) (e :: es) [] pos) (fCall fs sem) := fun ρ h ρ' q =>
  call_core ha q fun pa => pe_callTy hc hg hm hv pa hn hdb he hpl
theorem ev_bltN {x : Str} {id : String} {sem : List D → Option D} (hc : CallR X (.builtin id) (rF X.K sem)) (hg : Gl X x) (hm : X.mg x = none) (hv : bootBuiltins x = some (.builtin id)) (ha : EA X B (e :: es) fs) (hn : x ≠ "__name__") (hdb : (x == ("__debug__" : Str)) = false)
    (he : starEach (e :: es) X.env = (false, eval e X.env) :: starEach es X.env) (hpl : (backTo pos (starEach es X.env)).any (·.1) = false) : EV X B (.Call (.Name x p) (e :: es) [] pos) (fNew fs sem) := fun ρ h ρ' q =>
  new_core ha q fun pa => pe_callB hc hg hm hv pa hn hdb he hpl
theorem ev_bltTN {x : Str} {T : String} {sem : List D → Option D} (hc : CallR X (.type T) (rF X.K sem)) (hg : Gl X x) (hm : X.mg x = none) (hv : bootBuiltins x = some (.type T)) (ha : EA X B (e :: es) fs) (hn : x ≠ "__name__") (hdb : (x == ("__debug__" : Str)) = false)
    (he : starEach (e :: es) X.env = (false, eval e X.env) :: starEach es X.env) (hpl : (backTo pos (starEach es X.env)).any (·.1) = false) : EV X B (.Call (.Name x p) (e :: es) [] pos) (fNew fs sem) := fun ρ h ρ' q =>
  new_core ha q fun pa => pe_callTy hc hg hm hv pa hn hdb he hpl
end
def semLen : List D → Option D
  | [.list ds] => some (.int ds.length)
  | [.tuple ds] => some (.int ds.length)
  | [.dict ps] => match ps with
    | (.none, .none) :: _ => none
    | ps => some (.int ps.length)
  | _ => none
def semAbs : List D → Option D
  | [.int i] => some (.int (if i < 0 then -i else i))
  | _ => none
def semMax2 : List D → Option D
  | [.int i, .int j] => some (.int (if j > i then j else i))
  | _ => none
def semMin2 : List D → Option D
  | [.int i, .int j] => some (.int (if j < i then j else i))
  | _ => none
def semInt : List D → Option D
  | [.int i] => some (.int i)
  | [.bool b] => some (.int (if b then 1 else 0))
  | _ => none
def semTuple : List D → Option D
  | [.list ds] => some (.tuple ds)
  | [.tuple ds] => some (.tuple ds)
  | _ => none
def semList : List D → Option D
  | [.list ds] => some (.list ds)
  | [.tuple ds] => some (.list ds)
  | _ => none
def semListD : List D → Option D
  | [.dict ps] => match ps with
    | (.none, .none) :: qs => some (.list (qs.map (·.1)))
    | ps => some (.list (ps.map (·.1)))
  | _ => none
section
variable {X : Cx} {K : PySem.W.Frag} {H : Hp} {Ex : Addr → Prop}
theorem RepBs.one {d : D} {vs : List V} (h : RepBs K H Ex [d] vs) : ∃ v, vs = [v] ∧ RepB K H Ex d v := by
  cases h with
  | cons h1 h2 => cases h2; exact ⟨_, rfl, h1⟩
theorem RepBs.two {d d' : D} {vs : List V} (h : RepBs K H Ex [d, d'] vs) : ∃ v w, vs = [v, w] ∧ RepB K H Ex d v ∧ RepB K H Ex d' w := by
  cases h with
  | cons h1 h2 =>
    obtain ⟨w, rfl, h3⟩ := h2.one
    exact ⟨_, _, rfl, h1, h3⟩
theorem cr_len : CallR X (.builtin "len") (rN X.K semLen) := by
  intro pins s σ H xs us Q I r h
  obtain ⟨Ex, ds, d, fr, rb, e, q⟩ := h
  unfold semLen at e
  split at e
  · cases e
    obtain ⟨v, rfl, b⟩ := rb.one
    obtain ⟨a, ys, rfl, sq, rr⟩ := b.lst
    refine call_len pins s σ H _ us Q I r ⟨_, ys.length, rfl, .inl ⟨ys, sq, rfl⟩, ?_⟩
    rw [← rr.length]
    exact q _ _ (fun _ _ z => z) (.int _)
  · cases e
    obtain ⟨v, rfl, b⟩ := rb.one
    obtain ⟨a, ys, rfl, sq, _, rr⟩ := b.tup
    refine call_len pins s σ H _ us Q I r ⟨_, ys.length, rfl, .inr ⟨ys, .of sq, rfl⟩, ?_⟩
    rw [← rr.length]
    exact q _ _ (fun _ _ z => z) (.int _)
  · split at e
    · cases e
    · rename_i ps hne
      cases e
      obtain ⟨v, rfl, b⟩ := rb.one
      obtain ⟨a, rfl, ⟨kvs, h1, h2⟩ | ⟨qs, kvs, rfl, _⟩⟩ := b.dict
      · obtain ⟨u, rfl, ru⟩ := r.one
        cases ru
        refine d_len I (.inl h1) fun t s' I' => ⟨.int kvs.length, H, I', ⟨t, rfl⟩, ?_⟩
        rw [← h2.len]
        exact q _ _ (fun _ _ z => z) (.int _)
      · exact absurd rfl (hne _)
  · cases e
theorem cr_abs : CallR X (.builtin "abs") (rN X.K semAbs) := by
  intro pins s σ H xs us Q I r h
  obtain ⟨Ex, ds, d, fr, rb, e, q⟩ := h
  unfold semAbs at e
  split at e
  · cases e
    obtain ⟨v, rfl, b⟩ := rb.one
    cases b.int
    exact call_abs pins s σ H _ us Q I r ⟨_, rfl, q _ _ (fun _ _ z => z) (.int _)⟩
  · cases e
theorem cr_max2 (hc : X.calm = true) : CallR X (.builtin "max") (rN X.K semMax2) := by
  intro pins s σ H xs us Q I r h
  obtain ⟨Ex, ds, d, fr, rb, e, q⟩ := h
  unfold semMax2 at e
  split at e
  · cases e
    obtain ⟨v, w, rfl, b, b'⟩ := rb.two
    cases b.int
    cases b'.int
    exact call_max2 hc pins s σ H _ us Q I r ⟨_, _, rfl, q _ _ (fun _ _ z => z) (.int _)⟩
  · cases e
theorem cr_min2 (hc : X.calm = true) : CallR X (.builtin "min") (rN X.K semMin2) := by
  intro pins s σ H xs us Q I r h
  obtain ⟨Ex, ds, d, fr, rb, e, q⟩ := h
  unfold semMin2 at e
  split at e
  · cases e
    obtain ⟨v, w, rfl, b, b'⟩ := rb.two
    cases b.int
    cases b'.int
    exact call_min2 hc pins s σ H _ us Q I r ⟨_, _, rfl, q _ _ (fun _ _ z => z) (.int _)⟩
  · cases e
theorem cr_int : CallR X (.type "int") (rN X.K semInt) := by
  intro pins s σ H xs us Q I r h
  obtain ⟨Ex, ds, d, fr, rb, e, q⟩ := h
  unfold semInt at e
  split at e
  · cases e
    obtain ⟨v, rfl, b⟩ := rb.one
    cases b.int
    exact call_int1 pins s σ H _ us Q I r (.inl ⟨_, rfl, q _ _ (fun _ _ z => z) (.int _)⟩)
  · cases e
    obtain ⟨v, rfl, b⟩ := rb.one
    cases b.bl
    exact call_int1 pins s σ H _ us Q I r (.inr ⟨_, rfl, q _ _ (fun _ _ z => z) (.int _)⟩)
  · cases e
theorem cr_tuple : CallR X (.type "tuple") (rN X.K semTuple) := by
  intro pins s σ H xs us Q I r h
  obtain ⟨Ex, ds, d, fr, rb, e, q⟩ := h
  unfold semTuple at e
  split at e
  · cases e
    obtain ⟨v, rfl, b⟩ := rb.one
    obtain ⟨a, ys, rfl, sq, rr⟩ := b.lst
    exact call_tuple_of pins s σ H _ us Q I r ⟨a, ys, rfl, .inl ⟨sq, fun l hl => q _ _ (same_upd hl) (new_tup fr hl rr)⟩⟩
  · cases e
    obtain ⟨v, rfl, b⟩ := rb.one
    obtain ⟨a, ys, rfl, sq, nx, rr⟩ := b.tup
    exact call_tuple_of pins s σ H _ us Q I r ⟨a, ys, rfl, .inr ⟨.of sq, q _ _ (fun _ _ z => z) (.tup sq nx rr)⟩⟩
  · cases e
theorem cr_list : CallR X (.type "list") (rF X.K semList) := by
  intro pins s σ H xs us Q I r h
  obtain ⟨Ex, ds, d, fr, rb, e, q⟩ := h
  unfold semList at e
  split at e
  · cases e
    obtain ⟨v, rfl, b⟩ := rb.one
    obtain ⟨a, ys, rfl, sq, rr⟩ := b.lst
    exact call_list_of pins s σ H _ us Q I r ⟨a, ys, rfl, .inl sq, fun l hl => q _ _ hl (.lst rr)⟩
  · cases e
    obtain ⟨v, rfl, b⟩ := rb.one
    obtain ⟨a, ys, rfl, sq, nx, rr⟩ := b.tup
    exact call_list_of pins s σ H _ us Q I r ⟨a, ys, rfl, .inr (.of sq), fun l hl => q _ _ hl (.lst rr)⟩
  · cases e
theorem RepK.keys : ∀ {ps : List (D × D)} {kvs : List (Key × V)}, RepK K H Ex ps kvs → Reps K H Ex (ps.map (·.1)) (kvs.map fun kv => kV kv.1)
  | _, _, .nil => .nil
  | _, _, .cons (k := k) h0 h1 h2 => by
    refine .cons ?_ (RepK.keys h2)
    cases k <;> simp only [keyOf] at h0 <;> cases h0
    · exact .int _
    · exact .str _
theorem keys_rep : ∀ {ds : List D} {ks : List Key}, keysOf ds = some ks → Reps K H Ex ds (ks.map kV)
  | [], _, e => by cases e; exact .nil
  | d :: ds, ks, e => by
    simp only [keysOf] at e
    split at e
    · rename_i k ks' e1 e2
      cases e
      refine .cons ?_ (keys_rep e2)
      cases d <;> simp only [keyOf] at e1 <;> cases e1
      · exact .int _
      · exact .str _
    · cases e
theorem RepT.keys (fr : Fresh Ex H) : ∀ {ps : List (D × D)} {kvs : List (List Key × V)} {bs : List Addr}, RepT K H Ex ps kvs → IsKeys H kvs bs → Reps K H Ex (ps.map (·.1)) (bs.map V.ref)
  | _, _, _, .nil, h => by cases h; exact .nil
  | _, _, _, .cons (k := k) h0 h1 h2, h => by
    cases h with
    | cons g1 g2 =>
      refine .cons ?_ (RepT.keys fr h2 g2)
      cases k <;> simp only [tkeyOf] at h0 <;> try cases h0
      exact .tup g1 (fun z => by
        obtain ⟨o, eo, n⟩ := fr _ z
        rw [g1] at eo; cases eo
        exact n _ rfl) (keys_rep h0)
theorem cr_listD (hc : X.calm = true) : CallR X (.type "list") (rF X.K semListD) := by
  intro pins s σ H xs us Q I r h
  obtain ⟨Ex, ds, d, fr, rb, e, q⟩ := h
  unfold semListD at e
  split at e
  · rename_i ps
    obtain ⟨v, rfl, b⟩ := rb.one
    obtain ⟨a, rfl, ⟨kvs, h1, h2⟩ | ⟨qs, kvs, rfl, h1, h2⟩⟩ := b.dict
    · have e' : some (PyData.list (ps.map (·.1))) = some d := by
        cases h2 with
        | nil => exact e
        | cons h0 _ _ =>
          split at e
          · rename_i hh
            have h8 := congrArg Prod.fst (List.cons.inj hh).1
            simp only at h8
            subst h8
            cases h0
          · exact e
      cases e'
      exact call_list_dK hc pins s σ H _ us Q I r ⟨a, kvs, rfl, h1, fun p hp => q _ _ hp (.lst h2.keys)⟩
    · have e' : some (PyData.list (qs.map (·.1))) = some d := e
      cases e'
      exact call_list_dT hc pins s σ H _ us Q I r ⟨a, kvs, rfl, .inl h1, fun p bs hp hb => q _ _ hp (.lst (h2.keys fr hb))⟩
  · cases e
end

/-! ### sorted -/
def isTup1 : D → Bool
  | .tuple (_ :: _) => true
  | _ => false
def noTup : D → Bool
  | .none => false
  | .tuple _ => false
  | _ => true
def sortOk (ds : List D) : Bool := (ds.all fun d => ds.all fun d' => PySem.W.alike d d') && (ds.all isTup1 || ds.all noTup) && (ds.all fun d => decide (d.depth ≤ 60)) && few ds.length && PyData.canLayAll0 ds
def srt (ds : List D) : List D := ds.mergeSort (PySem.W.dataLe false fun d => d)
def semSort : List D → Option D
  | [.list ds] => if sortOk ds then some (.list (srt ds)) else none
  | _ => none
section
variable {X : Cx}
theorem each_of {K : PySem.W.Frag} {H : Hp} {Ex : Addr → Prop} : ∀ {ds : List D} {vs : List V} {us : List Value}, Reps K H Ex ds vs → Vals vs us → PySem.W.EachIs (fun u d => ∃ v, RelV v u ∧ Rep K H Ex d v) us ds
  | _, _, _, .nil, .nil => .nil
  | _, _, _, .cons h1 h2, .cons g1 g2 => .cons ⟨_, g1, h1⟩ (each_of h2 g2)
theorem of_each {K : PySem.W.Frag} {H : Hp} {Ex : Addr → Prop} : ∀ {ds : List D} {us : List Value}, PySem.W.EachIs (fun u d => ∃ v, RelV v u ∧ Rep K H Ex d v) us ds → ∃ vs, Vals vs us ∧ Reps K H Ex ds vs
  | _, _, .nil => ⟨[], .nil, .nil⟩
  | _, _, .cons ⟨v, g, h⟩ r => by
    obtain ⟨vs, g2, h2⟩ := of_each r
    exact ⟨v :: vs, .cons g g2, .cons h h2⟩
theorem each_reads {pins : List (Addr × Obj)} {s : Shared} {σ : L2.St} {H : Hp} {Ex : Addr → Prop} (I : Inv X pins σ H s) : ∀ {ds : List D} {vs : List V} {us : List Value}, PyData.canLayAll0 ds = true → Reps X.K H Ex ds vs → Vals vs us → PySem.W.EachIs (fun u d => ∃ as, Reads s.heap u d as) us ds
  | _, _, _, _, .nil, .nil => .nil
  | _, _, _, c, .cons h1 h2, .cons g1 g2 => by
    simp only [PyData.canLayAll0, Bool.and_eq_true] at c
    exact .cons (Dp.reads I _ _ _ (Rep.dp _ _ c.1 h1) g1) (each_reads I c.2 h2 g2)
theorem cr_sorted (hu : X.A.units + 64 < cLine) : CallR X (.builtin "sorted") (rF X.K semSort) := by
  intro pins s σ H xs us Q I r h
  obtain ⟨Ex, ds, d, fr, rb, e, q⟩ := h
  unfold semSort at e
  split at e
  · rename_i ds'
    split at e
    · rename_i ok
      cases e
      obtain ⟨v, rfl, b⟩ := rb.one
      obtain ⟨a, ys, rfl, sq, rr⟩ := b.lst
      obtain ⟨u, rfl, ru⟩ := r.one
      cases ru
      obtain ⟨its, rv, pl, hz⟩ := I.list sq
      unfold sortOk at ok
      simp only [Bool.and_eq_true, Bool.or_eq_true, List.all_eq_true, decide_eq_true_eq] at ok
      obtain ⟨⟨⟨⟨o1, o2⟩, o3⟩, o4⟩, o5⟩ := ok
      have mm : ∀ l : List D, l.map (fun d : D => d) = l := fun l => List.map_id' l
      have e1 := each_of rr rv
      have len := rr.length
      refine PySem.W.sorted_data (R := fun u d => ∃ v, RelV v u ∧ Rep X.K H Ex d v) (enc := fun d : D => d) pl.isList e1 (each_reads I o5 rr rv) (by rw [mm]; exact fun d hd d' hd' => o1 d hd d' hd') (by
        rw [mm]
        rcases o2 with o2 | o2
        · refine .inl fun d hd => ?_
          have := o2 d hd
          unfold isTup1 at this
          split at this
          · exact ⟨_, _, rfl⟩
          · cases this
        · refine .inr fun d hd => ⟨fun z => ?_, fun xs z => ?_⟩
          · have := o2 d hd
            rw [z] at this; cases this
          · have := o2 d hd
            rw [z] at this; cases this) (line_ok (of_decide_eq_true o4)) (fun b hb => by have := o3 b hb; omega) fun out ho eo => ?_
      obtain ⟨vs, g1, g2⟩ := of_each eo
      obtain ⟨ep, he'⟩ := PyProof.Rows.sortedAll_at s.heap its out.toArray
      have hl : vs.length ≤ sizeLine := by
        rw [g1.length, ho]
        exact line_ok (of_decide_eq_true o4)
      have hn := I.hok.fresh (Nat.le_succ s.heap.objs.size)
      exact ⟨.ref _, upd H (s.heap.objs.size + 1) (.lst vs), I.laid (t' := s.toks) (fun _ _ => PyProof.Rows.sortedAll_old) (Nat.le_succ _) ⟨hl, out, ep, g1, he'⟩, rfl, q _ _ hn (.lst g2)⟩
    · cases e
  · cases e
end
end Ev

set_option maxRecDepth 100000
set_option maxHeartbeats 4000000
namespace Ev
open PySem PySem.Spec PyProof.Rows L2

/-! ### isinstance -/
def tyD : D → Option String
  | .none => some "NoneType"
  | .bool _ => some "bool"
  | .int _ => some "int"
  | .str _ => some "str"
  | .list _ => some "list"
  | .tuple _ => some "tuple"
  | .dict _ => some "dict"
def subTy (a b : String) : Bool := a == b || (a == "bool" && b == "int")
def tyNames : List String := ["NoneType", "bool", "int", "str", "list", "tuple", "dict"]
theorem kit_sub : ∀ a ∈ tyNames, ∀ b ∈ ["bool", "int", "str", "list", "tuple", "dict"], kitB a b = some (subTy a b) := by decide +kernel
theorem tyD_mem {d : D} {a : String} (h : tyD d = some a) : a ∈ tyNames := by
  cases d <;> simp only [tyD] at h <;> cases h <;> decide
section
variable {X : Cx} {B : Bx} {e : Expr} {fe : FE} {pos p p1 p2 p3 : Pos}
theorem RepB.ty {K : PySem.W.Frag} {H : Hp} {Ex : Addr → Prop} {d : D} {v : V} {a : String} (b : RepB K H Ex d v) (h : tyD d = some a) : TyX K H v (.type a) := by
  rcases b with b | ⟨x, rfl, b⟩
  · cases b with
    | non => cases h; exact .base .non
    | bl _ => cases h; exact .base (.bl _)
    | int _ => cases h; exact .base (.int _)
    | str _ => cases h; exact .base (.str _)
    | lst h1 _ =>
      cases h
      rcases h1 with ⟨r, _⟩ | ⟨o, its, n, lk, c, _⟩
      · rcases r with r | ⟨o, r⟩
        · exact .base (.lst r)
        · exact .base (.frz r)
      · exact .kList lk c
    | tup h1 _ _ => cases h; exact .base (.tup h1)
    | dk h1 _ _ => cases h; exact .base (.dK h1)
    | dt h1 _ _ => cases h; exact .base (.dT h1)
  · cases b with
    | lst h1 _ => cases h; exact .base (.lst h1)
    | dk h1 _ => cases h; exact .base (.dK h1)
    | dt h1 _ => cases h; exact .base (.dT h1)
def fIsi (fe : FE) (T : String) : FE := fun ρ => (fe ρ).bind fun p => (res p.1 p.2).bind fun d => (tyD d).map fun a => (.v (.bool (subTy a T)), p.2)
def fIsi2 (fe : FE) (T U : String) : FE := fun ρ => (fe ρ).bind fun p => (res p.1 p.2).bind fun d => (tyD d).map fun a => (.v (.bool (subTy a T || subTy a U)), p.2)
theorem ev_isi {T : Str} {t : String} (hT : t ∈ ["bool", "int", "str", "list", "tuple", "dict"]) (hg : Gl X "isinstance") (hm : X.mg "isinstance" = none) (hgT : Gl X T) (hmT : X.mg T = none) (hvT : bootBuiltins T = some (.type t)) (hnT : T ≠ "__name__") (hdT : (T == ("__debug__" : Str)) = false) (he : EV X B e fe)
    (h1 : starEach [e, .Name T p1] X.env = (false, eval e X.env) :: starEach [.Name T p1] X.env) (h2 : starEach [.Name T p1] X.env = (false, eval (.Name T p1) X.env) :: starEach [] X.env) (hpl : (backTo pos (starEach [.Name T p1] X.env)).any (·.1) = false) :
    EV X B (.Call (.Name "isinstance" p) [e, .Name T p1] [] pos) (fIsi fe t) := fun ρ h ρ' q => by
  unfold fIsi at q
  obtain ⟨⟨h3, ρ1⟩, e1, q⟩ := Option.bind_eq_some_iff.mp q
  obtain ⟨d, e2, q⟩ := Option.bind_eq_some_iff.mp q
  obtain ⟨a, e3, q⟩ := Option.map_eq_some_iff.mp q
  cases q
  refine pe_imp (pe_callB call_isi hg hm boot_isinstance (pa_cons (he _ _ _ e1) (pa_cons (pe_bltn hgT hmT hvT (v := .ty t) rfl hnT hdT) pa_nil h2) h1) (by decide) (by decide) h1 hpl) fun σ H Q ⟨om, R, k⟩ => ⟨om, R, fun v H' om' s R' r => ?_⟩
  have b := R'.resb r e2
  exact ⟨v, .ty t, .type a, .type t, subTy a t, rfl, .ty t, b.ty e3, kit_ty (kit_sub a (tyD_mem e3) t hT), k _ H' om' s R' (.bl _)⟩
theorem ev_isi2 {T U : Str} {t u : String} {kk : Nat} (hT : t ∈ ["bool", "int", "str", "list", "tuple", "dict"]) (hU : u ∈ ["bool", "int", "str", "list", "tuple", "dict"]) (hg : Gl X "isinstance") (hm : X.mg "isinstance" = none) (hgT : Gl X T) (hmT : X.mg T = none) (hvT : bootBuiltins T = some (.type t)) (hnT : T ≠ "__name__") (hdT : (T == ("__debug__" : Str)) = false)
    (hgU : Gl X U) (hmU : X.mg U = none) (hvU : bootBuiltins U = some (.type u)) (hnU : U ≠ "__name__") (hdU : (U == ("__debug__" : Str)) = false) (he : EV X B e fe)
    (h1 : starEach [e, .Tuple [.Name T p1, .Name U p2] kk p3] X.env = (false, eval e X.env) :: starEach [.Tuple [.Name T p1, .Name U p2] kk p3] X.env) (h2 : starEach [.Tuple [.Name T p1, .Name U p2] kk p3] X.env = (false, eval (.Tuple [.Name T p1, .Name U p2] kk p3) X.env) :: starEach [] X.env) (hpl : (backTo pos (starEach [.Tuple [.Name T p1, .Name U p2] kk p3] X.env)).any (·.1) = false)
    (h3 : starEach [.Name T p1, .Name U p2] X.env = (false, eval (.Name T p1) X.env) :: starEach [.Name U p2] X.env) (h4 : starEach [.Name U p2] X.env = (false, eval (.Name U p2) X.env) :: starEach [] X.env) :
    EV X B (.Call (.Name "isinstance" p) [e, .Tuple [.Name T p1, .Name U p2] kk p3] [] pos) (fIsi2 fe t u) := fun ρ h ρ' q => by
  unfold fIsi2 at q
  obtain ⟨⟨h5, ρ1⟩, e1, q⟩ := Option.bind_eq_some_iff.mp q
  obtain ⟨d, e2, q⟩ := Option.bind_eq_some_iff.mp q
  obtain ⟨a, e3, q⟩ := Option.map_eq_some_iff.mp q
  cases q
  refine pe_imp (pe_callB call_isiT hg hm boot_isinstance (pa_cons (he _ _ _ e1) (pa_cons (pe_tup (pa_cons (pe_bltn hgT hmT hvT (v := .ty t) rfl hnT hdT) (pa_cons (pe_bltn hgU hmU hvU (v := .ty u) rfl hnU hdU) pa_nil h4) h3)) pa_nil h2) h1) (by decide) (by decide) h1 hpl) fun σ H Q ⟨om, R, k⟩ => ⟨om, R, fun v H' om' s R' r => ⟨by show 2 ≤ sizeLine; decide, fun tp hn => ?_⟩⟩
  have sm := same_upd (o := HO.tup [V.ty t, V.ty u]) hn
  have b := (R'.resb r e2)
  have b' : RepB X.K (upd H' tp (.tup [V.ty t, V.ty u])) (Exs B om') d v := by
    rcases b with b | ⟨x, rfl, b⟩
    · exact .inl (b.same sm)
    · refine .inr ⟨x, rfl, b.mono (.of sm) (fun _ z => .inl z) ?_⟩
      obtain ⟨o, eo, _⟩ := b.some
      exact upd_ne (ne_of_none eo hn)
  refine ⟨v, tp, [.ty t, .ty u], .type a, [.type t, .type u], subTy a t || subTy a u, rfl, upd_same, .cons (.ty t) (.cons (.ty u) .nil), b'.ty e3, ?_, k _ _ om' (s.trans (.same sm)) (R'.same sm) (.bl _)⟩
  refine kitAny_cons (kit_ty (kit_sub a (tyD_mem e3) t hT)) (fun hf => ?_) fun ht => by rw [ht]; rfl
  rw [hf, Bool.false_or]
  exact kitAny_cons (kit_ty (kit_sub a (tyD_mem e3) u hU)) (fun hf => by rw [hf]; exact kitAny_nil) fun ht => ht
/-! ### d.get -/
def fGet2 (fo fe ff : FE) : FE := fun ρ => (fo ρ).bind fun p => match res p.1 p.2 with
  | some (.dict _) => (fe p.2).bind fun q => (fz ff q.2).bind fun r => (res p.1 r.2).bind fun d => match d with
    | .dict ps => (res q.1 r.2).bind fun kd => (lkD ps kd).map fun o => (.v (o.getD r.1), r.2)
    | _ => none
  | _ => none
end
end Ev

set_option maxRecDepth 100000
set_option maxHeartbeats 4000000
namespace Ev
open PySem PySem.Spec PyProof.Rows L2
theorem Room.u1 {k : Nat} {A : Around} (r : Room k A) : A.units + 1 < cLine := by have := r.un; omega
theorem Room.u64 {k : Nat} {A : Around} (r : Room k A) : A.units + 64 < cLine := by have := r.un; omega
theorem Room.u65 {k : Nat} {A : Around} (r : Room k A) : A.units + 65 < cLine := by have := r.un; omega
theorem Room.gen {k : Nat} {A : Around} (r : Room (k + 3) A) (env : Env) : Room k (A.in1.in1.deeper env) := ((L2.Room.in1 (L2.Room.in1 r)).deeper env)
section
variable {P : Program} {w : World} {K : PySem.W.Frag} {mg : Str → Option Value} {base : Heap} {x qual : Str} {params : Arguments} {body : List Stmt} {scope : Scope} {fd : FuncData} {p : He.Defn}
/-- a def keeps its promise; its code object is the one that stands -/
theorem fn_okC {N ps : List Str} {k : Nat} {T : List Addr} {ios : List Bool} {fb : FS} (F : FunD K x qual params body scope [] [] (He.fAd K p) fd) (S : FnScope N ps scope) (hi : ios.length = ps.length) (hl : ps.length ≤ N.length)
    (hb : ∀ (A : Around) (outer : List Env) (s : Shared) (H : Hp) (E : XK) (Ex0 : Addr → Prop) (H0 : Hp) (I0 : Nat → Option Addr), Room k (A.deeper (envOfC qual scope s.heap.objs.size (He.fAd K p) (.ref (He.codeOf K p)))) →
      ESs (cxOf CX0 P w K mg base N qual scope (He.fAd K p) (.ref (He.codeOf K p)) A outer s H E).nox ⟨T, Ex0, H0, I0, none⟩ body fb) : FnOk P w K mg base CX0 (k + 1) (He.fAd K p) fd ps (spF K T ⟨ios, gDef N.length ios fb⟩) := by
  obtain ⟨oc, od, dV, kV, doc, pm, an, cdv, ct, osl, rfl, lk, hcd, _, _⟩ := F.ex
  obtain ⟨c, rfl⟩ := He.codeIn_ref hcd
  have ec : He.codeOf K p = c := He.codeOf_eq lk rfl
  rw [ec] at hb
  have len : ∀ vs H Q E, spF K T ⟨ios, gDef N.length ios fb⟩ vs H Q E → vs.length = ps.length := fun vs H Q E ⟨Ex, ds, r, outs, _, _, _, ar, _⟩ => by rw [ar.len.2]; exact hi
  refine fn_of lk hcd S len fun A outer s H vs Q E hr h => ?_
  obtain ⟨Ex, ds, r, outs, fr, tx, tt, ar, inj, g, k⟩ := h
  have g : gDef N.length ios fb ds = some (r, outs) := g
  unfold gDef at g
  rw [if_pos ar.len.1] at g
  obtain ⟨rr, e1, g⟩ := Option.bind_eq_some_iff.mp g
  refine ⟨_, PSs.nox (hb A outer s H E Ex H (ioA ios vs) hr _ _ e1), ⟨ioA ios vs, []⟩, ?_, rfl, ?_⟩
  · unfold L2.start
    refine start_rel (m := N.length - ios.length) ?_ fr tx tt ar inj
    rw [ar.len.2]
  · have fin : ∀ {ρ' : Er} {d : D} {v : V} {σ' : L2.St} {H' : Hp} {om' : Om}, ioOk ios ρ' = true → Rel K ⟨T, Ex, H, ioA ios vs, none⟩ ρ' om' σ' H' → Rep K H' (Exs ⟨T, Ex, H, ioA ios vs, none⟩ om') d v → r = d → outs = outsOf ios ρ' → Q v H' := fun {ρ' d v σ' H' om'} io R rp e1 e2 => by
      subst e1 e2
      have x2 : ∀ a, Ex a → Exs ⟨T, Ex, H, ioA ios vs, none⟩ om' a := fun a z => .inl z
      refine k v H' (fun a o e n nt => R.keep a o e n nt) R.tabs (rp.less x2) fun i a e => ?_
      obtain ⟨d, e3, e4⟩ := outs_at io e
      obtain ⟨b, _, _, ro, eb⟩ := R.io i d e3
      have eb : ioA ios vs i = some b := eb
      rw [e] at eb; cases eb
      exact ⟨d, e4, ro.mono .refl (fun a z => .inl (x2 a z)) rfl⟩
    cases rr with
    | ret d ρ' =>
      simp only at g
      split at g
      · rename_i io
        cases g
        exact fun v σ' H' om' s R rp => fin io R rp rfl rfl
      · cases g
    | nx ρ' =>
      simp only at g
      split at g
      · rename_i io
        cases g
        exact fun σ' H' om' s R t => fin io R .non rfl rfl
      · cases g
    | bk ρ' => cases g
    | ct ρ' => cases g
/-- a promise that nobody can ask for -/
def nevF (ios : List Bool) : Fn := ⟨ios, fun _ => none⟩
theorem fn_never {f : Addr} {ps : List Str} {k : Nat} {T : List Addr} {ios : List Bool} : FnOk P w K mg base CX0 k f fd ps (spF K T (nevF ios)) :=
  ⟨(fun vs H Q E ⟨_, _, _, _, _, _, _, _, _, g, _⟩ => nomatch g), fun A outer s H args us vs Q E hr he hb hv ⟨_, _, _, _, _, _, _, _, _, g, _⟩ => nomatch g⟩
end
/-- what stands behind the top, over the base -/
structure LC (K : PySem.W.Frag) (mg : Str → Option Value) (base : Heap) (T : List Addr) (fa : List He.Fa) (fn : List He.DefD) (tf : List He.Defn) : Prop where
  c : He.SaysD fa fn K
  kin : K.In base
  ns : base.Ns mainGlobals mg
  tb : ∀ p ∈ tf, GxR.TabB base mg (He.codeOf K p) (He.cT K p).2
  tT : ∀ p ∈ tf, (He.cT K p).2 ∈ T
section
variable {P : Program} {w : World} {K : PySem.W.Frag} {mg : Str → Option Value} {base : Heap} {T : List Addr} {fa : List He.Fa} {fn : List He.DefD} {tf : List He.Defn}
theorem LC.free (L : LC K mg base T fa fn tf) (i : Nat) {x : Str} (h : fa[i]? = some (.free x)) : mg x = none := He.free_ok L.kin L.ns (L.c.fact i h)
theorem LC.glo (L : LC K mg base T fa fn tf) (i : Nat) {x : Str} (h : fa[i]? = some (.glo x)) : mg x = some (.ref (He.ga K x)) := He.glo_ok L.kin L.ns (L.c.fact i h)
theorem LC.int (L : LC K mg base T fa fn tf) (i : Nat) {x : Str} {n : Int} (h : fa[i]? = some (.int x n)) : ∃ t, mg x = some (.int n t) := He.int_ok L.kin L.ns (L.c.fact i h)
/-- the promise behind a name -/
theorem ctr_of {k : Nat} {ps : List Str} {F : Fn} {fd : FuncData} {qual : Str} {params : Arguments} {body : List Stmt} {scope : Scope} {x : Str} (L : LC K mg base T fa fn tf) (i : Nat) (hi : fa[i]? = some (.glo x)) (Fd : FunD K x qual params body scope [] [] (He.fAd K (x, none)) fd)
    (hb : Binds K fd ps []) (hF : FnOk P w K mg base CX0 k (He.fAd K (x, none)) fd ps (spF K T F)) : Ctr P w K mg base CX0 k T x F := ⟨_, fd, ps, L.glo i hi, Fd.kp, hb, hF⟩
end
end Ev

set_option maxRecDepth 100000
set_option maxHeartbeats 4000000
namespace Ev
open PySem PySem.Spec PyProof.Rows L2
section
variable {P : Program} {w : World} {A : Around} {E : Value → Shared → Prop} {s : Shared}
set_option maxRecDepth 100000 in
set_option maxHeartbeats 3200000 in
theorem set_of_list {l : Addr} {items : Array Value} (ns : List Int) {Q : Value → Shared → Prop} (hh : A.handled = none) (hl : s.heap.IsList l items) (hit : IntsAre items.toList ns) (hb : ns.length + 1 < scanBound)
    (h : ∀ (h' : Heap) (tk c : Nat), SetR w h' s.heap.objs.size (fun j => decide (j ∈ ns)) c → c ≤ ns.length → (∀ b o, s.heap.get? b = some o → h'.get? b = some o) → Q (.ref s.heap.objs.size) { s with heap := h', toks := tk }) :
    wpAny (model P w) A (call (.type "set") [.ref l]) Q E s := by
  have hisz : items.size = ns.length := by
    have q := IntsAre.length hit
    rw [Array.length_toList] at q
    exact q
  obtain ⟨c, tl, hmro⟩ := F.called_set.mro
  have hmade := F.called_set.made
  have hsub := F.called_set.sub
  refine wpAny_call (codeAny_of_tree ?_)
  show wpAny _ _ (callAny (.type "set") _) _ _ _
  refine wpAny_pure ⟨Code.quiet_builtin _ (by decide +kernel), codeAny_builtin F.entry_type_call ?_⟩
  rw [Around.under_plain (weight_type_call_type "set" [.ref l] []) rfl]
  have h1 := F.called_set.notType
  have h2 := F.called_set.canCreate
  have hct := F.typeCall_set_1 (.ref l)
  repeat (any_goals (first | assumption | wp_step))

  refine codeAny_mono (code_set_led1 (.ref l) (E := E) (Q₁ := fun obj s₁ => obj = .ref s.heap.objs.size ∧ s₁ = { s with heap := s.heap.push { cls := .type "set", dict := none, data := .set #[] 0 (.fresh 0 0 (!w.params.followText "set-order")) } }) ⟨rfl, rfl⟩) fun r s₁ hr => ?_
  cases r with
  | error e => exact hr
  | ok fl =>
    cases fl with
    | ret obj =>
      obtain ⟨rfl, rfl⟩ := hr
      have hS : (s.heap.push { cls := .type "set", dict := none, data := .set #[] 0 (.fresh 0 0 (!w.params.followText "set-order")) }).get? s.heap.objs.size = some { cls := .type "set", dict := none, data := .set #[] 0 (.fresh 0 0 (!w.params.followText "set-order")) } := Heap.get?_push_size _ rfl
      have hT : Shared.TypeIs { s with heap := s.heap.push { cls := .type "set", dict := none, data := .set #[] 0 (.fresh 0 0 (!w.params.followText "set-order")) } } (.ref s.heap.objs.size) "set" := ⟨_, hS, rfl⟩
      have hli := F.called_set.init.lookup
      have hbi := F.called_set.init.bind (.ref s.heap.objs.size)
      repeat (any_goals (first | assumption | wp_step))

      refine codeAny_mono (codeAny_call_builtin (R := wants (fun r s₂ => r = .none ∧ ∃ h' tk c, s₂ = { s with heap := h', toks := tk } ∧ SetR w h' s.heap.objs.size (fun j => decide (j ∈ ns)) c ∧ c ≤ ns.length ∧
          (∀ b o, s.heap.get? b = some o → h'.get? b = some o)) E) F.called_set.init.plain F.entry_set_init (check_set_init_1 hT ?_)) fun r₂ s₂ hr₂ => ?_
      · obtain ⟨ol, hol, hcl, nl, hdl⟩ := hl
        obtain ⟨ocls, odict, odata, oslots⟩ := ol
        simp only at hcl hdl
        subst hcl; subst hdl
        have hol' : (s.heap.push { cls := .type "set", dict := none, data := .set #[] 0 (.fresh 0 0 (!w.params.followText "set-order")) }).get? l = some { cls := .type "list", dict := odict, data := .seq items nl, slots := oslots } := Heap.get?_push_of_some _ hol
        have hsls := F.sub_list_set
        have hslf := F.sub_list_frozenset
        have hne : (Value.type "list" == Value.type "dict") = false := by decide
        have hl1 : (s.heap.push { cls := .type "set", dict := none, data := .set #[] 0 (.fresh 0 0 (!w.params.followText "set-order")) }).IsList l items := ⟨_, hol', rfl, nl, rfl⟩
        unfold Builtin.«set.__init__» noKeywords Builtin.Frozenset.updateFrom
        generalize hPI : pyIter = PI
        wp_walk
        subst hPI

        refine wpAny_pyIter_list hl1 ?_
        refine wpAny_bind (wpAny_runValue ?_)
        have hlS : l < s.heap.objs.size := Heap.lt_size hol
        have hh3 : A.in1.in1.in1.handled = none := by simp [hh]
        have hz1 : (s.heap.push { cls := .type "set", dict := none, data := .set #[] 0 (.fresh 0 0 (!w.params.followText "set-order")) }).objs.size = s.heap.objs.size + 1 := Heap.size_push ..
        have hneI : l ≠ (s.heap.push { cls := .type "set", dict := none, data := .set #[] 0 (.fresh 0 0 (!w.params.followText "set-order")) }).objs.size := by
          rw [Heap.size_push]; exact Nat.ne_of_lt (Nat.lt_succ_of_lt hlS)
        have hSf : s.heap.objs.size ∉ [(s.heap.push { cls := .type "set", dict := none, data := .set #[] 0 (.fresh 0 0 (!w.params.followText "set-order")) }).objs.size, l] := by
          rw [Heap.size_push]; simp only [List.mem_cons, List.mem_singleton, List.not_mem_nil, or_false, not_or]
          exact ⟨Nat.ne_of_lt (Nat.lt_succ_self _), Nat.ne_of_gt hlS⟩
        have hval : ∀ (i : Nat) (v : Value), items[i]? = some v → ∃ k t, ns[i]? = some k ∧ v = .int k t := fun i v hv => by
          have hi : i < ns.length := by rw [← hisz]; exact (Array.getElem?_eq_some_iff.mp hv).1
          obtain ⟨t, e⟩ := PyProof.Rows.IntsAre.int_at hit i v (by rw [Array.getElem?_toList]; exact hv)
          refine ⟨ns[i], t, List.getElem?_eq_getElem hi, ?_⟩
          rw [e, List.getD_eq_getElem?_getD, List.getElem?_eq_getElem hi] <;> rfl
        refine set_update_ints ((Walks.list hh3 _ l hneI items).toS) s.heap.objs.size
          hSf ns hisz hb hval (items.size - 0) 0 _ (by omega) (Nat.zero_le _)
          ⟨⟨_, Heap.get?_push_size _ rfl, rfl, rfl⟩, (hl1.push _)⟩ ?hS0 ?hR
        case hS0 =>
          have hget : ((s.heap.push { cls := .type "set", dict := none, data := .set #[] 0 (.fresh 0 0 (!w.params.followText "set-order")) }).push { cls := .type "list_iterator", data := .fields #[.ref l, .int 0 0] }).get? s.heap.objs.size
              = some { cls := .type "set", dict := none, data := .set #[] 0 (.fresh 0 0 (!w.params.followText "set-order")) } := Heap.get?_push_of_some _ hS
          exact ⟨0, Nat.le_refl 0, setR_new_at hget⟩
        case hR =>
          intro s' c' hm hc' hS'
          obtain ⟨h', g2, d', tk', os'⟩ := s'
          have eg : g2 = s.gens := hm.gens
          have ed : d' = s.drawn := hm.drawn
          have eo : os' = s.os := hm.os
          subst eg; subst ed; subst eo
          show wpAny _ _ _ _ _ _
          refine wpAny_pure ?_
          show wpAny _ _ (ret Value.none) _ _ _
          rw [hisz] at hc'
          refine wpAny_pure ⟨rfl, h', tk', c', rfl, hS', hc', fun b o e => ?_⟩
          have hb0 : b < s.heap.objs.size := Heap.lt_size e
          have hb1 : b ≠ s.heap.objs.size := Nat.ne_of_lt hb0
          have hb2 : b ≠ (s.heap.push { cls := .type "set", dict := none, data := .set #[] 0 (.fresh 0 0 (!w.params.followText "set-order")) }).objs.size := by
            rw [Heap.size_push]; exact Nat.ne_of_lt (Nat.lt_succ_of_lt hb0)
          exact hm.heap b o (by simp only [List.mem_cons, List.mem_singleton, List.not_mem_nil, or_false, not_or]; exact ⟨hb1, hb2⟩) (Heap.get?_push_of_some _ (Heap.get?_push_of_some _ e))

      · cases r₂ with
        | error e => exact hr₂
        | ok fl₂ =>
          cases fl₂ with
          | ret r =>
            obtain ⟨rfl, h', tk, c', rfl, hS', hc', hk'⟩ := hr₂
            repeat (any_goals (first | assumption | wp_step))
            exact h _ _ _ hS' hc' hk'
          | _ => exact hr₂.elim
    | _ => exact hr.elim

end


end Ev

set_option maxRecDepth 100000
set_option maxHeartbeats 4000000
namespace Ev
open PySem PySem.Spec PyProof.Rows L2

/-! ### ints -/
def intsOf : List D → Option (List Int)
  | [] => some []
  | .int i :: r => (intsOf r).map (i :: ·)
  | _ => none
theorem intsOf_eq : ∀ {ds : List D} {ns : List Int}, intsOf ds = some ns → ds = ns.map .int
  | [], ns, e => by cases e; rfl
  | d :: r, ns, e => by
    cases d <;> simp only [intsOf] at e <;> try cases e
    obtain ⟨ms, e1, e2⟩ := Option.map_eq_some_iff.mp e
    subst e2
    rw [List.map_cons, intsOf_eq e1]
theorem intsOf_map (ns : List Int) : intsOf (ns.map .int) = some ns := by
  induction ns with
  | nil => rfl
  | cons n r ih => simp only [List.map_cons, intsOf, ih, Option.map_some]
theorem reps_ints {K : PySem.W.Frag} {H : Hp} {Ex : Addr → Prop} : ∀ {ns : List Int} {vs : List V}, Reps K H Ex (ns.map .int) vs → vs = ns.map V.int
  | [], _, h => by cases h; rfl
  | n :: r, _, h => by
    cases h with
    | cons h1 h2 =>
      cases h1
      rw [List.map_cons, reps_ints h2]
theorem ints_reps {K : PySem.W.Frag} {H : Hp} {Ex : Addr → Prop} : ∀ ns : List Int, Reps K H Ex (ns.map .int) (ns.map V.int)
  | [] => .nil
  | n :: r => .cons (.int n) (ints_reps r)
def insU (k : Int) : List Int → List Int
  | [] => [k]
  | a :: r => if k < a then k :: a :: r else if k = a then a :: r else a :: insU k r
def sset : List Int → List Int
  | [] => []
  | a :: r => insU a (sset r)
theorem mem_insU {k x : Int} : ∀ {l : List Int}, x ∈ insU k l ↔ x = k ∨ x ∈ l
  | [] => by simp [insU]
  | a :: r => by
    unfold insU
    split
    · simp
    · split
      · rename_i h; subst h; simp
      · rw [List.mem_cons, mem_insU (l := r), List.mem_cons]
        constructor <;> (intro h; rcases h with h | h | h <;> simp [h])
theorem insU_lt {k : Int} : ∀ {l : List Int}, l.Pairwise (· < ·) → (insU k l).Pairwise (· < ·)
  | [], _ => by simp [insU]
  | a :: r, h => by
    unfold insU
    have h1 := List.pairwise_cons.mp h
    split
    · rename_i hk
      refine List.pairwise_cons.mpr ⟨fun x hx => ?_, h⟩
      rcases List.mem_cons.mp hx with e | e
      · rw [e]; exact hk
      · exact Int.lt_trans hk (h1.1 x e)
    · split
      · exact h
      · rename_i h2 h3
        refine List.pairwise_cons.mpr ⟨fun x hx => ?_, insU_lt h1.2⟩
        rcases mem_insU.mp hx with e | e
        · rw [e]; omega
        · exact h1.1 x e
theorem mem_sset {x : Int} : ∀ {l : List Int}, x ∈ sset l ↔ x ∈ l
  | [] => Iff.rfl
  | a :: r => by
    unfold sset
    rw [mem_insU, mem_sset (l := r), List.mem_cons]
theorem sset_lt : ∀ l : List Int, (sset l).Pairwise (· < ·)
  | [] => .nil
  | a :: r => insU_lt (sset_lt r)
theorem lt_uniq : ∀ {l m : List Int}, l.Pairwise (· < ·) → m.Pairwise (· < ·) → (∀ x, x ∈ l ↔ x ∈ m) → l = m
  | [], [], _, _, _ => rfl
  | [], b :: m, _, _, h => absurd ((h b).mpr List.mem_cons_self) List.not_mem_nil
  | a :: l, [], _, _, h => absurd ((h a).mp List.mem_cons_self) List.not_mem_nil
  | a :: l, b :: m, hl, hm, h => by
    have l1 := List.pairwise_cons.mp hl
    have m1 := List.pairwise_cons.mp hm
    have e : a = b := by
      rcases List.mem_cons.mp ((h a).mp List.mem_cons_self) with e | e
      · exact e
      · rcases List.mem_cons.mp ((h b).mpr List.mem_cons_self) with e' | e'
        · exact e'.symm
        · have := m1.1 a e
          have := l1.1 b e'
          omega
    subst e
    congr 1
    refine lt_uniq l1.2 m1.2 fun x => ⟨fun hx => ?_, fun hx => ?_⟩
    · rcases List.mem_cons.mp ((h x).mp (List.mem_cons_of_mem _ hx)) with e | e
      · have := l1.1 x hx; omega
      · exact e
    · rcases List.mem_cons.mp ((h x).mpr (List.mem_cons_of_mem _ hx)) with e | e
      · have := m1.1 x hx; omega
      · exact e
theorem sset_uniq {l m : List Int} (hm : m.Pairwise (· < ·)) (h : ∀ x, x ∈ m ↔ x ∈ l) : m = sset l := lt_uniq hm (sset_lt l) fun x => (h x).trans mem_sset.symm
section
variable {X : Cx} {B : Bx} {e : Expr} {es : List Expr} {fe : FE} {fs : FA} {pos p p2 pos2 : Pos}
def rSetL2 (K : PySem.W.Frag) (w : World) : List V → Hp → VK → Prop := fun xs H Q => ∃ (a : Addr) (ns : List Int), xs = [.ref a] ∧ SqL K H a (ns.map V.int) ∧ ns.length < 64 ∧ ∀ p c, H p = none → c ≤ ns.length → Q (.ref p) (upd H p (SetO w p (fun j => decide (j ∈ ns)) c))
theorem cr_setL (hc : X.calm = true) : CallR X (.type "set") (rSetL2 X.K X.w) := by
  intro pins s σ H xs us Q I r h
  obtain ⟨a, ns, rfl, sq, hl, q⟩ := h
  obtain ⟨u, rfl, ru⟩ := r.one
  cases ru
  obtain ⟨its, rv, pl, hz⟩ := I.list sq
  refine set_of_list ns (I.ok.hd hc) pl.isList (ints_of_vals rv) (by unfold scanBound; omega) fun h' tk c R hcn k => ?_
  have hn := I.hok.fresh (Nat.le_refl s.heap.objs.size)
  exact ⟨.ref s.heap.objs.size, upd H s.heap.objs.size (SetO X.w s.heap.objs.size (fun j => decide (j ∈ ns)) c), I.laid (t' := tk) k (Nat.le_refl _) (setO_new R), rfl, q _ _ hn hcn⟩
def fSortSet (fe : FE) : FE := fun ρ => (fe ρ).bind fun q => (res q.1 q.2).bind fun d => match d with
  | .list ds => (intsOf ds).bind fun ns => if ns.length < 64 then some (pushD (.list ((sset ns).map .int)) q.2) else none
  | _ => none
theorem ev_sortset (hc : X.calm = true) (hg : Gl X "sorted") (hm : X.mg "sorted" = none) (hg2 : Gl X "set") (hm2 : X.mg "set" = none) (he : EV X B e fe)
    (h1 : starEach [e] X.env = (false, eval e X.env) :: starEach [] X.env) (h2 : starEach [.Call (.Name "set" p2) [e] [] pos2] X.env = (false, eval (.Call (.Name "set" p2) [e] [] pos2) X.env) :: starEach [] X.env)
    (hpl : (backTo pos (starEach [] X.env)).any (·.1) = false) (hpl2 : (backTo pos2 (starEach [] X.env)).any (·.1) = false) :
    EV X B (.Call (.Name "sorted" p) [.Call (.Name "set" p2) [e] [] pos2] [] pos) (fSortSet fe) := fun ρ h ρ' q => by
  unfold fSortSet at q
  obtain ⟨⟨h3, ρ1⟩, e1, q⟩ := Option.bind_eq_some_iff.mp q
  obtain ⟨d, e2, q⟩ := Option.bind_eq_some_iff.mp q
  cases d with
  | list ds =>
    obtain ⟨ns, e3, q⟩ := Option.bind_eq_some_iff.mp q
    split at q
    · rename_i hl
      cases q
      have hbt : bootBuiltins "set" = some (.type "set") := by decide +kernel
      refine pe_imp (pe_callB (cr_sortedSet hc) hg hm boot_sorted (pa_cons (pe_callTy (cr_setL hc) hg2 hm2 hbt (pa_cons (he _ _ _ e1) pa_nil h1) (by decide) (by decide) h1 hpl2) pa_nil h2) (by decide) (by decide) h2 hpl) fun σ H Q ⟨om, R, k⟩ => ⟨om, R, fun v H' om' s R' r => ?_⟩
      obtain ⟨a, xs, rfl, sq, rr⟩ := (R'.resb r e2).lst
      rw [intsOf_eq e3] at rr
      have ex := reps_ints rr
      subst ex
      refine ⟨a, ns, rfl, sq, hl, fun p0 c hp0 hcn => ⟨p0, _, c, rfl, upd_same, by omega, fun ms p1 hlt hmem _ hp1 => ?_⟩⟩
      have sm := same_upd (o := SetO X.w p0 (fun j => decide (j ∈ ns)) c) hp0
      have em : ms = sset ns := sset_uniq hlt fun x => by rw [hmem x]; simp
      subst em
      obtain ⟨R2, s2, r2⟩ := (R'.same sm).pushC hp1 (.lst (ints_reps (Ex := Exs B om') (sset ns)))
      exact k _ _ _ ((s.trans (.same sm)).trans s2) R2 r2
    · cases q
  | _ => cases q
def maxI : List Int → Option Int
  | [] => none
  | n :: r => some (r.foldl (fun a b => if a < b then b else a) n)
def minI : List Int → Option Int
  | [] => none
  | n :: r => some (r.foldl (fun a b => if b < a then b else a) n)
def semMaxL : List D → Option D
  | [.list ds] => (intsOf ds).bind fun ns => (maxI ns).map .int
  | _ => none
def semMinL : List D → Option D
  | [.list ds] => (intsOf ds).bind fun ns => (minI ns).map .int
  | _ => none
def semSumL : List D → Option D
  | [.list ds] => (intsOf ds).map fun ns => .int ns.sum
  | _ => none
theorem maxI_spec : ∀ {r : List Int} {n : Int}, (r.foldl (fun a b => if a < b then b else a) n) ∈ n :: r ∧ ∀ y ∈ n :: r, y ≤ r.foldl (fun a b => if a < b then b else a) n
  | [], n => ⟨List.mem_cons_self, fun y hy => by rw [List.mem_singleton.mp hy]; exact Int.le_refl _⟩
  | m :: r, n => by
    obtain ⟨h1, h2⟩ := maxI_spec (r := r) (n := if n < m then m else n)
    rw [List.foldl_cons]
    refine ⟨?_, fun y hy => ?_⟩
    · rcases List.mem_cons.mp h1 with e | e
      · rw [e]; split <;> simp
      · exact List.mem_cons_of_mem _ (List.mem_cons_of_mem _ e)
    · have hb := h2 (if n < m then m else n) List.mem_cons_self
      rcases List.mem_cons.mp hy with e | e
      · subst e; refine Int.le_trans ?_ hb; split <;> omega
      · rcases List.mem_cons.mp e with e | e
        · subst e; refine Int.le_trans ?_ hb; split <;> omega
        · exact h2 y (List.mem_cons_of_mem _ e)
theorem minI_spec : ∀ {r : List Int} {n : Int}, (r.foldl (fun a b => if b < a then b else a) n) ∈ n :: r ∧ ∀ y ∈ n :: r, r.foldl (fun a b => if b < a then b else a) n ≤ y
  | [], n => ⟨List.mem_cons_self, fun y hy => by rw [List.mem_singleton.mp hy]; exact Int.le_refl _⟩
  | m :: r, n => by
    obtain ⟨h1, h2⟩ := minI_spec (r := r) (n := if m < n then m else n)
    rw [List.foldl_cons]
    refine ⟨?_, fun y hy => ?_⟩
    · rcases List.mem_cons.mp h1 with e | e
      · rw [e]; split <;> simp
      · exact List.mem_cons_of_mem _ (List.mem_cons_of_mem _ e)
    · have hb := h2 (if m < n then m else n) List.mem_cons_self
      rcases List.mem_cons.mp hy with e | e
      · subst e; refine Int.le_trans hb ?_; split <;> omega
      · rcases List.mem_cons.mp e with e | e
        · subst e; refine Int.le_trans hb ?_; split <;> omega
        · exact h2 y (List.mem_cons_of_mem _ e)
theorem cr_maxL (hc : X.calm = true) : CallR X (.builtin "max") (rN X.K semMaxL) := by
  intro pins s σ H xs us Q I r h
  obtain ⟨Ex, ds, d, fr, rb, e, q⟩ := h
  unfold semMaxL at e
  split at e
  · obtain ⟨ns, e1, e⟩ := Option.bind_eq_some_iff.mp e
    obtain ⟨m, e2, e⟩ := Option.map_eq_some_iff.mp e
    subst e
    obtain ⟨v, rfl, b⟩ := rb.one
    obtain ⟨a, ys, rfl, sq, rr⟩ := b.lst
    rw [intsOf_eq e1] at rr
    have ex := reps_ints rr
    subst ex
    cases ns with
    | nil => cases e2
    | cons n r' =>
      cases e2
      refine cr_max hc pins s σ H _ us Q I r ⟨a, n :: r', rfl, sq, Nat.succ_pos _, fun m hm hy => ?_⟩
      obtain ⟨h1, h2⟩ := maxI_spec (r := r') (n := n)
      have em : m = r'.foldl (fun a b => if a < b then b else a) n := Int.le_antisymm (h2 m hm) (hy _ h1)
      rw [em]
      exact q _ _ (fun _ _ z => z) (.int _)
  · cases e
theorem cr_minL (hc : X.calm = true) : CallR X (.builtin "min") (rN X.K semMinL) := by
  intro pins s σ H xs us Q I r h
  obtain ⟨Ex, ds, d, fr, rb, e, q⟩ := h
  unfold semMinL at e
  split at e
  · obtain ⟨ns, e1, e⟩ := Option.bind_eq_some_iff.mp e
    obtain ⟨m, e2, e⟩ := Option.map_eq_some_iff.mp e
    subst e
    obtain ⟨v, rfl, b⟩ := rb.one
    obtain ⟨a, ys, rfl, sq, rr⟩ := b.lst
    rw [intsOf_eq e1] at rr
    have ex := reps_ints rr
    subst ex
    cases ns with
    | nil => cases e2
    | cons n r' =>
      cases e2
      refine cr_min hc pins s σ H _ us Q I r ⟨a, n :: r', rfl, sq, Nat.succ_pos _, fun m hm hy => ?_⟩
      obtain ⟨h1, h2⟩ := minI_spec (r := r') (n := n)
      have em : m = r'.foldl (fun a b => if b < a then b else a) n := Int.le_antisymm (hy _ h1) (h2 m hm)
      rw [em]
      exact q _ _ (fun _ _ z => z) (.int _)
  · cases e
theorem cr_sumL (hc : X.calm = true) : CallR X (.builtin "sum") (rN X.K semSumL) := by
  intro pins s σ H xs us Q I r h
  obtain ⟨Ex, ds, d, fr, rb, e, q⟩ := h
  unfold semSumL at e
  split at e
  · obtain ⟨ns, e1, e⟩ := Option.map_eq_some_iff.mp e
    subst e
    obtain ⟨v, rfl, b⟩ := rb.one
    obtain ⟨a, ys, rfl, sq, rr⟩ := b.lst
    rw [intsOf_eq e1] at rr
    have ex := reps_ints rr
    subst ex
    exact cr_sum hc pins s σ H _ us Q I r ⟨a, ns, rfl, sq, q _ _ (fun _ _ z => z) (.int _)⟩
  · cases e
end

/-! ### enumerate -/
theorem meets_enum1 {v : Value} {o : Obj} {H : Heap → Prop} (bg : PySem.Begins v o H) :
    Meets (Builtin.«enumerate.__new__» ⟨[.type "enumerate", v], []⟩) (fun _ R s => H s.heap ∧
      R (.ok (.ret (.ref (s.heap.push o).objs.size))) { s with heap := (s.heap.push o).push { cls := .type "enumerate", data := .fields #[.none, .bool false, .ref s.heap.objs.size, rawInt 0, .none, .none] } }) :=
  .of_wp fun prog w A R s h => by
    obtain ⟨hp, g, d, tk, os⟩ := s
    obtain ⟨hx, h⟩ := h
    have hsub := sub_enumerate
    have step : ∀ {A' : Around} {E' : Value → Shared → Prop} {Q' : Value → Shared → Prop}, Q' (.ref hp.objs.size) ⟨hp.push o, g, d, tk, os⟩ → wpAny (model prog w) A' (pyIter v) Q' E' ⟨hp, g, d, tk, os⟩ :=
      fun q => bg.iter prog w _ _ ⟨hp, g, d, tk, os⟩ _ hx q
    wp_walk using step
    refine wpAny_stack_any fun st => wpAny_pure ?_
    split
    · rename_i c _ _ _ _ _
      cases (c == Value.type "enumerate") <;> (wp_walk using step; exact ⟨_, rfl, h⟩)
    · wp_walk using step
      exact ⟨_, rfl, h⟩
section
variable {P : Program} {w : World} {A : Around} {E : Value → Shared → Prop} {s : Shared}
theorem call_enum1 {v : Value} {o : Obj} {H : Heap → Prop} {Q : Value → Shared → Prop} (bg : PySem.Begins v o H) (hx : H s.heap)
    (h : ∀ h', IsEnum h' (s.heap.objs.size + 1) s.heap.objs.size 0 .none → h'.get? s.heap.objs.size = some o → (∀ b u, s.heap.get? b = some u → h'.get? b = some u) → Q (.ref (s.heap.objs.size + 1)) { s with heap := h' }) :
    wpAny (model P w) A (call (.type "enumerate") [v]) Q E s := by
  refine callType_new F.called_enumerate (by decide) (F.typeCall_enumerate_1 _) (F.newCall_enumerate_1 _) (fun obj => F.args_object_init_2 obj _) F.entry_enumerate_new
    (meets_enum1 bg) ⟨hx, ?_⟩
  have hz : (s.heap.push o).objs.size = s.heap.objs.size + 1 := Heap.size_push ..
  show _ ∧ _
  rw [hz]
  have ie : IsEnum ((s.heap.push o).push { cls := .type "enumerate", data := .fields #[.none, .bool false, .ref s.heap.objs.size, rawInt 0, .none, .none] }) (s.heap.objs.size + 1) s.heap.objs.size 0 .none := by
    have z := Heap.get?_push_size (s.heap.push o) (o := { cls := .type "enumerate", data := .fields #[.none, .bool false, .ref s.heap.objs.size, rawInt 0, .none, .none] }) rfl
    rw [hz] at z
    exact z
  exact ⟨⟨_, ie, rfl⟩, h _ ie (Heap.get?_push_of_some _ (Heap.get?_push_size _ bg.free)) fun b u y => Heap.get?_push_of_some _ (Heap.get?_push_of_some _ y)⟩
end
/-- the tuple at a, each item in a new pair -/
def Iten (K : PySem.W.Frag) (a : Addr) : It :=
  ⟨fun i H => ∃ (xs : List V) (x : V), SqT K H a xs ∧ xs[i]? = some x, fun i H v H' => ∃ T x, v = .ref T ∧ H T = none ∧ H' = upd H T (.tup [.int (i : Nat), x]) ∧ ∀ xs, SqT K H a xs → xs[i]? = some x, fun i H => ∃ xs : List V, SqT K H a xs ∧ xs.length ≤ i⟩
theorem turn_enumT {P : Program} {w : World} {K : PySem.W.Frag} {elts : List Expr} {kk : Nat} {tpos : Pos} (a e it : Addr) :
    Turn P w K (.Tuple elts kk tpos) (Iten K a) [e, it] e (fun i h => (∃ old, IsEnum h e it ((i : Nat) : Int) old) ∧ h.IsTupleIter it a i ∧ e ≠ it) where
  mem := by simp
  obj := fun i h st b hb => by
    obtain ⟨⟨old, h1⟩, ⟨o, h2, h3, h4⟩, _⟩ := st
    have cs : b = e ∨ b = it := by simpa using hb
    rcases cs with z | z
    · rw [z]; exact ⟨_, h1, fun v q => nomatch q⟩
    · rw [z]; exact ⟨o, h2, fun v q => by rw [h4] at q; cases q⟩
  keep := fun i h h' st k => let ⟨⟨old, h1⟩, h2, h3⟩ := st; ⟨⟨old, k e (by simp) _ h1⟩, h2.at fun o q => k it (by simp) o q, h3⟩
  item := by
    intro X hP hw hK hc i pins s σ H E I hf st hg
    subst hP hw hK
    obtain ⟨⟨old, h1⟩, h2, h3⟩ := st
    obtain ⟨xs, x, sq, gx⟩ := hg
    obtain ⟨its, rv, pt, hz⟩ := I.tuple sq
    obtain ⟨u, hu, ru⟩ := rv.get gx
    have le : e < s.heap.objs.size := Heap.lt_size h1
    have li : it < s.heap.objs.size := by obtain ⟨_, q, _⟩ := h2; exact Heap.lt_size q
    have ptt : s.heap.IsTuple a its.toArray := pt
    have ea : e ≠ a := fun z => by
      obtain ⟨o, ho, hcl, _⟩ := ptt
      rw [← z, h1] at ho; cases ho
      exact absurd (Value.type.inj (show Value.type "enumerate" = Value.type "tuple" from hcl)) (by decide)
    have ai : a ≠ it := fun z => by
      obtain ⟨o, ho, hcl, _⟩ := ptt
      obtain ⟨o', ho', hcl', _⟩ := h2
      rw [z, ho'] at ho; cases ho
      rw [hcl'] at hcl
      exact absurd (Value.type.inj hcl) (by decide)
    have lt : i < its.toArray.size := by
      have := (List.getElem?_eq_some_iff.mp hu).1
      simpa using this
    refine wpAny_pyNext_enum_itemD (Draws.tuple (A := X.A.in1) (I.ok.hd hc) it a ai its.toArray) h1 ⟨h2, ptt⟩ lt h3 (by simp only [List.mem_cons, List.not_mem_nil, or_false, not_or]; exact ⟨h3, ea⟩) fun y h' tk py ho st' hT hsz hk => ?_
    have ey : y = u := by
      have py : its.toArray[i]? = some y := py
      rw [List.getElem?_toArray, hu] at py
      exact (Option.some.inj py).symm
    subst ey
    refine ⟨_, rfl, wpAny_letOwnedTupleGo_enum (s := { s with heap := h', toks := tk + 1 }) ho fun h'' he' sb => ?_⟩
    have hT2 : h''.get? s.heap.objs.size = some { cls := .type "tuple", data := .seq #[.int i tk, y] } := (sb.2 _ (Nat.ne_of_gt le)).trans hT
    have new : ObjOk X.prog X.w (upd H s.heap.objs.size (.tup [.int (i : Nat), x])) h'' s.heap.objs.size (.tup [.int (i : Nat), x]) :=
      ⟨by show 2 ≤ sizeLine; decide, [.int i tk, y], .cons ⟨_, rfl⟩ (.cons ru .nil), ⟨_, hT2, rfl, _, rfl⟩⟩
    have I1 : Inv X pins σ (upd H s.heap.objs.size (.tup [.int (i : Nat), x])) { s with heap := h'', toks := tk + 1 } :=
      I.turnedNew (ch := [e, it]) (fun b ob hb q => (sb.2 b (fun z => hb (by simp [z]))).trans (hk b ob (fun z => hb (by simp [z])) (fun z => hb (by simp [z])) q)) hf (Nat.le_refl _) new
    refine ⟨.ref s.heap.objs.size, _, I1, rfl, ⟨_, x, rfl, I.hok.fresh (Nat.le_refl _), rfl, fun ys hy => by rw [I.tuple_inj hy sq]; exact gx⟩, ⟨⟨y, ?_⟩, st'.1.at fun o q => (sb.2 it (Ne.symm h3)).trans q, h3⟩, fun b hb => ?_⟩
    · have e1 : ((i + 1 : Nat) : Int) = (i : Int) + 1 := by omega
      rw [e1]; exact he'
    · have hb' : b < s.heap.objs.size := by
        have cs : b = e ∨ b = it := by simpa using hb
        rcases cs with z | z
        · rw [z]; exact le
        · rw [z]; exact li
      rw [upd_ne (Nat.ne_of_lt hb')]
      exact (hf b hb).1
  done := by
    intro X hP hw hK hc i pins s σ H E I hf st hg
    subst hP hw hK
    obtain ⟨⟨old, h1⟩, h2, h3⟩ := st
    obtain ⟨xs, sq, gx⟩ := hg
    obtain ⟨its, rv, pt, hz⟩ := I.tuple sq
    obtain ⟨f0, f1, f2, f3, f4, f5⟩ := hf it (by simp)
    have hT : s.TypeIs (.ref e) "enumerate" := ⟨_, h1, rfl⟩
    have ptt : s.heap.IsTuple a its.toArray := pt
    have hl := rv.length
    unfold pyNext
    refine wpAny_bind (wpAny_attempt (wpAny_callSpecial?_slot (name := Str.ofString "__next__") hT F.slot_enumerate_next
      (wpAny_call_entry F.slot_enumerate_next hT F.entry_enumerate_next ?_ (F.args_enumerate_next_1 _))))
    show wpAny _ _ (field (.ref e) 2 >>= _) _ _ _
    refine wpAny_bind (wpAny_field h1 rfl (x := .ref it) rfl ?_)
    refine wpAny_bind (wpAny_nextOf_tuple_end (A := X.A.in1) (I.ok.hd hc) h2 ptt (by simp; omega) fun h' x eb hx' => ?_)
    obtain ⟨o, ho, hcl⟩ := hx'
    refine wpAny_bind (wpAny_isInstance (T := "StopIteration") (b := true) ⟨o, ho, hcl⟩ isSubtype_stop ?_)
    exact wpAny_pure ⟨rfl, I.turned (t' := s.toks) (fun b o hb q => eb b o hb q) f0 f1 f3 f4 f5⟩
  self := fun A i s Q E st h => let ⟨⟨_, h1⟩, _⟩ := st; wpAny_pyIter_enum h1 h
def enumD (ds : List D) : List D := ds.mapIdx fun i d => .tuple [.int (i : Int), d]
def iEnumF (fe : FE) : FI := fun ρ => (fz fe ρ).bind fun p => match p.1 with
  | .tuple ds => some (enumD ds, p.2)
  | _ => none
section
variable {X : Cx} {B : Bx} {e : Expr} {fe : FE} {pos p tpos : Pos} {elts : List Expr} {kk : Nat}
theorem ei_enum (hg : Gl X "enumerate") (hm : X.mg "enumerate" = none) (he : EV X B e fe) (hs : starEach [e] X.env = [(false, eval e X.env)]) (hs2 : starEach [e] X.env = (false, eval e X.env) :: starEach [] X.env) : EI X B (.Tuple elts kk tpos) (.Call (.Name "enumerate" p) [e] [] pos) (iEnumF fe) := fun ρ items ρ' q => by
  unfold iEnumF at q
  obtain ⟨⟨d, ρ1⟩, e1, q⟩ := Option.bind_eq_some_iff.mp q
  cases d with
  | tuple ds =>
    cases q
    refine ⟨fun pins s σ H R I ⟨om, R0, k⟩ => ?_⟩
    refine Call_ (ld_blt I hg hm boot_enumerate (PyProof.Rows.callWith_type1 (thn ((pa_cons (he.fz e1) pa_nil hs2).run pos pins s σ H (fun vs H1 => ∃ v om1, vs = [v] ∧ Stp B om H om1 H1 ∧ Rel X.K B ρ1 om1 σ H1 ∧ Rep X.K H1 (Exs B om1) (.tuple ds) v) I ⟨om, R0, fun v H1 om1 s1 R1 r1 => ⟨v, om1, rfl, s1, R1, r1⟩⟩) fun us s1 ⟨vs, H1, I1, r1, v, om1, ev, st1, R1, rp⟩ => ?_) hs rfl))
    subst ev
    obtain ⟨u, rfl, ru⟩ := r1.one
    have rp0 := rp
    cases rp with
    | @tup a xs _ h1 n1 h2 =>
      cases ru
      obtain ⟨its, rv, pt, hz⟩ := I1.tuple (.of h1)
      refine call_enum1 (begins_tuple a its.toArray) (show s1.heap.IsTuple a its.toArray from pt) fun h' ie hit hk => wpAny_pyIter_enum ie ?_
      have I2 : Inv X pins σ H1 { s1 with heap := h' } := I1.kept (t' := s1.toks) hk
      refine ⟨s1.heap.objs.size + 1, [s1.heap.objs.size + 1, s1.heap.objs.size], _, Iten X.K a, H1, rfl, I2, turn_enumT a (s1.heap.objs.size + 1) s1.heap.objs.size, ⟨⟨.none, ie⟩, ⟨_, hit, rfl, rfl⟩, Nat.succ_ne_self _⟩, fun b hb => ?_, k _ H1 om1 st1 R1 ⟨fun i d om2 H2 f2 s2 ei => ?_, fun om2 H2 s2 => ?_⟩⟩
      · have cs : b = s1.heap.objs.size + 1 ∨ b = s1.heap.objs.size := by simpa using hb
        have hle : s1.heap.objs.size ≤ b := by
          rcases cs with z | z
          · rw [z]; exact Nat.le_add_right _ _
          · rw [z]; exact Nat.le_refl _
        exact I1.fpOk hle (I1.hok.fresh hle)
      · unfold enumD at ei
        rw [List.getElem?_mapIdx] at ei
        obtain ⟨d0, e2, e3⟩ := Option.map_eq_some_iff.mp ei
        subst e3
        cases Rep.ste s2 rp0 with
        | tup g1 g2 g3 =>
          obtain ⟨v, ev, rv'⟩ := g3.get e2
          refine ⟨⟨_, v, .of g1, ev⟩, fun x H3 ⟨T, x0, hx, hT, hH, hall⟩ => ?_⟩
          subst hx hH
          have := hall _ (.of g1)
          rw [ev] at this; cases this
          exact ⟨same_upd hT, .tup upd_same (Fresh.no f2 hT) (.cons (.int _) (.cons (Rep.same (same_upd hT) rv') .nil))⟩
      · cases Rep.ste s2 rp0 with
        | tup g1 g2 g3 => exact ⟨_, .of g1, by unfold enumD; rw [List.length_mapIdx, ← g3.length]; exact Nat.le_refl _⟩
  | _ => cases q
end
end Ev

set_option maxRecDepth 100000
set_option maxHeartbeats 4000000
namespace Ev
open PySem PySem.Spec PyProof.Rows L2
theorem reps_int_l {K : PySem.W.Frag} {H : Hp} {Ex : Addr → Prop} : ∀ ns : List Int, Reps K H Ex (ns.map .int) (ns.map V.int)
  | [] => .nil
  | i :: r => .cons (.int i) (reps_int_l r)
/-- what is told of the law at the head's end -/
theorem law_at {l : PySem.W.OpenLaw} {w : World} {K : PySem.W.Frag} {mg : Str → Option Value} {h : Heap} {f : Addr} {fa : List He.Fa} {fn : List He.DefD} {tf : List He.Defn} {k n : Nat} {x : Str} {F : Fn} {fd : FuncData}
    (KX : K.In h) (c : He.SaysX fa fn [] tf (fun _ => true) w h K) (hb : ∀ (s : Shared) (u : Value), BindsTo s fd ⟨[u], []⟩ [(x, u)])
    (hF : ∀ (base : Heap) (T : List Addr), LC K mg base T fa fn tf → FnOk l.prog w K mg base CX0 k f fd [x] (spF K T F)) (io : F.ios = [false])
    (hg : ∀ ns : List Int, ns.length ≤ n → ∃ outs, F.g [.list (ns.map .int)] = some (.bool true, outs)) : LamX.LawAtS l w K CX0 k n x mg f h := by
  refine ⟨fd, tf.map (He.cT K), spF K (tf.map fun p => (He.cT K p).2) F, fun p hp => ?_, fun p hp => ?_, fun p hp => ?_, hb, fun H a ns hn _ hH hS => ?_, fun base kb nb tb => ?_⟩
  · obtain ⟨q, hq, rfl⟩ := List.mem_map.mp hp
    exact c.empty q hq
  · obtain ⟨q, hq, rfl⟩ := List.mem_map.mp hp
    exact c.out q hq
  · obtain ⟨q, hq, rfl⟩ := List.mem_map.mp hp
    exact PySem.W.codeHd_of_K KX (c.hd q hq)
  · obtain ⟨outs, e⟩ := hg ns hn
    have ht : ∀ P ∈ (tf.map fun p => (He.cT K p).2), H P = some (.tbl #[]) := fun P hP => by
      obtain ⟨q, hq, rfl⟩ := List.mem_map.mp hP
      exact hH _ (List.mem_map.mpr ⟨q, hq, rfl⟩)
    have hs : (Rd H a (.lst (ns.map V.int)) ∧ ¬ a ∈ (tf.map fun p => (He.cT K p).2)) ∨ KL K a (ns.map V.int) := by
      rcases hS with r | r
      · refine .inl ⟨r, fun z => ?_⟩
        have z := ht _ z
        rcases r with r | ⟨o, r⟩ <;> · rw [r] at z; cases z
      · exact .inr r
    have ar : ARep K H (fun b => b ∈ (tf.map fun p => (He.cT K p).2)) F.ios [.list (ns.map .int)] [.ref a] := by
      rw [io]
      exact .val (.lst hs (reps_int_l ns)) .nil
    have no : ∀ i, ioA F.ios [.ref a] i = none := fun i => by
      rw [io]
      cases i <;> simp [ioA]
    refine ⟨fun b => b ∈ (tf.map fun p => (He.cT K p).2), _, _, outs, fun b hb => ⟨_, ht b hb, fun _ z => nomatch z⟩, fun P hP => hP, fun P hP => ⟨#[], ht P hP, trivial⟩, ar, fun i j b e1 e2 => ?_, e, fun v H' _ _ r _ => ?_⟩
    · rw [no i] at e1
      cases e1
    · cases r
      rfl
  · refine hF base _ ⟨c.t.d, kb, nb, fun p hp => ?_, fun p hp => List.mem_map.mpr ⟨p, hp, rfl⟩⟩
    have t := tb _ (List.mem_map.mpr ⟨p, hp, rfl⟩)
    exact ⟨t.code, t.bm, t.gP⟩
end Ev

set_option maxRecDepth 100000
set_option maxHeartbeats 4000000
namespace Ev
open PySem PySem.Spec PyProof.Rows L2
section
variable {fa fb fc fe : FE} {fs : FA} {ga gb : FT} {f g : FS} {ρ ρ1 ρ2 ρ3 ρ4 : Er} {p q h : Hd} {d d1 d2 d3 : D} {ds : List D} {hs : List Hd} {sem : D → D → Option D} {c c1 : Bool} {n i : Nat} {r : Rs} {x : Hd × Er} {y : Bool × Er}
theorem v_bin {sem : D → D → Option D} (h1 : fa ρ = some (p, ρ1)) (h2 : fb ρ1 = some (q, ρ2)) (h3 : res p ρ2 = some d1) (h4 : res q ρ2 = some d2) (h5 : sem d1 d2 = some d) : fBin fa fb sem ρ = some (.v d, ρ2) := by
  simp only [fBin, h1, h2, h3, h4, h5, Option.bind_some, Option.map_some]
theorem v_un {sem : D → Option D} (h1 : fa ρ = some (p, ρ1)) (h3 : res p ρ1 = some d1) (h5 : sem d1 = some d) : fUn fa sem ρ = some (.v d, ρ1) := by
  simp only [fUn, h1, h3, h5, Option.bind_some, Option.map_some]
theorem v_call {sem : List D → Option D} (h1 : fs ρ = some (hs, ρ1)) (h3 : resAll hs ρ1 = some ds) (h5 : sem ds = some d) : fCall fs sem ρ = some (.v d, ρ1) := by
  simp only [fCall, h1, h3, h5, Option.bind_some, Option.map_some]
theorem v_new {sem : List D → Option D} (h1 : fs ρ = some (hs, ρ1)) (h3 : resAll hs ρ1 = some ds) (h5 : sem ds = some d) : fNew fs sem ρ = some (.l ρ1.length, ρ1 ++ [.own d]) := by
  simp only [fNew, h1, h3, h5, Option.bind_some, Option.map_some, pushD]
theorem v_fn {F : Fn} {outs : List D} (h1 : fs ρ = some (hs, ρ1)) (h2 : argsOf F.ios hs ρ1 = some ds) (h3 : nodupN (lent hs) = true) (h4 : F.g ds = some (d, outs)) (h5 : setOuts hs outs ρ1 = some ρ2) : fFn fs F ρ = some (.v d, ρ2) := by
  simp only [fFn, h1, h2, h3, h4, h5, Option.bind_some, Option.map_some, if_true]
theorem v_tup (h1 : fs ρ = some (hs, ρ1)) (h2 : plain hs = some ds) (h3 : few ds.length = true) : fTup fs ρ = some (.v (.tuple ds), ρ1) := by
  simp only [fTup, h1, h2, h3, Option.bind_some, if_true]
theorem v_lst (h1 : fs ρ = some (hs, ρ1)) (h2 : plain hs = some ds) (h3 : few ds.length = true) : fLst fs ρ = some (.l ρ1.length, ρ1 ++ [.own (.list ds)]) := by
  simp only [fLst, h1, h2, h3, Option.bind_some, if_true, pushD]
theorem v_nil : aNil ρ = some ([], ρ) := rfl
theorem v_cons (h1 : fa ρ = some (p, ρ1)) (h2 : fs ρ1 = some (hs, ρ2)) : aCons fa fs ρ = some (p :: hs, ρ2) := by
  simp only [aCons, h1, h2, Option.bind_some, Option.map_some]
theorem v_fz (h1 : fa ρ = some (p, ρ1)) (h2 : frz p ρ1 = some (d, ρ2)) : aFz fa ρ = some (.v d, ρ2) := by
  simp only [aFz, h1, h2, Option.bind_some, Option.map_some]
theorem v_fzz (h1 : fa ρ = some (p, ρ1)) (h2 : frz p ρ1 = some (d, ρ2)) : fz fa ρ = some (d, ρ2) := by
  simp only [fz, h1, h2, Option.bind_some]
theorem v_if (h1 : ga ρ = some (c, ρ1)) (h2 : (c = true ∧ fa ρ1 = some x) ∨ (c = false ∧ fb ρ1 = some x)) : fIf ga fa fb ρ = some x := by
  rcases h2 with ⟨rfl, h2⟩ | ⟨rfl, h2⟩ <;> simp [fIf, h1, h2]
theorem v_and (h1 : fa ρ = some (p, ρ1)) (h3 : res p ρ1 = some d) (h4 : truth d = some c) (h2 : (c = true ∧ fb ρ1 = some x) ∨ (c = false ∧ (p, ρ1) = x)) : fAnd fa fb ρ = some x := by
  rcases h2 with ⟨rfl, h2⟩ | ⟨rfl, rfl⟩ <;> simp [fAnd, *]
theorem v_or (h1 : fa ρ = some (p, ρ1)) (h3 : res p ρ1 = some d) (h4 : truth d = some c) (h2 : (c = true ∧ (p, ρ1) = x) ∨ (c = false ∧ fb ρ1 = some x)) : fOr fa fb ρ = some x := by
  rcases h2 with ⟨rfl, rfl⟩ | ⟨rfl, h2⟩ <;> simp [fOr, *]
theorem v_isi {T a : String} (h1 : fa ρ = some (p, ρ1)) (h3 : res p ρ1 = some d) (h4 : tyD d = some a) : fIsi fa T ρ = some (.v (.bool (subTy a T)), ρ1) := by
  simp only [fIsi, h1, h3, h4, Option.bind_some, Option.map_some]
theorem v_isi2 {T U a : String} (h1 : fa ρ = some (p, ρ1)) (h3 : res p ρ1 = some d) (h4 : tyD d = some a) : fIsi2 fa T U ρ = some (.v (.bool (subTy a T || subTy a U)), ρ1) := by
  simp only [fIsi2, h1, h3, h4, Option.bind_some, Option.map_some]
theorem v_chain {s1 s2 : D → D → Option D} (h1 : fa ρ = some (p, ρ1)) (h2 : fb ρ1 = some (q, ρ2)) (h3 : res p ρ2 = some d1) (h4 : res q ρ2 = some d2) (h5 : s1 d1 d2 = some (.bool c))
    (h6 : (c = true ∧ ∃ h ρ3 d4 d5 d6, fc ρ2 = some (h, ρ3) ∧ res q ρ3 = some d4 ∧ res h ρ3 = some d5 ∧ s2 d4 d5 = some d6 ∧ (.v d6, ρ3) = x) ∨ (c = false ∧ (.v (.bool false), ρ2) = x)) : fChain fa fb fc s1 s2 ρ = some x := by
  rcases h6 with ⟨rfl, h, ρ3, d4, d5, d6, e1, e2, e3, e4, rfl⟩ | ⟨rfl, rfl⟩
  · simp [fChain, *]
  · simp [fChain, *]
theorem t_ft (h1 : fa ρ = some (p, ρ1)) (h3 : res p ρ1 = some d) (h4 : truth d = some c) : ft fa ρ = some (c, ρ1) := by
  simp only [ft, h1, h3, h4, Option.bind_some, Option.map_some]
theorem t_not (h1 : ga ρ = some (c, ρ1)) : tNotB ga ρ = some (!c, ρ1) := by
  simp only [tNotB, h1, Option.map_some]
theorem t_and (h1 : ga ρ = some (c, ρ1)) (h2 : (c = true ∧ gb ρ1 = some y) ∨ (c = false ∧ (false, ρ1) = y)) : tAndB ga gb ρ = some y := by
  rcases h2 with ⟨rfl, h2⟩ | ⟨rfl, rfl⟩ <;> simp [tAndB, *]
theorem t_or (h1 : ga ρ = some (c, ρ1)) (h2 : (c = true ∧ (true, ρ1) = y) ∨ (c = false ∧ gb ρ1 = some y)) : tOrB ga gb ρ = some y := by
  rcases h2 with ⟨rfl, rfl⟩ | ⟨rfl, h2⟩ <;> simp [tOrB, *]
theorem s_seq (h1 : f ρ = some (.nx ρ1)) (h2 : g ρ1 = some r) : sSeq f g ρ = some r := by
  simp only [sSeq, h1, h2, Option.bind_some]
theorem s_seqR (h1 : f ρ = some (.ret d ρ1)) : sSeq f g ρ = some (.ret d ρ1) := by
  simp only [sSeq, h1, Option.bind_some]
/-- an if that goes on or returns, by what it decides -/
theorem s_seqIf (h1 : ga ρ = some (c, ρ1)) {f1 f2 : FS} (h2 : (c = true ∧ sSeq f1 g (ρ1.take n) = some r) ∨ (c = false ∧ sSeq f2 g (ρ1.take n) = some r)) : sSeq (sIf n ga f1 f2) g ρ = some r := by
  rcases h2 with ⟨rfl, h2⟩ | ⟨rfl, h2⟩
  · simp only [sSeq, sIf, h1, Option.bind_some, if_true] at h2 ⊢
    exact h2
  · simp only [sSeq, sIf, h1, Option.bind_some] at h2 ⊢
    exact h2
theorem s_assoc {f1 f2 : FS} (h : sSeq f1 (sSeq f2 g) ρ = some r) : sSeq (sSeq f1 f2) g ρ = some r := by
  rw [← h]
  unfold sSeq
  cases f1 ρ with
  | none => rfl
  | some x => cases x <;> rfl
theorem s_next (h : g ρ = some r) : sSeq sNext g ρ = some r := h
theorem s_exp (h1 : fa ρ = some (p, ρ1)) (h9 : ρ1.take n = ρ3) : sExp n fa ρ = some (.nx ρ3) := by
  subst h9
  simp only [sExp, h1, Option.map_some]
theorem s_set (h1 : fa ρ = some (p, ρ1)) (h2 : stH n i p ρ1 = some ρ2) (h9 : ρ2.take n = ρ3) : sSet n i fa ρ = some (.nx ρ3) := by
  subst h9
  simp only [sSet, h1, h2, Option.bind_some, Option.map_some]
theorem s_ret (h1 : fa ρ = some (p, ρ1)) (h2 : frz p ρ1 = some (d, ρ2)) : sRet fa ρ = some (.ret d ρ2) := by
  simp only [sRet, v_fzz h1 h2, Option.map_some]
theorem s_seqRet (h1 : fa ρ = some (p, ρ1)) (h2 : frz p ρ1 = some (d, ρ2)) : sSeq (sRet fa) g ρ = some (.ret d ρ2) := s_seqR (s_ret h1 h2)
theorem s_if (h1 : ga ρ = some (c, ρ1)) (h2 : (c = true ∧ f (ρ1.take n) = some r) ∨ (c = false ∧ g (ρ1.take n) = some r)) : sIf n ga f g ρ = some r := by
  rcases h2 with ⟨rfl, h2⟩ | ⟨rfl, h2⟩
  · simp only [sIf, h1, Option.bind_some, if_true]; exact h2
  · simp only [sIf, h1, Option.bind_some]; exact h2
theorem s_asg {gg : FG} (h1 : fa ρ = some (p, ρ1)) (h2 : frz p ρ1 = some (d, ρ2)) (h3 : gg d ρ2 = some ρ3) (h9 : ρ3.take n = ρ4) : sAsg n fa gg ρ = some (.nx ρ4) := by
  subst h9
  simp only [sAsg, v_fzz h1 h2, h3, Option.bind_some, Option.map_some]
theorem s_par {j : Nat} (h1 : fs ρ = some ([p, q], ρ1)) (h2 : [p, q].all (apart n 0) = true) (h3 : stH n i p ρ1 = some ρ2) (h4 : stH n j q ρ2 = some ρ3) (h9 : ρ3.take n = ρ4) : sPar n i j fs ρ = some (.nx ρ4) := by
  subst h9
  simp only [sPar, h1, h2, h3, h4, Option.bind_some, Option.map_some, if_true]
theorem s_put {fv fo fi : FE} {ix d0 d' : D} {j : Nat} (h1 : fv ρ = some (p, ρ1)) (h2 : frz p ρ1 = some (d, ρ2)) (h3 : fo ρ2 = some (.l j, ρ3)) (h4 : fi ρ3 = some (q, ρ4)) (h5 : res q ρ4 = some ix) (h6 : getO j ρ4 = some d0) (h7 : semPut d0 ix d = some d') {ρ5 : Er} (h8 : setO j d' ρ4 = some ρ5) {ρ6 : Er} (h9 : ρ5.take n = ρ6) :
    sPut n fv fo fi ρ = some (.nx ρ6) := by
  subst h9
  simp only [sPut, v_fzz h1 h2, h3, h4, h5, h6, h7, h8, Option.bind_some, Option.map_some]
theorem s_app {ds' : List D} {v : D} {fo : FE} {j : Nat} (h1 : fo ρ = some (.l j, ρ1)) (h2 : isL (getO j ρ1) = true) (h3 : fa ρ1 = some (p, ρ2)) (h4 : frz p ρ2 = some (d, ρ3)) (h5 : getO j ρ3 = some (.list ds)) (h6 : semApp ds d = some (v, ds')) (h7 : setO j (.list ds') ρ3 = some ρ4) :
    fMut fo fa semApp ρ = some (.v v, ρ4) := by
  simp only [fMut, v_fzz h3 h4, h1, h2, h5, h6, h7, Option.bind_some, Option.map_some, if_true]
theorem s_for {fi : FI} {gg : FG} (h1 : fi ρ = some (ds, ρ1)) (h2 : runL n gg f ds (ρ1.take n) = some r) : sFor n fi gg f ρ = some r := by
  simp only [sFor, h1, h2, Option.bind_some]
theorem i_seq (h1 : fa ρ = some (p, ρ1)) (h2 : frz p ρ1 = some (d, ρ2)) (h3 : itemsOf d = some ds) : iSeq fa ρ = some (ds, ρ2) := by
  simp only [iSeq, v_fzz h1 h2, h3, Option.bind_some, Option.map_some]
theorem i_rg1 {j : Int} (h1 : fs ρ = some (hs, ρ1)) (h2 : plain hs = some [.int j]) (h3 : bnd j = true) : iRg1 fs ρ = some (rngD 0 j.toNat, ρ1) := by
  simp only [iRg1, h1, h2, h3, Option.bind_some, if_true]
theorem i_rg2 {j k : Int} (h1 : fs ρ = some (hs, ρ1)) (h2 : plain hs = some [.int j, .int k]) (h3 : (bnd j && bnd k) = true) : iRg2 fs ρ = some (rngD j (k - j).toNat, ρ1) := by
  simp only [iRg2, h1, h2, h3, Option.bind_some, if_true]
theorem i_enum (h1 : fa ρ = some (p, ρ1)) (h2 : frz p ρ1 = some (.tuple ds, ρ2)) : iEnumF fa ρ = some (enumD ds, ρ2) := by
  simp only [iEnumF, v_fzz h1 h2, Option.bind_some]
theorem d_ret {ios : List Bool} {m : Nat} (h1 : ds.length = ios.length) (h2 : f (startR ios ds ++ List.replicate (m - ios.length) .un) = some (.ret d ρ)) (h3 : ioOk ios ρ = true) : gDef m ios f ds = some (d, outsOf ios ρ) := by
  simp only [gDef, h1, if_true, h2, h3, Option.bind_some]
theorem d_nx {ios : List Bool} {m : Nat} (h1 : ds.length = ios.length) (h2 : f (startR ios ds ++ List.replicate (m - ios.length) .un) = some (.nx ρ)) (h3 : ioOk ios ρ = true) : gDef m ios f ds = some (.none, outsOf ios ρ) := by
  simp only [gDef, h1, if_true, h2, h3, Option.bind_some]
theorem d_retX {ios : List Bool} {m : Nat} {outs : List D} (h1 : ds.length = ios.length) (h0 : startR ios ds ++ List.replicate (m - ios.length) .un = ρ) (h2 : f ρ = some (.ret d ρ1)) (h3 : ioOk ios ρ1 = true) (h4 : outsOf ios ρ1 = outs) : gDef m ios f ds = some (d, outs) := by
  subst h0 h4
  exact d_ret h1 h2 h3
theorem d_nxX {ios : List Bool} {m : Nat} {outs : List D} (h1 : ds.length = ios.length) (h0 : startR ios ds ++ List.replicate (m - ios.length) .un = ρ) (h2 : f ρ = some (.nx ρ1)) (h3 : ioOk ios ρ1 = true) (h4 : outsOf ios ρ1 = outs) : gDef m ios f ds = some (.none, outs) := by
  subst h0 h4
  exact d_nx h1 h2 h3
theorem m_mulr {a b : Int} (h : smallI b = true) : semBin .Mult (.int a) (.int b) = some (.int (a * b)) := by
  show (if (smallI a || smallI b) = true then _ else _) = _
  simp [h]
theorem m_mull {a b : Int} (h : smallI a = true) : semBin .Mult (.int a) (.int b) = some (.int (a * b)) := by
  show (if (smallI a || smallI b) = true then _ else _) = _
  simp [h]
theorem m_div {a b : Int} (h : 0 < b) (h2 : b < 1073741824) : semBin .FloorDiv (.int a) (.int b) = some (.int (a / b)) := by
  show (if (decide (0 < b) && decide (b < 1073741824)) = true then _ else _) = _
  simp [h, h2]
theorem m_mod {a b : Int} (h : 0 < b) : semBin .Mod (.int a) (.int b) = some (.int (a % b)) := by
  show (if decide (0 < b) = true then _ else _) = _
  simp [h]
theorem m_ix {k : Nat} {i : Int} (h1 : 0 ≤ i) (h2 : i.toNat = k) (h3 : ds[k]? = some d) : semIx (.list ds) (.int i) = some d := by
  subst h2
  have : i < ds.length := by
    obtain ⟨h, _⟩ := List.getElem?_eq_some_iff.mp h3
    omega
  show (ixN ds.length i).bind _ = _
  rw [show ixN ds.length i = some i.toNat by simp [ixN, h1, this]]
  exact h3
theorem m_ixt {k : Nat} {i : Int} (h1 : 0 ≤ i) (h2 : i.toNat = k) (h3 : ds[k]? = some d) : semIx (.tuple ds) (.int i) = some d := m_ix (ds := ds) h1 h2 h3
def NI (x : Sl) : Prop := ∀ d, x ≠ .io d
theorem ni_un : NI .un := fun _ h => nomatch h
theorem ni_val : NI (.val d) := fun _ h => nomatch h
theorem stV_ni {x : Sl} (h : ρ[i]? = some x) (hx : NI x) : stV i d ρ = some (ρ.set i (.val d)) := by
  unfold stV
  rw [h]
  cases x with
  | io d => exact absurd rfl (hx d)
  | _ => rfl
theorem stH_ni {x : Sl} (h : ρ[i]? = some x) (hx : NI x) : stH n i (.v d) ρ = some (ρ.set i (.val d)) := stV_ni h hx
theorem sh_int (a : Int) : SeqAt.shaped (.int a) = true := by first | rfl | simp [SeqAt.shaped, PyData.canLay0, PyData.depth] | (unfold SeqAt.shaped; rfl)
theorem m_ne {a b : Int} : semC .NotEq (.int a) (.int b) = some (.bool (decide (a ≠ b))) := by
  have e : semC .NotEq (.int a) (.int b) = semNe (.int a) (.int b) := by unfold semC semCmp; rfl
  rw [e]
  simp only [semNe, sh_int, Bool.and_self, if_true, PyData.eqv]
  by_cases h : a = b <;> simp [h]
theorem m_eq {a b : Int} : semC .Eq (.int a) (.int b) = some (.bool (decide (a = b))) := by
  have e : semC .Eq (.int a) (.int b) = semEq (.int a) (.int b) := by unfold semC semCmp; rfl
  rw [e]
  simp only [semEq, sh_int, Bool.and_self, if_true, PyData.eqv]
  by_cases h : a = b <;> simp [h]
theorem m_app (h : ds.length ≤ 1000000) : semApp ds d = some (.none, ds ++ [d]) := by
  simp [semApp, few, h]
theorem m_bnd {a : Int} (h : -4611686018427387904 ≤ a) (h2 : a < 4611686018427387904) : bnd a = true := by
  simp [bnd]; omega
/-- a loop by an invariant -/
theorem runL_inv {m : Nat} {gg : FG} (I : Nat → Er → Prop) : ∀ (xs : List D) (j : Nat) (ρ : Er), I j ρ → (∀ (x : D) (j : Nat) (ρ : Er), I j ρ → x ∈ xs → ∃ ρ1 ρ2, gg x ρ = some ρ1 ∧ f (ρ1.take m) = some (.nx ρ2) ∧ I (j + 1) ρ2) → ∃ ρ', runL m gg f xs ρ = some (.nx ρ') ∧ I (j + xs.length) ρ'
  | [], _, ρ, h, _ => ⟨ρ, rfl, h⟩
  | x :: xs, j, ρ, h, st => by
    obtain ⟨ρ1, ρ2, e1, e2, h2⟩ := st x j ρ h List.mem_cons_self
    obtain ⟨ρ', e, h'⟩ := runL_inv I xs (j + 1) ρ2 h2 fun y j ρ h hy => st y j ρ h (List.mem_cons_of_mem _ hy)
    refine ⟨ρ', ?_, by rw [List.length_cons, show j + (xs.length + 1) = j + 1 + xs.length by omega]; exact h'⟩
    simp only [runL, e1, e2, Option.bind_some]
    exact e
/-- a loop by an invariant, so many rounds at most -/
theorem runL_inv2 {m : Nat} {gg : FG} (M : Nat) (I : Nat → Er → Prop) : ∀ (xs : List D) (j : Nat) (ρ : Er), j + xs.length ≤ M → I j ρ → (∀ (x : D) (j : Nat) (ρ : Er), I j ρ → x ∈ xs → j < M → ∃ ρ1 ρ2, gg x ρ = some ρ1 ∧ f (ρ1.take m) = some (.nx ρ2) ∧ I (j + 1) ρ2) → ∃ ρ', runL m gg f xs ρ = some (.nx ρ') ∧ I (j + xs.length) ρ'
  | [], _, ρ, _, h, _ => ⟨ρ, rfl, h⟩
  | x :: xs, j, ρ, hM, h, st => by
    rw [List.length_cons] at hM
    obtain ⟨ρ1, ρ2, e1, e2, h2⟩ := st x j ρ h List.mem_cons_self (by omega)
    obtain ⟨ρ', e, h'⟩ := runL_inv2 M I xs (j + 1) ρ2 (by omega) h2 fun y j ρ h hy => st y j ρ h (List.mem_cons_of_mem _ hy)
    refine ⟨ρ', ?_, by rw [List.length_cons, show j + (xs.length + 1) = j + 1 + xs.length by omega]; exact h'⟩
    simp only [runL, e1, e2, Option.bind_some]
    exact e
theorem rng_int {a : Int} {m : Nat} {x : D} (h : x ∈ rngD a m) : ∃ i : Nat, i < m ∧ x = .int (a + i) := by
  obtain ⟨i, hi, e⟩ := List.mem_map.mp h
  exact ⟨i, List.mem_range.mp hi, e.symm⟩
theorem lay_list {ds : List D} : (∀ x ∈ ds, x.canLay0 = true ∧ x.depth ≤ 5) → PyData.canLayAll0 ds = true ∧ PyData.depthAll ds ≤ 5 := by
  induction ds with
  | nil => exact fun _ => ⟨rfl, by simp [PyData.depthAll]⟩
  | cons x xs ih =>
    intro h
    obtain ⟨h1, h2⟩ := ih fun y hy => h y (List.mem_cons_of_mem _ hy)
    obtain ⟨h3, h4⟩ := h x List.mem_cons_self
    exact ⟨by simp [PyData.canLayAll0, h1, h3], by simp [PyData.depthAll]; omega⟩
theorem shp_list {ds : List D} (h : ∀ x ∈ ds, x.canLay0 = true ∧ x.depth ≤ 5) : SeqAt.shaped (.list ds) = true := by
  obtain ⟨h1, h2⟩ := lay_list h
  simp [SeqAt.shaped, PyData.canLay0, h1, PyData.depth]
  omega
theorem m_eqNil {ds : List D} (h : ∀ x ∈ ds, x.canLay0 = true ∧ x.depth ≤ 5) : semC .Eq (.list ds) (.list []) = some (.bool ds.isEmpty) := by
  have e : semC .Eq (.list ds) (.list []) = semEq (.list ds) (.list []) := by unfold semC semCmp; rfl
  rw [e]
  have n : SeqAt.shaped (.list []) = true := shp_list (ds := []) (fun _ h => nomatch h)
  simp only [semEq, shp_list h, n, Bool.and_self, if_true]
  cases ds <;> simp [PyData.eqv, PyData.eqvAll]
theorem v_at {F : Fn} {ds0 : List D} {x : D × List D} (h : F.g ds0 = some x) (e : ds = ds0) : F.g ds = some x := e ▸ h
theorem l_at {m : Nat} {gg : FG} {xs : List D} {ρ0 : Er} {x : Rs} (h : runL m gg f xs ρ0 = some x) (e : ρ = ρ0) : runL m gg f xs ρ = some x := e ▸ h
theorem take_n {m : Nat} {ρ0 : Er} (e : ρ.take m = ρ0) : ρ.take m = ρ0 := e
theorem v_chainT {s1 s2 : D → D → Option D} {d4 d5 d6 : D} (h1 : fa ρ = some (p, ρ1)) (h2 : fb ρ1 = some (q, ρ2)) (h3 : res p ρ2 = some d1) (h4 : res q ρ2 = some d2) (h5 : s1 d1 d2 = some (.bool c)) (hc : c = true) (e1 : fc ρ2 = some (h, ρ3)) (e2 : res q ρ3 = some d4) (e3 : res h ρ3 = some d5) (e4 : s2 d4 d5 = some d6) : fChain fa fb fc s1 s2 ρ = some (.v d6, ρ3) :=
  v_chain h1 h2 h3 h4 h5 (.inl ⟨hc, _, _, _, _, _, e1, e2, e3, e4, rfl⟩)
theorem v_not (h1 : fa ρ = some (p, ρ1)) (h3 : res p ρ1 = some d1) (h5 : truth d1 = some c) : fNot fa ρ = some (.v (.bool (!c)), ρ1) := v_un h1 h3 (by rw [h5]; rfl)
theorem g_nil {sv : Bool} {vs : List Nat} {fg : FG} {ft' : FT} {m : Nat} : allG sv vs fg ft' fe m [] ρ = some (!sv, ρ) := rfl
theorem g_cons {sv b : Bool} {vs : List Nat} {fg : FG} {ft' : FT} {m : Nat} {z : Bool × Er} (h1 : fg d ρ = some ρ1) (h2 : ft' ρ1 = some (true, ρ2)) (h3 : fe ρ2 = some (p, ρ3)) (h4 : frz p ρ3 = some (.bool b, ρ4)) {ρ5 : Er} (h5 : wipeR vs (ρ4.take m) = some ρ5) (h6 : (b == sv) = false) (h7 : allG sv vs fg ft' fe m ds ρ5 = some z) : allG sv vs fg ft' fe m (d :: ds) ρ = some z := by
  have h6 : ¬ b = sv := by simpa using h6
  simp only [allG, h1, h2, v_fzz h3 h4, h5, Option.bind_some, if_true]
  rw [if_neg h6]
  exact h7
theorem v_all {sv b : Bool} {vs : List Nat} {fi : FI} {fg : FG} {ft' : FT} (h1 : fi ρ = some (ds, ρ1)) (h2 : wipeR vs ρ1 = some ρ2) (h3 : allG sv vs fg ft' fe ρ2.length ds ρ2 = some (b, ρ3)) : fAll sv vs fi fg ft' fe ρ = some (.v (.bool b), ρ3) := by
  simp only [fAll, h1, h2, h3, Option.bind_some, Option.map_some]
theorem s_seqFail {g2 : FS} (h1 : ga ρ = some (c, ρ1)) (hc : c = false) (h2 : g (ρ1.take n) = some r) : sSeq (sIf n ga g2 sNext) g ρ = some r := s_seqIf h1 (.inr ⟨hc, h2⟩)
theorem v_sl {fl fh : FO} {lo hi : Option Int} (h1 : fa ρ = some (p, ρ1)) (hl : fl ρ1 = some (lo, ρ2)) (hh : fh ρ2 = some (hi, ρ3)) (hr : res p ρ3 = some d) (hs : semSl d lo hi = some d1) : fSl fa fl fh ρ = some (.v d1, ρ3) := by
  simp only [fSl, h1, hl, hh, hr, hs, Option.bind_some, Option.map_some]
theorem enum_mem {x : D} (h : x ∈ enumD ds) : ∃ (i : Int) (d : D), d ∈ ds ∧ x = .tuple [.int i, d] := by
  unfold enumD at h
  obtain ⟨i, hi, e⟩ := List.mem_mapIdx.mp h
  exact ⟨i, _, List.getElem_mem hi, e.symm⟩
theorem enum_len : (enumD ds).length = ds.length := by simp [enumD]
theorem g_T {gs : FGs} (h : ds.length = n) (h2 : gs ds ρ = some ρ1) : gT gs n (.tuple ds) ρ = some ρ1 := by
  simp only [gT, h, if_true, h2]
theorem gs_cons {fg : FG} {gs : FGs} (h : fg d ρ = some ρ1) (h2 : gs ds ρ1 = some ρ2) : gsCons fg gs (d :: ds) ρ = some ρ2 := by
  simp only [gsCons, h, h2, Option.bind_some]
theorem gs_nil : gsNil [] ρ = some ρ := rfl
theorem gN_ni {x : Sl} (h : ρ[i]? = some x) (hx : NI x) : gN i d ρ = some (ρ.set i (.val d)) := stV_ni h hx
theorem stp {gg : FG} {m : Nat} {x : D} {I : Er → Prop} (h1 : gg x ρ = some ρ1) (h2 : f (ρ1.take m) = some (.nx ρ2)) (h3 : ρ2 = ρ3) (h4 : I ρ3) : ∃ ρ1 ρ2, gg x ρ = some ρ1 ∧ f (ρ1.take m) = some (.nx ρ2) ∧ I ρ2 := ⟨ρ1, ρ2, h1, h2, h3 ▸ h4⟩
theorem ex_seq {Q : Rs → Prop} (h : ∃ ρ1, f ρ = some (.nx ρ1) ∧ ∃ r, g ρ1 = some r ∧ Q r) : ∃ r, sSeq f g ρ = some r ∧ Q r := by
  obtain ⟨ρ1, e, r, e2, q⟩ := h
  exact ⟨r, s_seq e e2, q⟩
theorem rng_len {a : Int} {m : Nat} : (rngD a m).length = m := by simp [rngD]
theorem m_lst (h : ds.length ≤ 1000000) : few ds.length = true := by simp [few, h]
end
end Ev

set_option maxRecDepth 100000
set_option maxHeartbeats 4000000
namespace Ev
open PySem PySem.Spec PyProof.Rows L2
section
variable {X : Cx}
def semMax3 : List D → Option D
  | [.int i, .int j, .int k] => some (.int (if k > (if j > i then j else i) then k else (if j > i then j else i)))
  | _ => none
def semMin3 : List D → Option D
  | [.int i, .int j, .int k] => some (.int (if k < (if j < i then j else i) then k else (if j < i then j else i)))
  | _ => none
theorem RepBs.three {K : PySem.W.Frag} {H : Hp} {Ex : Addr → Prop} {d1 d2 d3 : D} {vs : List V} (h : RepBs K H Ex [d1, d2, d3] vs) : ∃ v w u, vs = [v, w, u] ∧ RepB K H Ex d1 v ∧ RepB K H Ex d2 w ∧ RepB K H Ex d3 u := by
  cases h with
  | cons h1 h2 => cases h2 with
    | cons h2 h3 => cases h3 with
      | cons h3 h4 => cases h4; exact ⟨_, _, _, rfl, h1, h2, h3⟩
theorem nuMax3_int (i j k : Int) : nuMax3 (.int i) (.int j) (.int k) = some (.int (if k > (if j > i then j else i) then k else (if j > i then j else i))) := by
  have h2 : ∀ a b : Int, nuMax2 (.int a) (.int b) = some (.int (if b > a then b else a)) := fun a b => by
    by_cases h : b > a
    · have : decide (a < b) = true := decide_eq_true h
      show (some (decide (a < b))).map _ = _
      rw [this, if_pos h]; rfl
    · have : decide (a < b) = false := decide_eq_false h
      show (some (decide (a < b))).map _ = _
      rw [this, if_neg h]; rfl
  unfold nuMax3
  rw [h2, Option.bind_some, h2]
theorem nuMin3_int (i j k : Int) : nuMin3 (.int i) (.int j) (.int k) = some (.int (if k < (if j < i then j else i) then k else (if j < i then j else i))) := by
  have h2 : ∀ a b : Int, nuMin2 (.int a) (.int b) = some (.int (if b < a then b else a)) := fun a b => by
    by_cases h : b < a
    · have : decide (b < a) = true := decide_eq_true h
      show (some (decide (b < a))).map _ = _
      rw [this, if_pos h]; rfl
    · have : decide (b < a) = false := decide_eq_false h
      show (some (decide (b < a))).map _ = _
      rw [this, if_neg h]; rfl
  unfold nuMin3
  rw [h2, Option.bind_some, h2]
theorem cr_max3 (hc : X.calm = true) : CallR X (.builtin "max") (rN X.K semMax3) := by
  intro pins s σ H xs us Q I r h
  obtain ⟨Ex, ds, d, fr, rb, e, q⟩ := h
  unfold semMax3 at e
  split at e
  · cases e
    obtain ⟨v, w, u, rfl, b, b', b''⟩ := rb.three
    cases b.int
    cases b'.int
    cases b''.int
    exact call_max3Nu hc pins s σ H _ us Q I r ⟨_, _, _, _, rfl, nuMax3_int _ _ _, q _ _ (fun _ _ z => z) (.int _)⟩
  · cases e
theorem cr_min3 (hc : X.calm = true) : CallR X (.builtin "min") (rN X.K semMin3) := by
  intro pins s σ H xs us Q I r h
  obtain ⟨Ex, ds, d, fr, rb, e, q⟩ := h
  unfold semMin3 at e
  split at e
  · cases e
    obtain ⟨v, w, u, rfl, b, b', b''⟩ := rb.three
    cases b.int
    cases b'.int
    cases b''.int
    exact call_min3Nu hc pins s σ H _ us Q I r ⟨_, _, _, _, rfl, nuMin3_int _ _ _, q _ _ (fun _ _ z => z) (.int _)⟩
  · cases e
end
end Ev

set_option maxRecDepth 100000
set_option maxHeartbeats 4000000
namespace HT
open PySem PySem.Spec PyProof.Rows PySem.Calls
section
variable {prog : Program} {w : World} {A : Around} {E : Value → Shared → Prop} {s : Shared}
theorem sliceApplied_rev {sl : Addr} {vl vu vs : Value} {n : Nat} {Q : Int × Int × Nat → Shared → Prop} (hs : s.heap.IsSliceOf sl vl vu vs) (pl : IsPart vl none) (pu : IsPart vu none) (ps : IsPart vs (some (-1)))
    (h : Q (((n : Int) - 1), -1, n) s) : wpAny (model prog w) A (Builtin.Slice.sliceApplied (.ref sl) (pure (n : Int))) Q E s := by
  obtain ⟨oz, z1, z2, z3⟩ := id hs
  unfold Builtin.Slice.sliceApplied Builtin.Slice.sliceFields
  refine wpAny_bind (wpAny_bind (wpAny_field z1 z3 (x := vl) rfl (wpAny_bind (wpAny_field z1 z3 (x := vu) rfl (wpAny_bind (wpAny_field z1 z3 (x := vs) rfl (wpAny_pure (wpAny_bind (slicePart_ ps ?_)))))))))
  show wpAny _ _ (if ((-1 : Int) == 0) = true then _ else _) _ _ s
  rw [if_neg (by decide)]
  refine wpAny_bind (slicePart_ pl (wpAny_bind (slicePart_ pu (wpAny_bind (wpAny_pure ?_)))))
  show wpAny _ _ (match Builtin.Slice.sliceAdjust none none (-1) (n : Int) with | (lo, hi) => pure (lo, (-1 : Int), Builtin.Slice.slicePlaces lo hi (-1))) _ _ s
  have e1 : Builtin.Slice.sliceAdjust none none (-1) (n : Int) = ((n : Int) - 1, -1) := by
    unfold Builtin.Slice.sliceAdjust
    simp
  have e2 : Builtin.Slice.slicePlaces ((n : Int) - 1) (-1) (-1) = n := by
    unfold Builtin.Slice.slicePlaces
    simp
    omega
  rw [e1]
  show wpAny _ _ (pure (((n : Int) - 1), (-1 : Int), Builtin.Slice.slicePlaces ((n : Int) - 1) (-1) (-1))) _ _ s
  rw [e2]
  exact wpAny_pure h
theorem fm_congr {α β : Type} {f k : α → Option β} : ∀ {l : List α}, (∀ x, x ∈ l → f x = k x) → l.filterMap f = l.filterMap k
  | [], _ => rfl
  | a :: r, h => by
    have ih := fm_congr (f := f) (k := k) (l := r) fun x hx => h x (List.mem_cons_of_mem _ hx)
    simp only [List.filterMap_cons, h a List.mem_cons_self, ih]
theorem pick_rev (xs : Array Value) : ((List.range xs.size).filterMap fun (m : Nat) => xs[(((xs.size : Int) - 1) + (m : Int) * (-1)).toNat]?).toArray = xs.toList.reverse.toArray := by
  have e : (List.range xs.size).filterMap (fun (m : Nat) => xs[(((xs.size : Int) - 1) + (m : Int) * (-1)).toNat]?) = ((List.range xs.size).map fun k => xs.size - 1 - k).filterMap (xs[·]?) := by
    rw [List.filterMap_map]
    refine fm_congr fun m hm => ?_
    have := List.mem_range.mp hm
    show xs[(((xs.size : Int) - 1) + (m : Int) * (-1)).toNat]? = xs[xs.size - 1 - m]?
    congr 1
    omega
  rw [e, PySem.W.krv_range, List.filterMap_reverse, PySem.W.krv_all]
theorem getItem_tuple_rev {t sl : Addr} {items : Array Value} {vl vu vs : Value} {Q : Value → Shared → Prop} (ht : IsTup s.heap t items) (hs : s.heap.IsSliceOf sl vl vu vs) (pl : IsPart vl none) (pu : IsPart vu none) (ps : IsPart vs (some (-1)))
    (h : Q (.ref s.heap.objs.size) { s with heap := s.heap.push { cls := .type "tuple", data := .seq items.toList.reverse.toArray } })
    (hsz : items.size ≤ sizeLine) : wpAny (model prog w) A (getItem (.ref t) (.ref sl)) Q E s := by
  have htake : sizeOk (.seq items.toList.reverse.toArray) := by
    show items.toList.reverse.toArray.size ≤ sizeLine
    rw [List.size_toArray, List.length_reverse, Array.length_toList]
    exact hsz
  obtain ⟨oz, z1, z2, z3⟩ := id hs
  have tz : s.TypeIs (.ref sl) "slice" := ⟨oz, z1, z2⟩
  unfold getItem
  (try with_reducible refine wpAny_holding ?_); (first | refine wpAny_bind (wpAny_pure ?_) | skip)
  refine wpAny_bind (wpAny_sequenceKey ht.typeIs (by decide) (wpAny_bind (wpAny_callSpecial?_slot (name := Str.ofString "__getitem__") ht.typeIs PyProof.Rows.slot_tuple_getitem (wpAny_call_entry PyProof.Rows.slot_tuple_getitem ht.typeIs entry_tuple_getitem ?_ (args_tuple_getitem _ _)))))
  show wpAny _ _ (Builtin.Tuple.tupleItemsOf (.ref t) >>= fun _ => _) _ _ s
  refine wpAny_bind (tupleItemsOf_ ht (wpAny_bind (wpAny_typeOf tz ?_)))
  rw [if_pos (by decide)]
  refine wpAny_bind (sliceApplied_rev hs pl pu ps ?_)
  have hno : ¬ ((((items.size : Int) - 1) == 0 && (-1 : Int) == 1 && items.size == items.size) = true) := by
    simp
  show wpAny _ _ (if (((items.size : Int) - 1) == 0 && (-1 : Int) == 1 && items.size == items.size) = true then _ else _) _ _ s
  rw [if_neg hno, pick_rev]
  exact wpAny_bind (m := Builtin.Tuple.tupleExact _) (wpAny_newObj_type (wpAny_pure ⟨_, rfl, wpAny_pure h⟩) (htake : sizeOk _))
end
end HT
namespace Ev
open PySem PySem.Spec PyProof.Rows L2
section
variable {X : Cx} {B : Bx} {a : Expr} {fa : FE} {pos p2 : Pos}
def tRevA (K : PySem.W.Frag) (te : TE) : TE := fun σ H Q => te σ H fun x H1 => ∃ a xs, x = .ref a ∧ ((SqL K H1 a xs ∧ ∀ p, H1 p = none → Q (.ref p) (upd H1 p (.lst xs.reverse))) ∨ (SqT K H1 a xs ∧ ∀ p, H1 p = none → Q (.ref p) (upd H1 p (.tup xs.reverse))))
theorem pe_revA {e : Expr} {te : TE} {k : Nat} {p1 p2 p3 pos : Pos} (he : PE X e te) : PE X (.Subscript e (.Slice none none (some (.UnaryOp .USub (.Constant (.int 1) k p1) p2)) p3) pos) (tRevA X.K te) := by
  refine ⟨fun pins s σ H Q I h => Subscript_ (thn (he.run pins s σ H _ I h) fun v s1 ⟨x, H1, I1, r1, a, xs, ex, hx⟩ => ?_)⟩
  subst ex
  cases r1
  have hst : PO X (some (.UnaryOp .USub (.Constant (.int 1) k p1) p2)) (tPart (tUn (rU fun i => .int (-i)) (tC (.int 1)))) := po_some (pe_un un_neg (pe_int (i := 1)))
  refine wpAny_Slice (thn (po_none.run pins s1 σ H1 (fun o K2 => o = none ∧ K2 = H1) I1 ⟨rfl, rfl⟩) fun vl s2 ⟨l, H2, I2, pl, el, e2⟩ => ?_)
  subst el e2
  refine thn (po_none.run pins s2 σ H2 (fun o K3 => o = none ∧ K3 = H2) I2 ⟨rfl, rfl⟩) fun vu s3 ⟨u, H3, I3, pu, eu, e3⟩ => ?_
  subst eu e3
  refine thn (hst.run pins s3 σ H3 (fun o K4 => o = some (-1) ∧ K4 = H3) I3 ⟨1, rfl, -1, rfl, rfl, rfl⟩) fun vs s4 ⟨o, H4, I4, ps, eo, e4⟩ => ?_
  subst eo e4
  have I5 : Inv X pins σ H4 { s4 with heap := s4.heap.push { cls := .type "slice", data := .fields #[vl, vu, vs] } } := I4.kept (t' := s4.toks) fun b ob z => Heap.get?_push_of_some _ z
  show wpAny (model X.prog X.w) X.A (subscriptTail e (.Slice none none (some (.UnaryOp .USub (.Constant (.int 1) k p1) p2)) p3) (.ref a) (.ref s4.heap.objs.size)) (EP X pins σ Q) X.xe { s4 with heap := s4.heap.push { cls := .type "slice", data := .fields #[vl, vu, vs] } }
  rcases hx with ⟨hx, q⟩ | ⟨hx, q⟩
  · obtain ⟨its, r, ht, hz⟩ := I5.list hx
    have hlen := r.length
    refine tail_any (ops := [.ref a, .ref s4.heap.objs.size]) ht.isList.typeIs (PySem.slot_list_getitem.lookup) (wpAny_getItem_list_slice ht.isList (Heap.IsSliceOf.new _ vl vu vs) pl pu ps (by decide) ?_ (by rw [List.size_toArray]; omega)) (by with_unfolding_all rfl)
    rw [PySem.W.krv_pick]
    exact ⟨.ref _, _, I5.laid (t' := s4.toks) (o := .lst xs.reverse) (fun b ob z => Heap.get?_push_of_some _ z) (Nat.le_refl _) ⟨by rw [List.length_reverse]; exact hz, _, 0, r.reverse, Heap.get?_push_size _ rfl⟩, rfl, q _ (I5.hok.fresh (Nat.le_refl _))⟩
  · obtain ⟨its, r, ht, hz⟩ := I5.tuple hx
    have hlen := r.length
    refine tail_any (ops := [.ref a, .ref s4.heap.objs.size]) ht.typeIs (PyProof.Rows.slot_tuple_getitem.lookup) (HT.getItem_tuple_rev ht (Heap.IsSliceOf.new _ vl vu vs) pl pu ps ?_ (by rw [List.size_toArray]; omega)) (by with_unfolding_all rfl)
    exact ⟨.ref _, _, I5.laid (t' := s4.toks) (o := .tup xs.reverse) (fun b ob z => Heap.get?_push_of_some _ z) (Nat.le_refl _) ⟨by rw [List.length_reverse]; exact hz, _, r.reverse, IsTup.new _ _⟩, rfl, q _ (I5.hok.fresh (Nat.le_refl _))⟩
def semRevA : D → Option D
  | .list ds => some (.list ds.reverse)
  | .tuple ds => some (.tuple ds.reverse)
  | _ => none
theorem ev_revA {k : Nat} {p1 p3 p4 : Pos} (ha : EV X B a fa) : EV X B (.Subscript a (.Slice none none (some (.UnaryOp .USub (.Constant (.int 1) k p1) p2)) p3) pos) (fUn fa semRevA) := fun ρ h ρ' q => by
  unfold fUn at q
  obtain ⟨⟨h1, ρ1⟩, e1, q⟩ := Option.bind_eq_some_iff.mp q
  obtain ⟨d, e2, q⟩ := Option.bind_eq_some_iff.mp q
  obtain ⟨d', e3, q⟩ := Option.map_eq_some_iff.mp q
  cases q
  refine pe_imp (pe_revA (ha _ _ _ e1)) fun σ H Q ⟨om, R, kk⟩ => ⟨om, R, fun v H' om' s R' r => ?_⟩
  have b := R'.resb r e2
  unfold semRevA at e3
  split at e3
  · cases e3
    obtain ⟨p, xs, rfl, sq, rr⟩ := b.lst
    exact ⟨p, xs, rfl, .inl ⟨sq, fun p n => kk _ _ om' (s.trans (.same (same_upd n))) (R'.same (same_upd n)) (new_lst R'.fresh n rr.reverse)⟩⟩
  · cases e3
    obtain ⟨p, xs, rfl, sq, _, rr⟩ := b.tup
    exact ⟨p, xs, rfl, .inr ⟨.of sq, fun p n => kk _ _ om' (s.trans (.same (same_upd n))) (R'.same (same_upd n)) (new_tup R'.fresh n rr.reverse)⟩⟩
  · cases e3
end
end Ev

set_option maxRecDepth 100000
set_option maxHeartbeats 4000000
namespace Ev
open PySem PySem.Spec PyProof.Rows L2
theorem wipe_non {vs : List Nat} : ∀ {τ : L2.St} {i : Nat}, i ∈ vs → i < τ.length → (L2.wipe τ vs)[i]? = some none := by
  induction vs with
  | nil => intro τ i h; exact (List.not_mem_nil h).elim
  | cons a vs ih =>
    intro τ i h hl
    unfold L2.wipe
    by_cases e : i = a
    · subst e; exact List.getElem?_set_self (by rw [wipe_length]; exact hl)
    · rw [List.getElem?_set_ne (Ne.symm e)]; exact ih ((List.mem_cons.mp h).resolve_left e) hl
theorem wipe_eqO {σ σ4 : L2.St} {vs : List Nat} (hl : σ4.length = σ.length) (hv : ∀ v ∈ vs, v < σ.length) (u4 : ∀ i, i ∉ vs → σ4[i]? = σ[i]?) : L2.wipe σ4 vs = L2.wipe σ vs := by
  refine List.ext_getElem? fun i => ?_
  by_cases hi : i ∈ vs
  · have h1 := hv i hi
    rw [wipe_non hi (by omega), wipe_non hi h1]
  · rw [wipe_out' hi, wipe_out' hi, u4 i hi]
section
variable {K : PySem.W.Frag} {B : Bx}
theorem back_of {vs : List Nat} {σ4 σb : L2.St} {τb : List (Option V)} {n : Nat} {ρ5 ρ6 : Er} {omb om6 : Om} {Hb H6 : Hp} (w : L2.wipe σ4 vs = L2.wipe σb vs) (hv : ∀ v ∈ vs, v < σ4.length) (hn : σ4.length + τb.length = n)
    (R6 : Rel K B ρ5 om6 σ4 H6) (x6 : ∃ t, om6.τ = τb ++ t) (s6 : Ste B omb Hb om6 H6) (ew : wipeR vs (ρ5.take n) = some ρ6) :
    ∃ om7, Rel K B ρ6 om7 (L2.wipe σb vs) H6 ∧ om7.τ = τb ∧ Ste B omb Hb om7 H6 ∧ ∀ v ∈ vs, ρ6[v]? = some .un := by
  obtain ⟨t, et⟩ := x6
  obtain ⟨R7, x7⟩ := R6.cutT (n := n) et hn
  obtain ⟨om8, t8, x8, R8, u8, _⟩ := R7.wipe hv ew
  rw [w] at R8
  exact ⟨om8, R8, t8, s6.trans (.sub fun a z => x7 a (x8 a z)), u8⟩
end
/-! ### [e for t in it if c for t1 in it1 if c1] -/
def compI (vs : List Nat) (fg : FG) (ft : FT) (fe : FE) (m n : Nat) : List D → Er → Option Er
  | [], ρ => some ρ
  | d :: r, ρ => (fg d ρ).bind fun ρ1 => (ft ρ1).bind fun p => if p.1 = true then (fz fe p.2).bind fun q => (getO m q.2).bind fun d0 => match d0 with
      | .list acc => if few acc.length then (setO m (.list (acc ++ [q.1])) q.2).bind fun ρ4 => (wipeR vs (ρ4.take n)).bind fun ρ5 => compI vs fg ft fe m n r ρ5 else none
      | _ => none
    else (wipeR vs (p.2.take n)).bind fun ρ5 => compI vs fg ft fe m n r ρ5
def compL2 (vs vs1 : List Nat) (fg : FG) (ft : FT) (fi1 : FI) (fg1 : FG) (ft1 : FT) (fe : FE) (m : Nat) : List D → Er → Option Er
  | [], ρ => some ρ
  | d :: r, ρ => (fg d ρ).bind fun ρ1 => (ft ρ1).bind fun p => if p.1 = true then (fi1 p.2).bind fun q => (wipeR vs1 q.2).bind fun ρ3 => (compI vs1 fg1 ft1 fe m ρ3.length q.1 ρ3).bind fun ρ4 => (wipeR vs (ρ4.take (m + 1))).bind fun ρ5 => compL2 vs vs1 fg ft fi1 fg1 ft1 fe m r ρ5
    else (wipeR vs (p.2.take (m + 1))).bind fun ρ5 => compL2 vs vs1 fg ft fi1 fg1 ft1 fe m r ρ5
def fLc2 (vs vs1 : List Nat) (fi : FI) (fg : FG) (ft : FT) (fi1 : FI) (fg1 : FG) (ft1 : FT) (fe : FE) : FE := fun ρ => (fi ρ).bind fun p => (wipeR vs p.2).bind fun ρ2 => (compL2 vs vs1 fg ft fi1 fg1 ft1 fe ρ2.length p.1 (ρ2 ++ [.own (.list [])])).map fun ρ' => (.l ρ2.length, ρ')
section
variable {X : Cx} {B : Bx} {elt tg iter tg1 iter1 : Expr} {ifs ifs1 : List Expr} {scope : Scope} {own : List (Str × Nat)} {vs1 : List Nat} {pos : Pos} {fi fi1 : FI} {g g1 : FG} {ts ts1 : List Nat} {ft ft1 : FT} {fe : FE}
theorem lc2_read (hts : ∀ t ∈ ts, t ∈ own.map (·.2)) (hts1 : ∀ t ∈ ts1, t ∈ vs1) (hv1 : ∀ i ∈ vs1, i ∈ own.map (·.2)) (ok : BlkOk X.N X.env.scope scope own) {ρ ρ1 ρ2 ρ' : Er} {items : List D} {σ : L2.St} {H : Hp} {Q : VK} (ln : σ.length = X.N.length)
    (e2 : wipeR (own.map (·.2)) ρ1 = some ρ2) (e3 : compL2 (own.map (·.2)) vs1 g ft fi1 g1 ft1 fe ρ2.length items (ρ2 ++ [.own (.list [])]) = some ρ')
    (h : tH X B ρ (.l ρ2.length) ρ' σ H Q) :
    tLc2 (tIt X B ρ items ρ1) (fun v σ H Q => ∃ d ρ ρ', g d ρ = some ρ' ∧ tG X B d ρ ρ' ts v σ H Q) (fun σ H Q => ∃ ρ b ρ', ft ρ = some (b, ρ') ∧ tT X B ρ b ρ' σ H Q)
      (fun σ H R => ∃ ρ items ρ', fi1 ρ = some (items, ρ') ∧ tIt X B ρ items ρ' σ H R) (fun v σ H Q => ∃ d ρ ρ', g1 d ρ = some ρ' ∧ tG X B d ρ ρ' ts1 v σ H Q) (fun σ H Q => ∃ ρ b ρ', ft1 ρ = some (b, ρ') ∧ tT X B ρ b ρ' σ H Q)
      (fun σ H Q => ∃ ρ d ρ', fz fe ρ = some (d, ρ') ∧ tV X B ρ d ρ' σ H Q) (own.map (·.2)) vs1 σ H Q := by
  obtain ⟨om, R, k⟩ := h
  have hv : ∀ {σ : L2.St}, σ.length = X.N.length → ∀ v ∈ own.map (·.2), v < σ.length := fun {σ} l v hv => by
    obtain ⟨p, hp, e⟩ := List.mem_map.mp hv
    rw [← e]
    exact lt_of l (ok.ix p hp)
  refine ⟨om, R, fun J H1 om1 s1 R1 jt L hL => ?_⟩
  obtain ⟨om2, t2, x2, R2, u2, l2⟩ := R1.wipe (hv ln) e2
  obtain ⟨R3, s3, r3⟩ := R2.pushC (d := .list []) (o := .lst []) hL (.lst .nil)
  have lw : (L2.wipe σ (own.map (·.2))).length = X.N.length := by rw [wipe_length]; exact ln
  have st : Ste B om1 H1 (psh om2 ρ2.length L) (upd H1 L (.lst [])) := (Ste.sub x2).trans s3.ste
  have hτ : σ.length + (psh om2 ρ2.length L).τ.length = ρ2.length + 1 := by
    have := R2.len
    rw [List.length_append, wipe_length] at this
    show σ.length + (om2.τ ++ [some (V.ref L)]).length = _
    rw [List.length_append, List.length_singleton]; omega
  have n2 : ∀ v ∈ own.map (·.2), v < ρ2.length := fun v hv' => by
    have := R2.len
    rw [List.length_append, wipe_length] at this
    have := hv ln v hv'
    omega
  have hl2 : σ.length ≤ ρ2.length := by
    have := R2.len
    rw [List.length_append, wipe_length] at this
    omega
  have o4 : ∀ {σ4 : L2.St} {ρ : Er} {om : Om} {H : Hp}, σ4.length = σ.length → Rel X.K B ρ om σ4 H → (∃ t, om.τ = (psh om2 ρ2.length L).τ ++ t) → ∀ {d : Ev.D}, getO ρ2.length ρ = some d → om ρ2.length = some L ∧ RepO X.K H (Exs B om) d L := fun {σ4 ρ om H} l4' R ⟨t, et⟩ {d} e => by
    have gx : (σ4 ++ om.τ)[ρ2.length]? = some (some (V.ref L)) := by
      have r3 : (L2.wipe σ (own.map (·.2)) ++ (psh om2 ρ2.length L).τ)[ρ2.length]? = some (some (V.ref L)) := r3
      rw [List.getElem?_append_right (by rw [wipe_length]; exact hl2), wipe_length] at r3
      rw [et, ← List.append_assoc]
      refine get_ext ?_
      rw [List.getElem?_append_right (by omega), l4']
      exact r3
    obtain ⟨a, e1, e2, e3⟩ := R.getO (v := V.ref L) gx e
    cases e1
    exact ⟨e2, e3⟩
  -- the loop's state
  refine ⟨fun i m H' => m = items.length - i ∧ i ≤ items.length ∧ ∃ ρi omi, Rel X.K B ρi omi (L2.wipe σ (own.map (·.2))) H' ∧ omi.τ = (psh om2 ρ2.length L).τ ∧ Ste B om1 H1 omi H' ∧ (∀ v ∈ own.map (·.2), ρi[v]? = some .un) ∧
    compL2 (own.map (·.2)) vs1 g ft fi1 g1 ft1 fe ρ2.length (items.drop i) ρi = some ρ', ⟨items.length, by simp, Nat.zero_le _, _, _, R3, rfl, st, fun v hv' => ?_, by rw [List.drop_zero]; exact e3⟩, ?_⟩
  · show (ρ2 ++ [Sl.own (.list [])])[v]? = some .un
    rw [List.getElem?_append_left (n2 v hv')]; exact u2 v hv'
  rintro i m H' ⟨rfl, hi, ρi, omi, Ri, ti, si, ui, qi⟩
  by_cases hlt : i < items.length
  · refine .inr ?_
    rw [List.drop_eq_getElem_cons hlt] at qi
    simp only [compL2] at qi
    obtain ⟨ρ3, c1, qi⟩ := Option.bind_eq_some_iff.mp qi
    obtain ⟨⟨c, ρ4⟩, c2, qi⟩ := Option.bind_eq_some_iff.mp qi
    obtain ⟨jg, jy⟩ := jt.go i items[i] omi H' Ri.exd si (List.getElem?_eq_getElem hlt)
    refine ⟨jg, fun H5 => ∃ ρ5 om5, Rel X.K B ρ5 om5 (L2.wipe σ (own.map (·.2))) H5 ∧ om5.τ = (psh om2 ρ2.length L).τ ∧ Ste B om1 H1 om5 H5 ∧ (∀ v ∈ own.map (·.2), ρ5[v]? = some .un) ∧
      compL2 (own.map (·.2)) vs1 g ft fi1 g1 ft1 fe ρ2.length (items.drop (i + 1)) ρ5 = some ρ', fun H5 z => ⟨_, by omega, rfl, hlt, z⟩, fun v H3 y => ?_⟩
    obtain ⟨sm, rv⟩ := jy v H3 y
    refine ⟨_, _, _, c1, omi, Ri.same sm, rv, fun σ4 om4 t4 x4 l4 u4 R4 => ?_⟩
    have l4' : σ4.length = σ.length := by rw [l4, wipe_length]
    have hv4 : ∀ v ∈ own.map (·.2), v < σ4.length := hv (l4'.trans ln)
    have w4 : L2.wipe σ4 (own.map (·.2)) = L2.wipe σ (own.map (·.2)) := wipe_eqO l4' (hv ln) fun i hi => by rw [u4 i (fun z => hi (hts i z)), wipe_out' hi]
    refine ⟨w4, _, _, _, c2, om4, R4, fun H4 om5 s5 R5 => ?_⟩
    have x5 : ∃ t, om5.τ = (psh om2 ρ2.length L).τ ++ t := by
      obtain ⟨t, et⟩ := s5.ext
      exact ⟨t, by rw [et, t4, ti]⟩
    have z5 : Ste B om1 H1 om5 H4 := ((si.trans (.same sm)).trans (.sub x4)).trans s5.ste
    cases c with
    | false =>
      rw [if_neg Bool.false_ne_true] at qi
      refine iF ?_
      obtain ⟨ρ6, c3, qi⟩ := Option.bind_eq_some_iff.mp qi
      obtain ⟨om7, R7, t7, s7, u7⟩ := back_of w4 hv4 (by rw [l4']; exact hτ) R5 x5 z5 c3
      exact ⟨ρ6, om7, R7, t7, s7, u7, qi⟩
    | true =>
      rw [if_pos rfl] at qi
      refine iT ?_
      obtain ⟨⟨items1, ρ6⟩, c3, qi⟩ := Option.bind_eq_some_iff.mp qi
      obtain ⟨ρ7, c4, qi⟩ := Option.bind_eq_some_iff.mp qi
      obtain ⟨ρe, c5, qi⟩ := Option.bind_eq_some_iff.mp qi
      obtain ⟨ρ8, c6, qi⟩ := Option.bind_eq_some_iff.mp qi
      refine ⟨_, _, _, c3, om5, R5, fun J1 H6 om6 s6 R6 jt1 => ?_⟩
      have hv41 : ∀ v ∈ vs1, v < σ4.length := fun v hv' => hv4 v (hv1 v hv')
      obtain ⟨om7, t7, x7, R7, u7, l7⟩ := R6.wipe hv41 c4
      have x6 : ∃ t, om6.τ = (psh om2 ρ2.length L).τ ++ t := by
        obtain ⟨t, et⟩ := x5
        obtain ⟨t', et'⟩ := s6.ext
        exact ⟨t ++ t', by rw [et', et, List.append_assoc]⟩
      have z6 : Ste B om1 H1 om6 H6 := z5.trans s6.ste
      have hτ1 : σ4.length + om6.τ.length = ρ7.length := by
        have := R7.len
        rw [List.length_append, wipe_length, t7] at this
        omega
      refine ⟨fun j m1 H' => m1 = items1.length - j ∧ j ≤ items1.length ∧ ∃ ρj omj, Rel X.K B ρj omj (L2.wipe σ4 vs1) H' ∧ omj.τ = om6.τ ∧ Ste B om6 H6 omj H' ∧ (∀ v ∈ vs1, ρj[v]? = some .un) ∧
        compI vs1 g1 ft1 fe ρ2.length ρ7.length (items1.drop j) ρj = some ρe, ⟨items1.length, by simp, Nat.zero_le _, _, _, R7, t7, .sub x7, u7, by rw [List.drop_zero]; exact c5⟩, ?_⟩
      rintro j m1 H7 ⟨rfl, hj, ρj, omj, Rj, tj, sj, uj, qj⟩
      by_cases hlt1 : j < items1.length
      · refine .inr ?_
        rw [List.drop_eq_getElem_cons hlt1] at qj
        simp only [compI] at qj
        obtain ⟨ρa, d1, qj⟩ := Option.bind_eq_some_iff.mp qj
        obtain ⟨⟨c', ρb⟩, d2, qj⟩ := Option.bind_eq_some_iff.mp qj
        obtain ⟨jg1, jy1⟩ := jt1.go j items1[j] omj H7 Rj.exd sj (List.getElem?_eq_getElem hlt1)
        refine ⟨jg1, fun H8 => ∃ ρ5 om5, Rel X.K B ρ5 om5 (L2.wipe σ4 vs1) H8 ∧ om5.τ = om6.τ ∧ Ste B om6 H6 om5 H8 ∧ (∀ v ∈ vs1, ρ5[v]? = some .un) ∧
          compI vs1 g1 ft1 fe ρ2.length ρ7.length (items1.drop (j + 1)) ρ5 = some ρe, fun H8 z => ⟨_, by omega, rfl, hlt1, z⟩, fun v1 H8 y1 => ?_⟩
        obtain ⟨sm1, rv1⟩ := jy1 v1 H8 y1
        refine ⟨_, _, _, d1, omj, Rj.same sm1, rv1, fun σ5 om8 t8 x8 l8 u8 R8 => ?_⟩
        have l8' : σ5.length = σ4.length := by rw [l8, wipe_length]
        have hv5 : ∀ v ∈ vs1, v < σ5.length := fun v hv' => by rw [l8']; exact hv41 v hv'
        have w5 : L2.wipe σ5 vs1 = L2.wipe σ4 vs1 := wipe_eqO l8' hv41 fun i hi => by rw [u8 i (fun z => hi (hts1 i z)), wipe_out' hi]
        refine ⟨w5, _, _, _, d2, om8, R8, fun H9 om9 s9 R9 => ?_⟩
        have x9 : ∃ t, om9.τ = om6.τ ++ t := by
          obtain ⟨t, et⟩ := s9.ext
          exact ⟨t, by rw [et, t8, tj]⟩
        have z9 : Ste B om6 H6 om9 H9 := ((sj.trans (.same sm1)).trans (.sub x8)).trans s9.ste
        cases c' with
        | false =>
          rw [if_neg Bool.false_ne_true] at qj
          refine iF ?_
          obtain ⟨ρc, d3, qj⟩ := Option.bind_eq_some_iff.mp qj
          obtain ⟨omA, RA, tA, sA, uA⟩ := back_of w5 hv5 (by rw [l8']; exact hτ1) R9 x9 z9 d3
          exact ⟨ρc, omA, RA, tA, sA, uA, qj⟩
        | true =>
          rw [if_pos rfl] at qj
          refine iT ?_
          obtain ⟨⟨y, ρc⟩, d3, qj⟩ := Option.bind_eq_some_iff.mp qj
          obtain ⟨d0, d4, qj⟩ := Option.bind_eq_some_iff.mp qj
          split at qj
          · rename_i acc
            split at qj
            · rename_i hf
              obtain ⟨ρd, d5, qj⟩ := Option.bind_eq_some_iff.mp qj
              obtain ⟨ρf, d6, qj⟩ := Option.bind_eq_some_iff.mp qj
              refine ⟨_, _, _, d3, om9, R9, fun v6 HA omA sA RA rA => ?_⟩
              have xA : ∃ t, omA.τ = om6.τ ++ t := by
                obtain ⟨t, et⟩ := x9
                obtain ⟨t', et'⟩ := sA.ext
                exact ⟨t ++ t', by rw [et', et, List.append_assoc]⟩
              have xB : ∃ t, omA.τ = (psh om2 ρ2.length L).τ ++ t := by
                obtain ⟨t, et⟩ := x6
                obtain ⟨t', et'⟩ := xA
                exact ⟨t ++ t', by rw [et', et, List.append_assoc]⟩
              obtain ⟨oL, ro⟩ := o4 (l8'.trans l4') RA xB d4
              have ro2 := ro
              cases ro2 with
              | @lst _ xs _ h1 h2 =>
                refine ⟨xs, h1, by rw [← h2.length]; exact few_lt hf, ?_⟩
                have kk := kup (B := B) (H := HA) (o := HO.lst (xs ++ [v6])) oL
                obtain ⟨RB, sB⟩ := RA.setO oL d5 ro (.lst upd_same (Reps.mono kk (fun _ z => .inl z) _ _ (h2.append (.cons rA .nil))))
                obtain ⟨omC, RC, tC, sC, uC⟩ := back_of w5 hv5 (by rw [l8']; exact hτ1) RB xA ((z9.trans sA.ste).trans sB.ste) d6
                exact ⟨ρf, omC, RC, tC, sC, uC, qj⟩
            · cases qj
          · cases qj
      · have e : j = items1.length := by omega
        subst e
        rw [List.drop_length] at qj
        cases qj
        refine .inl ⟨jt1.stop omj H7 sj, ?_⟩
        have ww : L2.wipe (L2.wipe σ4 vs1) (own.map (·.2)) = L2.wipe σ (own.map (·.2)) := by
          rw [← w4]
          exact wipe_eqO (wipe_length _ _) hv4 fun i hi => wipe_out' fun z => hi (hv1 i z)
        obtain ⟨omC, RC, tC, sC, uC⟩ := back_of (τb := (psh om2 ρ2.length L).τ) ww (by rw [wipe_length]; exact hv4) (by rw [wipe_length, l4']; exact hτ) Rj (by rw [tj]; exact x6) (z6.trans sj) c6
        exact ⟨ρ8, omC, RC, tC, sC, uC, qi⟩
  · have e : i = items.length := by omega
    subst e
    rw [List.drop_length] at qi
    cases qi
    refine .inl ⟨jt.stop omi H' si, k (.ref L) H' omi ⟨(s1.ste.trans si).keep, (s1.ste.trans si).grow, ?_⟩ (Ri.unwipe ui) ?_⟩
    · obtain ⟨t, et⟩ := s1.ext
      exact ⟨t ++ [some (V.ref L)], by rw [ti]; show om2.τ ++ _ = _; rw [t2, et, List.append_assoc]⟩
    · show (σ ++ omi.τ)[ρ2.length]? = some (some (V.ref L))
      have r3 : (L2.wipe σ (own.map (·.2)) ++ (psh om2 ρ2.length L).τ)[ρ2.length]? = some (some (V.ref L)) := r3
      have ge := R2.len
      rw [List.length_append, wipe_length] at ge
      rw [List.getElem?_append_right (by rw [wipe_length]; omega), wipe_length] at r3
      rw [ti, List.getElem?_append_right (by omega)]
      exact r3
theorem lc2_start {ρ ρ' : Er} {h : Hd} (q : fLc2 (own.map (·.2)) vs1 fi g ft fi1 g1 ft1 fe ρ = some (h, ρ')) : ∃ items ρ1 ρ2, fi ρ = some (items, ρ1) ∧ wipeR (own.map (·.2)) ρ1 = some ρ2 ∧ compL2 (own.map (·.2)) vs1 g ft fi1 g1 ft1 fe ρ2.length items (ρ2 ++ [.own (.list [])]) = some ρ' ∧ h = .l ρ2.length := by
  unfold fLc2 at q
  obtain ⟨⟨items, ρ1⟩, e1, q⟩ := Option.bind_eq_some_iff.mp q
  obtain ⟨ρ2, e2, q⟩ := Option.bind_eq_some_iff.mp q
  obtain ⟨ρ3, e3, q⟩ := Option.map_eq_some_iff.mp q
  cases q
  exact ⟨items, ρ1, ρ2, e1, e2, e3, rfl⟩
theorem ev_lc2 (hc : X.calm = true) (hN : X.N.Nodup) (hi : EI X B tg iter fi) (ok : BlkOk X.N X.env.scope scope own) (hts : ∀ t ∈ ts, t ∈ own.map (·.2)) (hts1 : ∀ t ∈ ts1, t ∈ vs1) (hv1 : ∀ i ∈ vs1, i ∈ own.map (·.2))
    (hg : ∀ (s : Shared) (H : Hp) (C : Addr) (cl : List (Str × Addr)) (fp : List Addr), EG (X.blk s H scope (compEnvC scope cl C X.env) fp) B tg g ts)
    (ht : ∀ (s : Shared) (H : Hp) (C : Addr) (cl : List (Str × Addr)) (fp : List Addr), ETs (X.blk s H scope (compEnvC scope cl C X.env) fp) B ifs ft)
    (hi1 : ∀ (s : Shared) (H : Hp) (C : Addr) (cl : List (Str × Addr)) (fp : List Addr), EI (X.blk s H scope (compEnvC scope cl C X.env) fp) B tg1 iter1 fi1)
    (hg1 : ∀ (s : Shared) (H : Hp) (C : Addr) (cl : List (Str × Addr)) (fp : List Addr), EG (X.blk s H scope (compEnvC scope cl C X.env) fp) B tg1 g1 ts1)
    (ht1 : ∀ (s : Shared) (H : Hp) (C : Addr) (cl : List (Str × Addr)) (fp : List Addr), ETs (X.blk s H scope (compEnvC scope cl C X.env) fp) B ifs1 ft1)
    (he : ∀ (s : Shared) (H : Hp) (C : Addr) (cl : List (Str × Addr)) (fp : List Addr), EV (X.blk s H scope (compEnvC scope cl C X.env) fp) B elt fe)
    (hs : ∀ x, foldedSetIterable iter X.env x = pure x) (hs1 : ∀ env x, foldedSetIterable iter1 env x = pure x) : EV X B (.ListComp elt [⟨tg, iter, ifs, 0⟩, ⟨tg1, iter1, ifs1, 0⟩] scope pos) (fLc2 (own.map (·.2)) vs1 fi g ft fi1 g1 ft1 fe) := fun ρ h ρ' q => by
  obtain ⟨items, ρ1, ρ2, e1, e2, e3, rfl⟩ := lc2_start q
  refine pe_impL (pe_lc2 hc hN (hi _ _ _ e1) ok hv1 (fun s H C cl fp => ⟨fun pins s σ H v u Q I r ⟨d, ρ, ρ', e, z⟩ => ((hg _ _ _ _ _).pg d ρ ρ' e).run pins s σ H v u Q I r z⟩)
    (fun s H C cl fp => ⟨fun pins s σ H Q I ⟨ρ, b, ρ', e, z⟩ => (ht _ _ _ _ _ ρ b ρ' e).run pins s σ H Q I z⟩)
    (fun s H C cl fp => ⟨fun pins s σ H R I ⟨ρ, its, ρ', e, z⟩ => (hi1 _ _ _ _ _ ρ its ρ' e).run pins s σ H R I z⟩)
    (fun s H C cl fp => ⟨fun pins s σ H v u Q I r ⟨d, ρ, ρ', e, z⟩ => ((hg1 _ _ _ _ _).pg d ρ ρ' e).run pins s σ H v u Q I r z⟩)
    (fun s H C cl fp => ⟨fun pins s σ H Q I ⟨ρ, b, ρ', e, z⟩ => (ht1 _ _ _ _ _ ρ b ρ' e).run pins s σ H Q I z⟩)
    (fun s H C cl fp => ⟨fun pins s σ H Q I ⟨ρ, d, ρ', e, z⟩ => ((he _ _ _ _ _).fz e).run pins s σ H Q I z⟩) hs hs1) fun σ H Q ln h => lc2_read hts hts1 hv1 ok ln e2 e3 h
theorem es_setLc2 {i n : Nat} {y : Str} {py spos : Pos} (hc : X.calm = true) (hN : X.N.Nodup) (hn : X.N.length = n) (hy : X.N[i]? = some y) (hyl : X.env.scope.names.lookup y = some .local)
    (hsw : swapsWith (.ListComp elt [⟨tg, iter, ifs, 0⟩, ⟨tg1, iter1, ifs1, 0⟩] scope pos) (some (.Name y py)) spos.line X.env = pure true) (hi : EI X B tg iter fi) (ok : BlkOk X.N X.env.scope scope own) (hts : ∀ t ∈ ts, t ∈ own.map (·.2)) (hts1 : ∀ t ∈ ts1, t ∈ vs1) (hv1 : ∀ i ∈ vs1, i ∈ own.map (·.2))
    (hg : ∀ (s : Shared) (H : Hp) (C : Addr) (cl : List (Str × Addr)) (fp : List Addr), EG (X.blk s H scope (compEnvC scope cl C X.env) fp) B tg g ts)
    (ht : ∀ (s : Shared) (H : Hp) (C : Addr) (cl : List (Str × Addr)) (fp : List Addr), ETs (X.blk s H scope (compEnvC scope cl C X.env) fp) B ifs ft)
    (hi1 : ∀ (s : Shared) (H : Hp) (C : Addr) (cl : List (Str × Addr)) (fp : List Addr), EI (X.blk s H scope (compEnvC scope cl C X.env) fp) B tg1 iter1 fi1)
    (hg1 : ∀ (s : Shared) (H : Hp) (C : Addr) (cl : List (Str × Addr)) (fp : List Addr), EG (X.blk s H scope (compEnvC scope cl C X.env) fp) B tg1 g1 ts1)
    (ht1 : ∀ (s : Shared) (H : Hp) (C : Addr) (cl : List (Str × Addr)) (fp : List Addr), ETs (X.blk s H scope (compEnvC scope cl C X.env) fp) B ifs1 ft1)
    (he : ∀ (s : Shared) (H : Hp) (C : Addr) (cl : List (Str × Addr)) (fp : List Addr), EV (X.blk s H scope (compEnvC scope cl C X.env) fp) B elt fe)
    (hs : ∀ x, foldedSetIterable iter X.env x = pure x) (hs1 : ∀ env x, foldedSetIterable iter1 env x = pure x) : ES X B (.Assign [.Name y py] (.ListComp elt [⟨tg, iter, ifs, 0⟩, ⟨tg1, iter1, ifs1, 0⟩] scope pos) spos) (sSet n i (fLc2 (own.map (·.2)) vs1 fi g ft fi1 g1 ft1 fe)) := fun ρ r q => by
  unfold sSet at q
  obtain ⟨⟨h, ρ'⟩, e0, q⟩ := Option.bind_eq_some_iff.mp q
  obtain ⟨ρ4, e4, q⟩ := Option.map_eq_some_iff.mp q
  cases q
  obtain ⟨items, ρ1, ρ2, e1, e2, e3, rfl⟩ := lc2_start e0
  refine ps_impL (ps_setLc2 hc hN hy hyl hsw (hi _ _ _ e1) ok hv1 (fun s H C cl fp => ⟨fun pins s σ H v u Q I r ⟨d, ρ, ρ', e, z⟩ => ((hg _ _ _ _ _).pg d ρ ρ' e).run pins s σ H v u Q I r z⟩)
    (fun s H C cl fp => ⟨fun pins s σ H Q I ⟨ρ, b, ρ', e, z⟩ => (ht _ _ _ _ _ ρ b ρ' e).run pins s σ H Q I z⟩)
    (fun s H C cl fp => ⟨fun pins s σ H R I ⟨ρ, its, ρ', e, z⟩ => (hi1 _ _ _ _ _ ρ its ρ' e).run pins s σ H R I z⟩)
    (fun s H C cl fp => ⟨fun pins s σ H v u Q I r ⟨d, ρ, ρ', e, z⟩ => ((hg1 _ _ _ _ _).pg d ρ ρ' e).run pins s σ H v u Q I r z⟩)
    (fun s H C cl fp => ⟨fun pins s σ H Q I ⟨ρ, b, ρ', e, z⟩ => (ht1 _ _ _ _ _ ρ b ρ' e).run pins s σ H Q I z⟩)
    (fun s H C cl fp => ⟨fun pins s σ H Q I ⟨ρ, d, ρ', e, z⟩ => ((he _ _ _ _ _).fz e).run pins s σ H Q I z⟩) hs hs1) fun D σ H ln ⟨om, R, t, k⟩ => lc2_read hts hts1 hv1 ok ln e2 e3 ⟨om, R, fun v H' om' s R' r => ?_⟩
  obtain ⟨om2, t2, x2, R2⟩ := R'.store (n := n) (ln.trans hn) (by rw [← hn]; exact (List.getElem?_eq_some_iff.mp hy).1) r e4
  obtain ⟨R3, x3⟩ := R2.cut (n := n) (by rw [List.length_set]; exact ln.trans hn)
  exact k _ H' _ (s.less t rfl fun a z => x2 a (x3 a z)) R3 rfl
end
section
variable {τ υ : Type} {vs vs1 : List Nat} {fi fi1 : FI} {fg fg1 : FG} {ft ft1 : FT} {fe : FE} {ρ ρ1 ρ2 : Er} {ds : List D} {enc : τ → D} {enc1 : υ → D} {us : τ → List υ} {y : τ → υ → D} {m N : Nat}
theorem compI_T {S5 : List D → Er} (t : τ) : ∀ (l : List υ) (acc : List D), acc.length + l.length ≤ 1000000 →
    (∀ u ∈ l, ∀ acc, ∃ ρ6 ρ7 ρ8, fg1 (enc1 u) (S5 acc) = some ρ6 ∧ fz fe ρ6 = some (y t u, ρ7) ∧ getO m ρ7 = some (.list acc) ∧ setO m (.list (acc ++ [y t u])) ρ7 = some ρ8 ∧ wipeR vs1 (ρ8.take N) = some (S5 (acc ++ [y t u]))) →
    compI vs1 fg1 tYesF fe m N (l.map enc1) (S5 acc) = some (S5 (acc ++ l.map (y t)))
  | [], acc, _, _ => by simp [compI]
  | u :: r, acc, hl, h => by
    obtain ⟨ρ6, ρ7, ρ8, e1, e2, e3, e4, e5⟩ := h u List.mem_cons_self acc
    rw [List.length_cons] at hl
    have hf : few acc.length = true := by simp [few]; omega
    have ih := compI_T t r (acc ++ [y t u]) (by simp; omega) fun v hv => h v (List.mem_cons_of_mem _ hv)
    simp only [List.map_cons, compI, e1, tYesF, e2, e3, e4, e5, Option.bind_some, if_true, hf]
    rw [ih, List.append_assoc]
    rfl
theorem comp2_T {S : List D → Er} (S5 : τ → List D → Er) : ∀ (l : List τ) (acc : List D), acc.length + (l.map fun t => (us t).length).sum ≤ 1000000 →
    (∀ t ∈ l, ∀ acc, (S5 t acc).length = N ∧ (∃ ρ3 ρ4, fg (enc t) (S acc) = some ρ3 ∧ fi1 ρ3 = some ((us t).map enc1, ρ4) ∧ wipeR vs1 ρ4 = some (S5 t acc)) ∧ wipeR vs ((S5 t acc).take (m + 1)) = some (S acc) ∧
      ∀ u ∈ us t, ∃ ρ6 ρ7 ρ8, fg1 (enc1 u) (S5 t acc) = some ρ6 ∧ fz fe ρ6 = some (y t u, ρ7) ∧ getO m ρ7 = some (.list acc) ∧ setO m (.list (acc ++ [y t u])) ρ7 = some ρ8 ∧ wipeR vs1 (ρ8.take N) = some (S5 t (acc ++ [y t u]))) →
    compL2 vs vs1 fg tYesF fi1 fg1 tYesF fe m (l.map enc) (S acc) = some (S (acc ++ l.flatMap fun t => (us t).map (y t)))
  | [], acc, _, _ => by simp [compL2]
  | t :: r, acc, hl, h => by
    obtain ⟨hN, ⟨ρ3, ρ4, e1, e2, e3⟩, _, _⟩ := h t List.mem_cons_self acc
    rw [List.map_cons, List.sum_cons] at hl
    have hi := compI_T (vs1 := vs1) (fg1 := fg1) (fe := fe) (enc1 := enc1) (y := y) (m := m) (N := N) (S5 := S5 t) t (us t) acc (by omega) fun u hu acc => (h t List.mem_cons_self acc).2.2.2 u hu
    have ih := comp2_T S5 r (acc ++ (us t).map (y t)) (by simp; omega) fun v hv => h v (List.mem_cons_of_mem _ hv)
    have e4 := (h t List.mem_cons_self (acc ++ (us t).map (y t))).2.2.1
    simp only [List.map_cons, compL2, e1, tYesF, e2, e3, Option.bind_some, if_true, hN] at ih ⊢
    rw [hi]
    simp only [Option.bind_some, e4]
    rw [ih, List.append_assoc]
    simp
theorem v_lc2T {ts : List τ} (S5 : τ → List D → Er) (h1 : fi ρ = some (ds, ρ1)) (hd : ds = ts.map enc) (h2 : wipeR vs ρ1 = some ρ2) (hl : (ts.map fun t => (us t).length).sum ≤ 1000000)
    (h : ∀ t ∈ ts, ∀ acc, (S5 t acc).length = N ∧ (∃ ρ3 ρ4, fg (enc t) (ρ2 ++ [.own (.list acc)]) = some ρ3 ∧ fi1 ρ3 = some ((us t).map enc1, ρ4) ∧ wipeR vs1 ρ4 = some (S5 t acc)) ∧ wipeR vs ((S5 t acc).take (ρ2.length + 1)) = some (ρ2 ++ [.own (.list acc)]) ∧
      ∀ u ∈ us t, ∃ ρ6 ρ7 ρ8, fg1 (enc1 u) (S5 t acc) = some ρ6 ∧ fz fe ρ6 = some (y t u, ρ7) ∧ getO ρ2.length ρ7 = some (.list acc) ∧ setO ρ2.length (.list (acc ++ [y t u])) ρ7 = some ρ8 ∧ wipeR vs1 (ρ8.take N) = some (S5 t (acc ++ [y t u]))) :
    fLc2 vs vs1 fi fg tYesF fi1 fg1 tYesF fe ρ = some (.l ρ2.length, ρ2 ++ [.own (.list (ts.flatMap fun t => (us t).map (y t)))]) := by
  subst hd
  have := comp2_T (S := fun acc => ρ2 ++ [.own (.list acc)]) S5 ts [] (by simpa using hl) h
  simp only [fLc2, h1, h2, this, Option.bind_some, Option.map_some, List.nil_append]
end
end Ev

set_option maxRecDepth 100000
set_option maxHeartbeats 4000000
namespace Ev
open PySem PySem.Spec PyProof.Rows L2
def semMinA : List D → Option D
  | [.list ds] => semMinL [.list ds]
  | [.tuple ds] => (intsOf ds).bind fun ns => (minI ns).map .int
  | _ => none
def semMaxA : List D → Option D
  | [.list ds] => semMaxL [.list ds]
  | [.tuple ds] => (intsOf ds).bind fun ns => (maxI ns).map .int
  | _ => none
theorem depth_ints : ∀ ns : List Int, PyData.depthAll (ns.map .int) ≤ 1
  | [] => by simp [PyData.depthAll]
  | n :: r => by
    have := depth_ints r
    simp [PyData.depthAll, PyData.depth]
    omega
theorem alikeAll_ints (ns : List Int) : PySem.W.AlikeAll (ns.map .int) := by
  refine ⟨fun x hx y hy => ?_, fun x hx => ?_⟩
  · obtain ⟨a, _, rfl⟩ := List.mem_map.mp hx
    obtain ⟨b, _, rfl⟩ := List.mem_map.mp hy
    have := PySem.W.alike_ints [a] [b]
    simpa [PySem.W.alikeAll] using this
  · obtain ⟨a, _, rfl⟩ := List.mem_map.mp hx
    exact fun z => nomatch z
theorem foldl_min (r : List Int) (n : Int) : r.foldl min n = r.foldl (fun a b => if b < a then b else a) n := by
  have : (fun a b : Int => if b < a then b else a) = min := by
    funext a b
    show _ = if a ≤ b then a else b
    split <;> split <;> omega
  rw [this]
theorem foldl_max (r : List Int) (n : Int) : r.foldl max n = r.foldl (fun a b => if a < b then b else a) n := by
  have : (fun a b : Int => if a < b then b else a) = max := by
    funext a b
    show _ = if a ≤ b then b else a
    split <;> split <;> omega
  rw [this]
section
variable {X : Cx}
theorem cr_minA (hc : X.calm = true) (hu : X.A.units + 64 < cLine) : CallR X (.builtin "min") (rN X.K semMinA) := by
  intro pins s σ H xs us Q I r h
  obtain ⟨Ex, ds, d, fr, rb, e, q⟩ := h
  unfold semMinA at e
  split at e
  · exact cr_minL hc pins s σ H xs us Q I r ⟨Ex, _, d, fr, rb, e, q⟩
  · obtain ⟨ns, e1, e⟩ := Option.bind_eq_some_iff.mp e
    obtain ⟨m, e2, e⟩ := Option.map_eq_some_iff.mp e
    subst e
    obtain ⟨v, rfl, b⟩ := rb.one
    obtain ⟨a, ys, rfl, sq, ne, rr⟩ := b.tup
    rw [intsOf_eq e1] at rr
    have ex := reps_ints rr
    subst ex
    obtain ⟨its, rv, p, hz⟩ := I.tuple (.of sq)
    rw [Vals.ref1 r]
    cases ns with
    | nil => cases e2
    | cons n r' =>
      cases e2
      have hd := depth_ints (n :: r')
      refine PySem.W.min_tuple_data (x := .int n) (xs := r'.map .int) (I.ok.hd hc) (show s.heap.IsTuple a its.toArray from p) (rv.ints.reads s.heap) (alikeAll_ints (n :: r')) (by rw [List.map_cons] at hd; omega) fun i v h' tk bs hv hr hk => ?_
      rw [PySem.W.minD_ints, foldl_min] at hr
      cases hr
      exact ⟨.int _, H, I.kept hk, ⟨_, rfl⟩, q _ _ (fun _ _ z => z) (.int _)⟩
  · cases e
theorem cr_maxA (hc : X.calm = true) (hu : X.A.units + 64 < cLine) : CallR X (.builtin "max") (rN X.K semMaxA) := by
  intro pins s σ H xs us Q I r h
  obtain ⟨Ex, ds, d, fr, rb, e, q⟩ := h
  unfold semMaxA at e
  split at e
  · exact cr_maxL hc pins s σ H xs us Q I r ⟨Ex, _, d, fr, rb, e, q⟩
  · obtain ⟨ns, e1, e⟩ := Option.bind_eq_some_iff.mp e
    obtain ⟨m, e2, e⟩ := Option.map_eq_some_iff.mp e
    subst e
    obtain ⟨v, rfl, b⟩ := rb.one
    obtain ⟨a, ys, rfl, sq, ne, rr⟩ := b.tup
    rw [intsOf_eq e1] at rr
    have ex := reps_ints rr
    subst ex
    obtain ⟨its, rv, p, hz⟩ := I.tuple (.of sq)
    rw [Vals.ref1 r]
    cases ns with
    | nil => cases e2
    | cons n r' =>
      cases e2
      have hd := depth_ints (n :: r')
      refine PySem.W.max_tuple_data (x := .int n) (xs := r'.map .int) (I.ok.hd hc) (show s.heap.IsTuple a its.toArray from p) (rv.ints.reads s.heap) (alikeAll_ints (n :: r')) (by rw [List.map_cons] at hd; omega) fun i v h' tk bs hv hr hk => ?_
      rw [PySem.W.maxD_ints, foldl_max] at hr
      cases hr
      exact ⟨.int _, H, I.kept hk, ⟨_, rfl⟩, q _ _ (fun _ _ z => z) (.int _)⟩
  · cases e
end
end Ev

set_option maxRecDepth 100000
set_option maxHeartbeats 4000000
namespace Ev
open PySem PySem.Spec PyProof.Rows L2
def iEnumL (fe : FE) : FI := fun ρ => (fz fe ρ).bind fun p => match p.1 with
  | .list ds => some (enumD ds, p.2)
  | _ => none
section
variable {X : Cx} {B : Bx} {e : Expr} {fe : FE} {pos p tpos : Pos} {elts : List Expr} {kk : Nat}
theorem ei_enumL (hg : Gl X "enumerate") (hm : X.mg "enumerate" = none) (he : EV X B e fe) (hs : starEach [e] X.env = [(false, eval e X.env)]) (hs2 : starEach [e] X.env = (false, eval e X.env) :: starEach [] X.env) : EI X B (.Tuple elts kk tpos) (.Call (.Name "enumerate" p) [e] [] pos) (iEnumL fe) := fun ρ items ρ' q => by
  unfold iEnumL at q
  obtain ⟨⟨d, ρ1⟩, e1, q⟩ := Option.bind_eq_some_iff.mp q
  cases d with
  | list ds =>
    cases q
    refine pi_imp (pi_enum hg hm (pa_cons (he.fz e1) pa_nil hs2) hs) fun σ H R ⟨om, R0, k⟩ => ?_
    refine ⟨om, R0, fun v H1 om1 s1 R1 r1 => ?_⟩
    have rp0 := r1
    cases r1 with
    | @lst a xs _ h1 h2 =>
      refine ⟨a, xs, rfl, rep_lstSq h1, k _ H1 om1 s1 R1 ⟨fun i d om2 H2 f2 s2 ei => ?_, fun om2 H2 s2 => ?_⟩⟩
      · unfold enumD at ei
        rw [List.getElem?_mapIdx] at ei
        obtain ⟨d0, e2, e3⟩ := Option.map_eq_some_iff.mp ei
        subst e3
        cases Rep.ste s2 rp0 with
        | lst g1 g3 =>
          obtain ⟨v, ev, rv'⟩ := g3.get e2
          refine ⟨⟨_, v, rep_lstSq g1, ev⟩, fun x H3 ⟨T, x0, hx, hT, hH, hall⟩ => ?_⟩
          subst hx hH
          have := hall _ (rep_lstSq g1)
          rw [ev] at this; cases this
          exact ⟨same_upd hT, .tup upd_same (Fresh.no f2 hT) (.cons (.int _) (.cons (Rep.same (same_upd hT) rv') .nil))⟩
      · cases Rep.ste s2 rp0 with
        | lst g1 g3 => exact ⟨_, rep_lstSq g1, by unfold enumD; rw [List.length_mapIdx, ← g3.length]; exact Nat.le_refl _⟩
  | _ => cases q
end
theorem i_enumL {fa : FE} {ρ ρ1 ρ2 : Er} {p : Hd} {ds : List D} (h1 : fa ρ = some (p, ρ1)) (h2 : frz p ρ1 = some (.list ds, ρ2)) : iEnumL fa ρ = some (enumD ds, ρ2) := by
  have e : fz fa ρ = some (.list ds, ρ2) := by simp only [fz, h1, h2, Option.bind_some]
  simp only [iEnumL, e, Option.bind_some]
end Ev

set_option maxRecDepth 100000
set_option maxHeartbeats 4000000
namespace Ev
open PySem PySem.Spec PyProof.Rows L2
section
variable {τ : Type} {fa fb fc fe : FE} {fs : FA} {ga gb : FT} {fg : FG} {f g : FS} {ρ ρ1 ρ2 ρ3 ρ4 ρ5 ρ6 : Er} {p q h : Hd} {d d1 d2 d3 : D} {ds : List D} {c c1 a b : Bool} {n m i : Nat} {vs : List Nat} {fi : FI} {ft' : FT} {enc : τ → D} {ts : List τ}
/-! elements by a function found on the way -/
def CAll (vs : List Nat) (fg : FG) (fe : FE) (ρ2 : Er) (enc : τ → D) (y : τ → D) (ts : List τ) : Prop := ∀ t, t ∈ ts → ∀ acc : List D, ∃ ρ3 ρ4 ρ5, fg (enc t) (ρ2 ++ [.own (.list acc)]) = some ρ3 ∧ fz fe ρ3 = some (y t, ρ4) ∧ getO ρ2.length ρ4 = some (.list acc) ∧ setO ρ2.length (.list (acc ++ [y t])) ρ4 = some ρ5 ∧ wipeR vs (ρ5.take (ρ2.length + 1)) = some (ρ2 ++ [.own (.list (acc ++ [y t]))])
theorem c_all {y : τ → D} (h : ∀ t, t ∈ ts → ∀ acc : List D, ∃ ρ3 ρ4 ρ5, fg (enc t) (ρ2 ++ [.own (.list acc)]) = some ρ3 ∧ fz fe ρ3 = some (y t, ρ4) ∧ getO ρ2.length ρ4 = some (.list acc) ∧ setO ρ2.length (.list (acc ++ [y t])) ρ4 = some ρ5 ∧ wipeR vs (ρ5.take (ρ2.length + 1)) = some (ρ2 ++ [.own (.list (acc ++ [y t]))])) : CAll vs fg fe ρ2 enc y ts := h
theorem c_step {acc : List D} {x : D} {y : D} {m : Nat} {ρ0 : Er} (h1 : fg x ρ0 = some ρ3) (h2 : fe ρ3 = some (p, ρ4)) (h3 : frz p ρ4 = some (d, ρ5)) (hy : d = y) (h4 : getO m ρ5 = some (.list acc)) (h5 : setO m (.list (acc ++ [y])) ρ5 = some ρ6) {ρ9 : Er} (h6 : wipeR vs (ρ6.take (m + 1)) = some ρ9) : ∃ ρ3 ρ4 ρ5, fg x ρ0 = some ρ3 ∧ fz fe ρ3 = some (y, ρ4) ∧ getO m ρ4 = some (.list acc) ∧ setO m (.list (acc ++ [y])) ρ4 = some ρ5 ∧ wipeR vs (ρ5.take (m + 1)) = some ρ9 :=
  ⟨_, _, _, h1, by rw [← hy]; exact v_fzz h2 h3, h4, h5, h6⟩
theorem comp_mapT {y : τ → D} : ∀ (ts : List τ) (acc : List D), acc.length + ts.length ≤ 1000000 → CAll vs fg fe ρ2 enc y ts → compL vs fg tYesF fe ρ2.length (ts.map enc) (ρ2 ++ [.own (.list acc)]) = some (ρ2 ++ [.own (.list (acc ++ ts.map y))])
  | [], acc, _, _ => by simp [compL]
  | t :: r, acc, hl, h => by
    obtain ⟨ρ3, ρ4, ρ5, e1, e2, e3, e4, e5⟩ := h t List.mem_cons_self acc
    rw [List.length_cons] at hl
    have ih := comp_mapT r (acc ++ [y t]) (by simp; omega) fun z hz => h z (List.mem_cons_of_mem _ hz)
    have hf : few acc.length = true := by simp [few]; omega
    simp only [List.map_cons, compL, e1, tYesF, e2, Option.bind_some, if_true, e3, hf, e4, e5]
    rw [ih, List.append_assoc]
    rfl
theorem v_lcT {y : τ → D} (h1 : fi ρ = some (ds, ρ1)) (hd : ds = ts.map enc) (h2 : wipeR vs ρ1 = some ρ2) (hc : CAll vs fg fe ρ2 enc y ts) (hl : ts.length ≤ 1000000) : fLc vs fi fg tYesF fe ρ = some (.l ρ2.length, ρ2 ++ [.own (.list (ts.map y))]) := by
  subst hd
  have := comp_mapT (vs := vs) (fg := fg) (fe := fe) (ρ2 := ρ2) (enc := enc) (y := y) ts [] (by simpa using hl) hc
  simp only [fLc, h1, h2, Option.bind_some, this, Option.map_some, List.nil_append]
/-! the same with a test -/
def FAll (vs : List Nat) (fg : FG) (ft' : FT) (fe : FE) (ρ2 : Er) (enc : τ → D) (P : τ → Bool) (y : τ → D) (ts : List τ) : Prop := ∀ t, t ∈ ts → ∀ acc : List D, ∃ ρ3 ρ4, fg (enc t) (ρ2 ++ [.own (.list acc)]) = some ρ3 ∧ ft' ρ3 = some (P t, ρ4) ∧ wipeR vs (ρ4.take (ρ2.length + 1)) = some (ρ2 ++ [.own (.list acc)]) ∧ ∃ ρ5 ρ6, fz fe ρ4 = some (y t, ρ5) ∧ getO ρ2.length ρ5 = some (.list acc) ∧ setO ρ2.length (.list (acc ++ [y t])) ρ5 = some ρ6 ∧ wipeR vs (ρ6.take (ρ2.length + 1)) = some (ρ2 ++ [.own (.list (acc ++ [y t]))])
theorem f_all {P : τ → Bool} {y : τ → D} (h : ∀ t, t ∈ ts → ∀ acc : List D, ∃ ρ3 ρ4, fg (enc t) (ρ2 ++ [.own (.list acc)]) = some ρ3 ∧ ft' ρ3 = some (P t, ρ4) ∧ wipeR vs (ρ4.take (ρ2.length + 1)) = some (ρ2 ++ [.own (.list acc)]) ∧ ∃ ρ5 ρ6, fz fe ρ4 = some (y t, ρ5) ∧ getO ρ2.length ρ5 = some (.list acc) ∧ setO ρ2.length (.list (acc ++ [y t])) ρ5 = some ρ6 ∧ wipeR vs (ρ6.take (ρ2.length + 1)) = some (ρ2 ++ [.own (.list (acc ++ [y t]))])) : FAll vs fg ft' fe ρ2 enc P y ts := h
theorem f_step {acc : List D} {x y : D} {m : Nat} {ρ0 ρ9 ρ8 : Er} {P : Bool} (h1 : fg x ρ0 = some ρ3) (h7 : ft' ρ3 = some (c, ρ1)) (hc : c = P) (h8 : wipeR vs (ρ1.take (m + 1)) = some ρ8) (h2 : fe ρ1 = some (p, ρ4)) (h3 : frz p ρ4 = some (d, ρ5)) (hy : d = y) (h4 : getO m ρ5 = some (.list acc)) (h5 : setO m (.list (acc ++ [y])) ρ5 = some ρ6) (h6 : wipeR vs (ρ6.take (m + 1)) = some ρ9) : ∃ ρ3 ρ4, fg x ρ0 = some ρ3 ∧ ft' ρ3 = some (P, ρ4) ∧ wipeR vs (ρ4.take (m + 1)) = some ρ8 ∧ ∃ ρ5 ρ6, fz fe ρ4 = some (y, ρ5) ∧ getO m ρ5 = some (.list acc) ∧ setO m (.list (acc ++ [y])) ρ5 = some ρ6 ∧ wipeR vs (ρ6.take (m + 1)) = some ρ9 :=
  ⟨_, _, h1, hc ▸ h7, h8, _, _, by rw [← hy]; exact v_fzz h2 h3, h4, h5, h6⟩
theorem comp_filT {P : τ → Bool} {y : τ → D} : ∀ (ts : List τ) (acc : List D), acc.length + ts.length ≤ 1000000 → FAll vs fg ft' fe ρ2 enc P y ts → compL vs fg ft' fe ρ2.length (ts.map enc) (ρ2 ++ [.own (.list acc)]) = some (ρ2 ++ [.own (.list (acc ++ (ts.filter P).map y))])
  | [], acc, _, _ => by simp [compL]
  | t :: r, acc, hl, h => by
    obtain ⟨ρ3, ρ4, e1, e2, e3, ρ5, ρ6, e4, e5, e6, e7⟩ := h t List.mem_cons_self acc
    rw [List.length_cons] at hl
    cases hp : P t with
    | false =>
      rw [hp] at e2
      have ih := comp_filT r acc (by omega) fun z hz => h z (List.mem_cons_of_mem _ hz)
      rw [List.filter_cons_of_neg (by simp [hp])]
      simp only [List.map_cons, compL, e1, e2, Option.bind_some, e3]
      exact ih
    | true =>
      rw [hp] at e2
      have ih := comp_filT r (acc ++ [y t]) (by simp; omega) fun z hz => h z (List.mem_cons_of_mem _ hz)
      have hf : few acc.length = true := by simp [few]; omega
      rw [List.filter_cons_of_pos hp]
      simp only [List.map_cons, compL, e1, e2, e4, Option.bind_some, if_true, e5, hf, e6, e7]
      rw [ih, List.append_assoc]
      rfl
theorem v_lcF {P : τ → Bool} {y : τ → D} (h1 : fi ρ = some (ds, ρ1)) (hd : ds = ts.map enc) (h2 : wipeR vs ρ1 = some ρ2) (hc : FAll vs fg ft' fe ρ2 enc P y ts) (hl : ts.length ≤ 1000000) : fLc vs fi fg ft' fe ρ = some (.l ρ2.length, ρ2 ++ [.own (.list ((ts.filter P).map y))]) := by
  subst hd
  have := comp_filT (vs := vs) (fg := fg) (ft' := ft') (fe := fe) (ρ2 := ρ2) (enc := enc) (P := P) (y := y) ts [] (by simpa using hl) hc
  simp only [fLc, h1, h2, Option.bind_some, this, Option.map_some, List.nil_append]
/-! sums -/
def SAll (vs : List Nat) (fg : FG) (fe : FE) (ρ2 : Er) (enc : τ → D) (y : τ → Int) (ts : List τ) : Prop := ∀ t, t ∈ ts → ∃ ρ3 ρ4, fg (enc t) ρ2 = some ρ3 ∧ fz fe ρ3 = some (.int (y t), ρ4) ∧ wipeR vs (ρ4.take ρ2.length) = some ρ2
theorem s_all {y : τ → Int} (h : ∀ t, t ∈ ts → ∃ ρ3 ρ4, fg (enc t) ρ2 = some ρ3 ∧ fz fe ρ3 = some (.int (y t), ρ4) ∧ wipeR vs (ρ4.take ρ2.length) = some ρ2) : SAll vs fg fe ρ2 enc y ts := h
theorem s_step {x : D} {ρ0 ρ9 : Er} {y z : Int} (h1 : fg x ρ0 = some ρ3) (h2 : fe ρ3 = some (p, ρ4)) (h3 : frz p ρ4 = some (.int z, ρ5)) (hy : z = y) (h6 : wipeR vs (ρ5.take m) = some ρ9) : ∃ ρ3 ρ4, fg x ρ0 = some ρ3 ∧ fz fe ρ3 = some (.int y, ρ4) ∧ wipeR vs (ρ4.take m) = some ρ9 :=
  ⟨_, _, h1, by rw [← hy]; exact v_fzz h2 h3, h6⟩
theorem in_longB {a : Int} (h : -4611686018427387904 ≤ a) (h2 : a ≤ 4611686018427387904) : inLong a = true := by
  simp [inLong]
  omega
theorem sum_T {y : τ → Int} : ∀ (ts : List τ) (a : Int), (∀ t, t ∈ ts → 0 ≤ y t ∧ y t ≤ 1000000) → 0 ≤ a → a + 1000000 * (ts.length : Int) ≤ 4611686018427387904 → SAll vs fg fe ρ2 enc y ts → sumG vs fg tYesF fe ρ2.length a (ts.map enc) ρ2 = some (a + (ts.map y).sum, ρ2)
  | [], a, _, _, _, _ => by simp [sumG]
  | t :: r, a, hb, h0, h1, h => by
    obtain ⟨ρ3, ρ4, e1, e2, e3⟩ := h t List.mem_cons_self
    obtain ⟨b0, b1⟩ := hb t List.mem_cons_self
    rw [List.length_cons] at h1
    have l1 : inLong (y t) = true := in_longB (by omega) (by omega)
    have l2 : inLong (a + y t) = true := in_longB (by omega) (by omega)
    have ih := sum_T r (a + y t) (fun z hz => hb z (List.mem_cons_of_mem _ hz)) (by omega) (by omega) fun z hz => h z (List.mem_cons_of_mem _ hz)
    simp only [List.map_cons, sumG, e1, tYesF, e2, e3, Option.bind_some, if_true, l1, l2, Bool.and_self]
    rw [ih, List.sum_cons, Int.add_assoc]
theorem v_sumT {y : τ → Int} (h1 : fi ρ = some (ds, ρ1)) (hd : ds = ts.map enc) (h2 : wipeR vs ρ1 = some ρ2) (hs : SAll vs fg fe ρ2 enc y ts) (hb : ∀ t, t ∈ ts → 0 ≤ y t ∧ y t ≤ 1000000) (hl : ts.length ≤ 1000000) : fSum vs fi fg tYesF fe ρ = some (.v (.int (ts.map y).sum), ρ2) := by
  subst hd
  have := sum_T (vs := vs) (fg := fg) (fe := fe) (ρ2 := ρ2) (enc := enc) (y := y) ts 0 hb (by omega) (by omega) hs
  simp only [fSum, h1, h2, this, Option.bind_some, Option.map_some, Int.zero_add]
/-! all -/
def AAll (vs : List Nat) (fg : FG) (fe : FE) (ρ2 : Er) (enc : τ → D) (y : τ → Bool) (ts : List τ) : Prop := ∀ t, t ∈ ts → ∃ ρ3 ρ4, fg (enc t) ρ2 = some ρ3 ∧ fz fe ρ3 = some (.bool (y t), ρ4) ∧ wipeR vs (ρ4.take ρ2.length) = some ρ2
theorem a_all {y : τ → Bool} (h : ∀ t, t ∈ ts → ∃ ρ3 ρ4, fg (enc t) ρ2 = some ρ3 ∧ fz fe ρ3 = some (.bool (y t), ρ4) ∧ wipeR vs (ρ4.take ρ2.length) = some ρ2) : AAll vs fg fe ρ2 enc y ts := h
theorem a_step {x : D} {ρ0 ρ9 : Er} {y z : Bool} (h1 : fg x ρ0 = some ρ3) (h2 : fe ρ3 = some (p, ρ4)) (h3 : frz p ρ4 = some (.bool z, ρ5)) (hy : z = y) (h6 : wipeR vs (ρ5.take m) = some ρ9) : ∃ ρ3 ρ4, fg x ρ0 = some ρ3 ∧ fz fe ρ3 = some (.bool y, ρ4) ∧ wipeR vs (ρ4.take m) = some ρ9 :=
  ⟨_, _, h1, by rw [← hy]; exact v_fzz h2 h3, h6⟩
theorem all_T {y : τ → Bool} : ∀ (ts : List τ), AAll vs fg fe ρ2 enc y ts → allG false vs fg tYesF fe ρ2.length (ts.map enc) ρ2 = some (ts.all y, ρ2)
  | [], _ => rfl
  | t :: r, h => by
    obtain ⟨ρ3, ρ4, e1, e2, e3⟩ := h t List.mem_cons_self
    have ih := all_T r fun z hz => h z (List.mem_cons_of_mem _ hz)
    simp only [List.map_cons, allG, e1, tYesF, e2, e3, Option.bind_some, if_true, List.all_cons]
    cases hy : y t with
    | false => rfl
    | true => simpa using ih
theorem v_allT {y : τ → Bool} (h1 : fi ρ = some (ds, ρ1)) (hd : ds = ts.map enc) (h2 : wipeR vs ρ1 = some ρ2) (hs : AAll vs fg fe ρ2 enc y ts) : fAll false vs fi fg tYesF fe ρ = some (.v (.bool (ts.all y)), ρ2) := by
  subst hd
  have := all_T (vs := vs) (fg := fg) (fe := fe) (ρ2 := ρ2) (enc := enc) (y := y) ts hs
  simp only [fAll, h1, h2, this, Option.bind_some, Option.map_some]
/-! both ways at once -/
theorem t_orP (h1 : ga ρ = some (a, ρ1)) (h2 : gb ρ1 = some (b, ρ2)) (h3 : ρ2 = ρ1) : tOrB ga gb ρ = some (a || b, ρ1) := by
  subst h3
  cases a <;> simp [tOrB, h1, h2]
theorem t_andP (h1 : ga ρ = some (a, ρ1)) (h2 : gb ρ1 = some (b, ρ2)) (h3 : ρ2 = ρ1) : tAndB ga gb ρ = some (a && b, ρ1) := by
  subst h3
  cases a <;> simp [tAndB, h1, h2]
theorem v_ifP (h1 : ga ρ = some (c, ρ1)) (h2 : fa ρ1 = some (.v d1, ρ2)) (h3 : fb ρ1 = some (.v d2, ρ3)) (h4 : ρ3 = ρ2) : fIf ga fa fb ρ = some (.v (if c then d1 else d2), ρ2) := by
  subst h4
  cases c <;> simp [fIf, h1, h2, h3]
/-! a loop as a fold -/
theorem runL_fold {σ : Type} (S : σ → Er) (stp : σ → τ → σ) (I : σ → Prop) {m : Nat} {gg : FG} : ∀ (ts : List τ) (s : σ), I s → (∀ s t, t ∈ ts → I s → (∃ ρ1, gg (enc t) (S s) = some ρ1 ∧ f (ρ1.take m) = some (.nx (S (stp s t)))) ∧ I (stp s t)) → runL m gg f (ts.map enc) (S s) = some (.nx (S (ts.foldl stp s))) ∧ I (ts.foldl stp s)
  | [], s, h, _ => ⟨rfl, h⟩
  | t :: r, s, h, st => by
    obtain ⟨⟨ρ1, e1, e2⟩, h2⟩ := st s t List.mem_cons_self h
    obtain ⟨e, h3⟩ := runL_fold S stp I r (stp s t) h2 fun s x hx => st s x (List.mem_cons_of_mem _ hx)
    refine ⟨?_, h3⟩
    simp only [List.map_cons, runL, e1, e2, Option.bind_some, List.foldl_cons]
    exact e
/-- an invariant of a loop without a state that counts -/
theorem runL_all {m : Nat} {gg : FG} (I : Er → Prop) : ∀ (ts : List τ) (ρ : Er), I ρ → (∀ t, t ∈ ts → ∀ ρ, I ρ → ∃ ρ1 ρ2, gg (enc t) ρ = some ρ1 ∧ f (ρ1.take m) = some (.nx ρ2) ∧ I ρ2) → ∃ ρ', runL m gg f (ts.map enc) ρ = some (.nx ρ') ∧ I ρ'
  | [], ρ, h, _ => ⟨ρ, rfl, h⟩
  | t :: r, ρ, h, st => by
    obtain ⟨ρ1, ρ2, e1, e2, h2⟩ := st t List.mem_cons_self ρ h
    obtain ⟨ρ', e, h3⟩ := runL_all I r ρ2 h2 fun x hx => st x (List.mem_cons_of_mem _ hx)
    refine ⟨ρ', ?_, h3⟩
    simp only [List.map_cons, runL, e1, e2, Option.bind_some]
    exact e
/-! equal data -/
mutual
theorem eqv_same : ∀ d : D, PyData.canLay0 d = true → PyData.eqv d d = true
  | .none, _ => by simp [PyData.eqv]
  | .bool _, _ => by simp [PyData.eqv]
  | .int _, _ => by simp [PyData.eqv]
  | .str _, _ => by simp [PyData.eqv]
  | .list ds, h => by
    simp only [PyData.eqv]
    exact eqvAll_same ds (by simpa [PyData.canLay0] using h)
  | .tuple ds, h => by
    simp only [PyData.eqv]
    exact eqvAll_same ds (by simpa [PyData.canLay0] using h)
  | .dict _, h => by simp [PyData.canLay0] at h
theorem eqvAll_same : ∀ ds : List D, PyData.canLayAll0 ds = true → PyData.eqvAll ds ds = true
  | [], _ => by simp [PyData.eqvAll]
  | d :: r, h => by
    simp only [PyData.canLayAll0, Bool.and_eq_true] at h
    simp only [PyData.eqvAll, Bool.and_eq_true]
    exact ⟨eqv_same d h.1, eqvAll_same r h.2⟩
end
theorem m_eqS {d1 d2 : D} (hs : SeqAt.shaped d1 = true) (e : d2 = d1) : semC .Eq d1 d2 = some (.bool true) := by
  subst e
  have e : semC .Eq d2 d2 = semEq d2 d2 := by unfold semC semCmp; rfl
  rw [e]
  have : PyData.canLay0 d2 = true := by simp only [SeqAt.shaped, Bool.and_eq_true] at hs; exact hs.1
  simp only [semEq, hs, Bool.and_self, if_true, eqv_same d2 this]
theorem m_neS {d1 d2 : D} (hs : SeqAt.shaped d1 = true) (e : d2 = d1) : semC .NotEq d1 d2 = some (.bool false) := by
  subst e
  have e : semC .NotEq d2 d2 = semNe d2 d2 := by unfold semC semCmp; rfl
  rw [e]
  have : PyData.canLay0 d2 = true := by simp only [SeqAt.shaped, Bool.and_eq_true] at hs; exact hs.1
  simp only [semNe, hs, Bool.and_self, if_true, eqv_same d2 this, Bool.not_true]
end
end Ev
namespace Ev
open PySem PySem.Spec PyProof.Rows L2
section
variable {ρ ρ1 ρ2 ρ3 : Er} {d : D} {i : Nat}
def isUn (x : Option Sl) : Bool := match x with
  | some .un => true
  | _ => false
theorem set_un : ∀ {ρ : Er} {i : Nat}, isUn ρ[i]? = true → ρ.set i .un = ρ
  | [], _, h => by simp [isUn] at h
  | x :: r, 0, h => by cases x <;> simp_all [isUn]
  | x :: r, i + 1, h => by
    rw [List.set_cons_succ, set_un (by simpa using h)]
theorem wipe_un : ∀ {vs : List Nat} {ρ : Er}, (vs.all fun v => isUn ρ[v]?) = true → wipeR vs ρ = some ρ
  | [], _, _ => rfl
  | v :: vs, ρ, h => by
    simp only [List.all_cons, Bool.and_eq_true] at h
    simp only [wipeR, wipe_un h.2, Option.bind_some]
    have h1 := h.1
    cases e : ρ[v]? with
    | none => rw [e] at h1; exact nomatch h1
    | some x =>
      rw [e] at h1
      cases x with
      | un => simp only [set_un (show isUn ρ[v]? = true by rw [e]; rfl)]
      | _ => exact nomatch h1
def niB : Sl → Bool
  | .io _ => false
  | _ => true
theorem gN_n {x : Sl} (h : ρ[i]? = some x) (hx : niB x = true) (e : ρ.set i (.val d) = ρ3) : gN i d ρ = some ρ3 := by
  subst e
  refine stV_ni h fun d z => ?_
  subst z
  exact nomatch hx
end
end Ev
namespace Ev
open PySem PySem.Spec PyProof.Rows L2
section
variable {ga : FT} {f1 f2 g : FS} {ρ ρ1 ρ2 : Er} {c : Bool} {n : Nat} {r : Rs}
theorem start_n {ios : List Bool} {ds : List D} {r ρ : Er} (e : startR ios ds ++ r = ρ) : startR ios ds ++ r = ρ := e
theorem s_seqIfN (h1 : ga ρ = some (c, ρ1)) (h9 : ρ1.take n = ρ2) (h2 : (c = true ∧ sSeq f1 g ρ2 = some r) ∨ (c = false ∧ sSeq f2 g ρ2 = some r)) : sSeq (sIf n ga f1 f2) g ρ = some r := by
  subst h9
  exact s_seqIf h1 h2
theorem s_ifN (h1 : ga ρ = some (c, ρ1)) (h9 : ρ1.take n = ρ2) (h2 : (c = true ∧ f1 ρ2 = some r) ∨ (c = false ∧ f2 ρ2 = some r)) : sIf n ga f1 f2 ρ = some r := by
  subst h9
  exact s_if h1 h2
theorem s2_at {sem : D → D → Option D} {a b a1 b1 x : D} (h : sem a b = some x) (e1 : a1 = a) (e2 : b1 = b) : sem a1 b1 = some x := by
  subst e1 e2
  exact h
theorem loopP {τ : Type} {f : FS} {gg : FG} {m : Nat} {enc : τ → D} (St : List τ → Er → Prop) (ts : List τ) (ρ : Er) (h0 : St [] ρ) (step : ∀ (p : List τ) (t : τ) (q : List τ) (ρ : Er), p ++ t :: q = ts → St p ρ → ∃ ρ1 ρ2, gg (enc t) ρ = some ρ1 ∧ f (ρ1.take m) = some (.nx ρ2) ∧ St (p ++ [t]) ρ2) : ∃ ρ', runL m gg f (ts.map enc) ρ = some (.nx ρ') ∧ St ts ρ' := by
  have key : ∀ (q p : List τ) (ρ : Er), p ++ q = ts → St p ρ → ∃ ρ', runL m gg f (q.map enc) ρ = some (.nx ρ') ∧ St ts ρ' := by
    intro q
    induction q with
    | nil => exact fun p ρ e h => ⟨ρ, rfl, by rw [← e, List.append_nil]; exact h⟩
    | cons t r ih =>
      intro p ρ e h
      obtain ⟨ρ1, ρ2, e1, e2, h2⟩ := step p t r ρ e h
      obtain ⟨ρ', e3, h3⟩ := ih (p ++ [t]) ρ2 (by rw [List.append_assoc]; exact e) h2
      refine ⟨ρ', ?_, h3⟩
      simp only [List.map_cons, runL, e1, e2, Option.bind_some]
      exact e3
  exact key ts [] ρ rfl h0
end
end Ev

set_option maxRecDepth 100000
set_option maxHeartbeats 4000000
namespace Ev
open PySem PySem.Spec PyProof.Rows L2
/-! slots that nobody reads any more are forgotten: at a loop's start and behind each turn -/
def iKill (vs : List Nat) (fi : FI) : FI := fun ρ => (fi ρ).bind fun p => (wipeR vs p.2).map fun ρ2 => (p.1, ρ2)
def killR (vs : List Nat) : Rs → Option Rs
  | .nx ρ => (wipeR vs ρ).map .nx
  | .ct ρ => (wipeR vs ρ).map .ct
  | .bk ρ => (wipeR vs ρ).map .bk
  | r => some r
def fKill (vs : List Nat) (f : FS) : FS := fun ρ => (f ρ).bind (killR vs)
def fPre (vs : List Nat) (f : FS) : FS := fun ρ => (wipeR vs ρ).bind f
/-- lists that nobody changes any more are plain values -/
def fzR : List Nat → Er → Option Er
  | [], ρ => some ρ
  | v :: vs, ρ => (fzR vs ρ).map fun (ρ' : Er) => match ρ'[v]? with
    | some (Sl.own d) => ρ'.set v (Sl.val d)
    | _ => ρ'
def iFz (vs : List Nat) (fi : FI) : FI := fun ρ => (fi ρ).bind fun p => (fzR vs p.2).map fun ρ2 => (p.1, ρ2)
def fPreF (vs : List Nat) (f : FS) : FS := fun ρ => (fzR vs ρ).bind f
def below (n : Nat) (vs : List Nat) : Bool := vs.all fun v => decide (v < n)
theorem below_at {n : Nat} {vs : List Nat} (h : below n vs = true) (v : Nat) (hv : v ∈ vs) : v < n := of_decide_eq_true (List.all_eq_true.mp h v hv)
section
variable {X : Cx} {B : Bx} {st : Stmt} {sts : List Stmt} {f : FS} {fi : FI} {tg e : Expr} {n : Nat} {vs : List Nat} {ρ ρ' : Er} {om : Om} {σ : L2.St} {H : Hp}
theorem Rel.kill (R : Rel X.K B ρ om σ H) (hl : σ.length = n) (hv : below n vs = true) (e : wipeR vs ρ = some ρ') : ∃ om', om'.τ = om.τ ∧ (∀ a, Exs B om' a → Exs B om a) ∧ Rel X.K B ρ' om' σ H := by
  obtain ⟨om2, t2, x2, R2, u2, _⟩ := R.wipe (fun v h => by rw [hl]; exact below_at hv v h) e
  exact ⟨om2, t2, x2, R2.unwipe u2⟩
theorem ess_kill (hn : X.N.length = n) (hv : below n vs = true) (hb : ESs X B sts f) : ESs X B sts (fKill vs f) := fun ρ r q => by
  unfold fKill at q
  obtain ⟨r1, e1, q⟩ := Option.bind_eq_some_iff.mp q
  refine pss_imp (pss_len (hb _ _ e1)) fun D σ H ⟨om, R, t, k⟩ => ⟨om, R, t, ?_⟩
  cases r1 with
  | nx ρ1 =>
    obtain ⟨ρ2, e2, e3⟩ := Option.map_eq_some_iff.mp q
    subst e3
    intro σ' H' om' s' R' t' hl
    obtain ⟨om2, t2, x2, R2⟩ := R'.kill (hl.trans hn) hv e2
    exact k σ' H' om2 (s'.less t (t2.trans t') x2) R2 (t2.trans t')
  | bk ρ1 =>
    obtain ⟨ρ2, e2, e3⟩ := Option.map_eq_some_iff.mp q
    subst e3
    intro σ' H' om' s' R' t' hl
    obtain ⟨om2, t2, x2, R2⟩ := R'.kill (hl.trans hn) hv e2
    exact k σ' H' om2 (s'.less t (t2.trans t') x2) R2 (t2.trans t')
  | ct ρ1 =>
    obtain ⟨ρ2, e2, e3⟩ := Option.map_eq_some_iff.mp q
    subst e3
    intro σ' H' om' s' R' t' hl
    obtain ⟨om2, t2, x2, R2⟩ := R'.kill (hl.trans hn) hv e2
    exact k σ' H' om2 (s'.less t (t2.trans t') x2) R2 (t2.trans t')
  | ret d ρ1 =>
    cases q
    exact k
theorem Rel.fz : ∀ {vs : List Nat} {ρ' : Er}, Rel X.K B ρ om σ H → fzR vs ρ = some ρ' → ∃ om', om'.τ = om.τ ∧ (∀ a, Exs B om' a → Exs B om a) ∧ Rel X.K B ρ' om' σ H
  | [], _, R, e => by
    cases e
    exact ⟨om, rfl, fun _ z => z, R⟩
  | v :: vs, ρ', R, e => by
    obtain ⟨ρ1, e1, e2⟩ := Option.map_eq_some_iff.mp e
    obtain ⟨om1, t1, x1, R1⟩ := Rel.fz R e1
    split at e2
    · rename_i d e3
      subst e2
      obtain ⟨a, _, es, _⟩ := R1.own v d e3
      obtain ⟨R2, _⟩ := R1.freeze e3 es
      exact ⟨drp om1 v, t1, fun a z => x1 a (drp_sub.ex a z), R2⟩
    · subst e2
      exact ⟨om1, t1, x1, R1⟩
theorem es_preF (hb : ES X B st f) : ES X B st (fPreF vs f) := fun ρ r q => by
  unfold fPreF at q
  obtain ⟨ρ1, e1, q⟩ := Option.bind_eq_some_iff.mp q
  refine ps_imp (hb _ _ q) fun D σ H ⟨om, R, t, k⟩ => ?_
  obtain ⟨om2, t2, x2, R2⟩ := R.fz e1
  have s : Stp B om H om2 H := ⟨.refl, fun a z => .inl (x2 a z), [], by rw [t2, List.append_nil]⟩
  exact tSt.at (X := X) t k s R2 (t2.trans t)
theorem ei_fz (hi : EI X B tg e fi) : EI X B tg e (iFz vs fi) := fun ρ items ρ' q => by
  unfold iFz at q
  obtain ⟨⟨ds, ρ1⟩, e1, q⟩ := Option.bind_eq_some_iff.mp q
  obtain ⟨ρ2, e2, e3⟩ := Option.map_eq_some_iff.mp q
  cases e3
  refine ⟨fun pins s σ H Q I h => ?_⟩
  refine (hi _ _ _ e1).run pins s σ H Q I ?_
  obtain ⟨om, R, k⟩ := h
  refine ⟨om, R, fun J H' om' s' R' ok => ?_⟩
  obtain ⟨om2, t2, x2, R2⟩ := R'.fz e2
  refine k J H' om2 ⟨s'.keep, fun a z => s'.grow a (x2 a z), by rw [t2]; exact s'.ext⟩ R2 ⟨fun i d om H Fr S => ok.go i d om H Fr ((Ste.sub x2).trans S), fun om H S => ok.stop om H ((Ste.sub x2).trans S)⟩
theorem es_pre (hn : X.N.length = n) (hv : below n vs = true) (hb : ES X B st f) : ES X B st (fPre vs f) := fun ρ r q => by
  unfold fPre at q
  obtain ⟨ρ1, e1, q⟩ := Option.bind_eq_some_iff.mp q
  refine ps_impL (hb _ _ q) fun D σ H ln ⟨om, R, t, k⟩ => ?_
  obtain ⟨om2, t2, x2, R2⟩ := R.kill (ln.trans hn) hv e1
  have s : Stp B om H om2 H := ⟨.refl, fun a z => .inl (x2 a z), [], by rw [t2, List.append_nil]⟩
  exact tSt.at (X := X) t k s R2 (t2.trans t)
theorem ei_kill (hn : X.N.length = n) (hv : below n vs = true) (hi : EI X B tg e fi) : EI X B tg e (iKill vs fi) := fun ρ items ρ' q => by
  unfold iKill at q
  obtain ⟨⟨ds, ρ1⟩, e1, q⟩ := Option.bind_eq_some_iff.mp q
  obtain ⟨ρ2, e2, e3⟩ := Option.map_eq_some_iff.mp q
  cases e3
  refine ⟨fun pins s σ H Q I h => ?_⟩
  have ln := I.len.trans hn
  refine (hi _ _ _ e1).run pins s σ H Q I ?_
  obtain ⟨om, R, k⟩ := h
  refine ⟨om, R, fun J H' om' s' R' ok => ?_⟩
  obtain ⟨om2, t2, x2, R2⟩ := R'.kill ln hv e2
  refine k J H' om2 ⟨s'.keep, fun a z => s'.grow a (x2 a z), by rw [t2]; exact s'.ext⟩ R2 ⟨fun i d om H Fr S => ok.go i d om H Fr ((Ste.sub x2).trans S), fun om H S => ok.stop om H ((Ste.sub x2).trans S)⟩
end
section
variable {τ : Type} {fi : FI} {f : FS} {ρ ρ1 ρ2 ρ3 ρ9 : Er} {ds : List D} {vs : List Nat} {r r2 : Rs} {m : Nat} {gg : FG} {enc : τ → D} {d : D}
theorem i_kill (h1 : fi ρ = some (ds, ρ1)) (h2 : wipeR vs ρ1 = some ρ2) : iKill vs fi ρ = some (ds, ρ2) := by
  simp only [iKill, h1, h2, Option.bind_some, Option.map_some]
theorem v_chainP {fa fb fc : FE} {s1 s2 : D → D → Option D} {p q h : Hd} {d1 d2 d4 d5 : D} {c c2 : Bool} (h1 : fa ρ = some (p, ρ1)) (h2 : fb ρ1 = some (q, ρ2)) (h3 : res p ρ2 = some d1) (h4 : res q ρ2 = some d2) (h5 : s1 d1 d2 = some (.bool c)) (e1 : fc ρ2 = some (h, ρ3)) (e0 : ρ3 = ρ2) (e2 : res q ρ2 = some d4) (e3 : res h ρ2 = some d5) (e4 : s2 d4 d5 = some (.bool c2)) : fChain fa fb fc s1 s2 ρ = some (.v (.bool (c && c2)), ρ2) := by
  subst e0
  cases c with
  | true => exact v_chain h1 h2 h3 h4 h5 (.inl ⟨rfl, _, _, _, _, _, e1, e2, e3, e4, by rw [Bool.true_and]⟩)
  | false => exact v_chain h1 h2 h3 h4 h5 (.inr ⟨rfl, by rw [Bool.false_and]⟩)
theorem i_fz (h1 : fi ρ = some (ds, ρ1)) (h2 : fzR vs ρ1 = some ρ2) : iFz vs fi ρ = some (ds, ρ2) := by
  simp only [iFz, h1, h2, Option.bind_some, Option.map_some]
theorem k_preF (h2 : fzR vs ρ = some ρ2) (h1 : f ρ2 = some r) : fPreF vs f ρ = some r := by
  simp only [fPreF, h2, h1, Option.bind_some]
theorem k_any (h1 : f ρ = some r) (h2 : killR vs r = some r2) : fKill vs f ρ = some r2 := by
  simp only [fKill, h1, h2, Option.bind_some]
theorem k_nx (h2 : wipeR vs ρ = some ρ2) : killR vs (.nx ρ) = some (.nx ρ2) := by
  simp only [killR, h2, Option.map_some]
theorem k_ct (h2 : wipeR vs ρ = some ρ2) : killR vs (.ct ρ) = some (.ct ρ2) := by
  simp only [killR, h2, Option.map_some]
theorem k_bk (h2 : wipeR vs ρ = some ρ2) : killR vs (.bk ρ) = some (.bk ρ2) := by
  simp only [killR, h2, Option.map_some]
theorem k_ret : killR vs (.ret d ρ) = some (.ret d ρ) := rfl
theorem k_pre (h2 : wipeR vs ρ = some ρ2) (h1 : f ρ2 = some r) : fPre vs f ρ = some r := by
  simp only [fPre, h2, h1, Option.bind_some]
theorem for_step {x : D} (h1 : gg x ρ = some ρ1) (h9 : ρ1.take m = ρ9) (h2 : f ρ9 = some r) (h3 : r = .nx ρ3) : ∃ ρ1, gg x ρ = some ρ1 ∧ f (ρ1.take m) = some (.nx ρ3) := by
  subst h9 h3
  exact ⟨ρ1, h1, h2⟩
theorem for_stepR {x : D} {r3 : Rs} (h1 : gg x ρ = some ρ1) (h9 : ρ1.take m = ρ9) (h2 : f ρ9 = some r) (h3 : r = r3) : ∃ ρ1, gg x ρ = some ρ1 ∧ f (ρ1.take m) = some r3 := by
  subst h9 h3
  exact ⟨ρ1, h1, h2⟩
/-- a loop that returns -/
theorem s_seqFR {k : Nat} {g2 : FS} {d : D} (h1 : fi ρ = some (ds, ρ1)) (h2 : ρ1.take k = ρ9) (h3 : runL k gg f ds ρ9 = some (.ret d ρ3)) : sSeq (sFor k fi gg f) g2 ρ = some (.ret d ρ3) := by
  subst h2
  have e : sFor k fi gg f ρ = some (.ret d ρ3) := by simp only [sFor, h1, Option.bind_some]; exact h3
  exact s_seqR e
/-- a loop whose state is known from what it has walked over -/
theorem for_pre (S : List τ → Er) (ts : List τ) (step : ∀ (p : List τ) (t : τ) (q : List τ), p ++ t :: q = ts → ∃ ρ1, gg (enc t) (S p) = some ρ1 ∧ f (ρ1.take m) = some (.nx (S (p ++ [t])))) : runL m gg f (ts.map enc) (S []) = some (.nx (S ts)) := by
  obtain ⟨ρ', e, h⟩ := loopP (enc := enc) (f := f) (gg := gg) (m := m) (fun p ρ => ρ = S p) ts (S []) rfl (fun p t q ρ e h => by
    subst h
    obtain ⟨ρ1, e1, e2⟩ := step p t q e
    exact ⟨ρ1, _, e1, e2, rfl⟩)
  subst h
  exact e
/-- a loop whose state does not change -/
theorem for_same (ts : List τ) (step : ∀ t, t ∈ ts → ∃ ρ1, gg (enc t) ρ = some ρ1 ∧ f (ρ1.take m) = some (.nx ρ)) : runL m gg f (ts.map enc) ρ = some (.nx ρ) :=
  for_pre (fun _ => ρ) ts fun p t q e => step t (by rw [← e]; simp)
/-- a loop by a state that is folded -/
theorem for_fold {α : Type} (S : α → Er) (stp : α → τ → α) (a : α) (ts : List τ) (step : ∀ (p : List τ) (t : τ) (q : List τ), p ++ t :: q = ts → ∃ ρ1, gg (enc t) (S (p.foldl stp a)) = some ρ1 ∧ f (ρ1.take m) = some (.nx (S (stp (p.foldl stp a) t)))) : runL m gg f (ts.map enc) (S a) = some (.nx (S (ts.foldl stp a))) :=
  for_pre (fun p => S (p.foldl stp a)) ts fun p t q e => by
    obtain ⟨ρ1, e1, e2⟩ := step p t q e
    exact ⟨ρ1, e1, by rw [List.foldl_append]; exact e2⟩
/-- a loop over a range by its index -/
theorem for_rng {lo : Int} (S : Nat → Er) (n : Nat) (step : ∀ (j : Nat), j < n → ∃ ρ1, gg (.int (lo + (j : Int))) (S j) = some ρ1 ∧ f (ρ1.take m) = some (.nx (S (j + 1)))) : runL m gg f (rngD lo n) (S 0) = some (.nx (S n)) := by
  have h := for_pre (enc := fun (j : Nat) => PyData.int (lo + (j : Int))) (f := f) (gg := gg) (m := m) (fun p => S p.length) (List.range n) (fun p t q e => by
    have hl := congrArg List.length e
    rw [List.length_append, List.length_cons, List.length_range] at hl
    have ht : t = p.length := by
      have h1 : (p ++ t :: q)[p.length]? = some t := by
        rw [List.getElem?_append_right (Nat.le_refl _), Nat.sub_self]
        rfl
      rw [e, List.getElem?_range (by omega)] at h1
      exact (Option.some.inj h1).symm
    obtain ⟨ρ1, e1, e2⟩ := step p.length (by omega)
    refine ⟨ρ1, by rw [ht]; exact e1, ?_⟩
    rw [List.length_append]
    exact e2)
  rw [List.length_range] at h
  exact h
theorem comp_nil {vs : List Nat} {fg : FG} {ft' : FT} {fe : FE} {k : Nat} : compL vs fg ft' fe k [] ρ = some ρ := rfl
theorem comp_yes {vs : List Nat} {fg : FG} {ft' : FT} {fe : FE} {k : Nat} {p : Hd} {y : D} {acc r : List D} {c : Bool} {ρ4 ρ5 ρ6 ρ7 : Er} (h1 : fg d ρ = some ρ1) (h2 : ft' ρ1 = some (c, ρ2)) (hc : c = true) (h3 : fe ρ2 = some (p, ρ3)) (h4 : frz p ρ3 = some (y, ρ4)) (h5 : getO k ρ4 = some (.list acc)) (hl : few acc.length = true) (h6 : setO k (.list (acc ++ [y])) ρ4 = some ρ5) (h7 : wipeR vs (ρ5.take (k + 1)) = some ρ6) (h8 : compL vs fg ft' fe k r ρ6 = some ρ7) : compL vs fg ft' fe k (d :: r) ρ = some ρ7 := by
  subst hc
  simp only [compL, h1, h2, Option.bind_some, if_true, v_fzz h3 h4, h5, hl, h6, h7, h8]
theorem comp_no {vs : List Nat} {fg : FG} {ft' : FT} {fe : FE} {k : Nat} {r : List D} {c : Bool} {ρ4 ρ7 : Er} (h1 : fg d ρ = some ρ1) (h2 : ft' ρ1 = some (c, ρ2)) (hc : c = false) (h7 : wipeR vs (ρ2.take (k + 1)) = some ρ4) (h8 : compL vs fg ft' fe k r ρ4 = some ρ7) : compL vs fg ft' fe k (d :: r) ρ = some ρ7 := by
  subst hc
  simp only [compL, h1, h2, Option.bind_some, h7]
  exact h8
theorem v_lcC {vs : List Nat} {fg : FG} {ft' : FT} {fe : FE} (h1 : fi ρ = some (ds, ρ1)) (h2 : wipeR vs ρ1 = some ρ2) (h3 : compL vs fg ft' fe ρ2.length ds (ρ2 ++ [.own (.list [])]) = some ρ3) : fLc vs fi fg ft' fe ρ = some (.l ρ2.length, ρ3) := by
  simp only [fLc, h1, h2, h3, Option.bind_some, Option.map_some]
theorem rng_map {lo : Int} {n : Nat} : rngD lo n = (List.range n).map fun (j : Nat) => PyData.int (lo + (j : Int)) := rfl
theorem run_at2 {ds ds0 : List D} {ρ0 : Er} {x : Rs} (h : runL m gg f ds0 ρ0 = some x) (e : ds = ds0) (e2 : ρ = ρ0) : runL m gg f ds ρ = some x := by
  subst e e2
  exact h
theorem s_at {ρ0 : Er} (h : f ρ0 = some r) (e : ρ = ρ0) : f ρ = some r := e ▸ h
theorem s_seq_at {g2 : FS} {ρ0 : Er} {r9 : Rs} (h : f ρ0 = some (.nx ρ1)) (e : ρ = ρ0) (h2 : g2 ρ1 = some r9) : sSeq f g2 ρ = some r9 := by
  subst e
  exact s_seq h h2
theorem e2_at {fe : FE} {ρ0 : Er} {x : Hd × Er} (h : fe ρ0 = some x) (e : ρ = ρ0) : fe ρ = some x := e ▸ h
theorem call_at2 {sem : List D → Option D} {ds ds0 : List D} {x : D} (h : sem ds0 = some x) (e : ds = ds0) : sem ds = some x := e ▸ h
theorem run_at {ds ds0 : List D} {x : Rs} (h : runL m gg f ds0 ρ = some x) (e : ds = ds0) : runL m gg f ds ρ = some x := e ▸ h
end
end Ev

set_option maxRecDepth 100000
set_option maxHeartbeats 4000000
namespace Ev
open PySem PySem.Spec PyProof.Rows L2
section
variable {X : Cx} {B : Bx} {a b : Expr} {fa fb : FE} {pos : Pos}
/-- [x, ..] * k -/
def fRep (fa fb : FE) : FE := fun ρ => (fa ρ).bind fun p => (fb p.2).bind fun q => match p.1 with
  | .l i => match q.2[i]? with
    | some (.own (.list ds)) => (res q.1 q.2).bind fun d => match d with
      | .int k => if decide (0 ≤ k) && decide (k ≤ 1000) && few (ds.length * k.toNat) then some (pushD (.list (List.replicate k.toNat ds).flatten) q.2) else none
      | _ => none
    | _ => none
  | _ => none
theorem Reps.rep {K : PySem.W.Frag} {H : Hp} {Ex : Addr → Prop} {ds : List D} {vs : List V} (r : Reps K H Ex ds vs) : ∀ n : Nat, Reps K H Ex (List.replicate n ds).flatten (List.replicate n vs).flatten
  | 0 => .nil
  | n + 1 => by
    rw [List.replicate_succ, List.replicate_succ, List.flatten_cons, List.flatten_cons]
    exact r.append (Reps.rep r n)
theorem ev_rep (ha : EV X B a fa) (hb : EV X B b fb) : EV X B (.BinOp a .Mult b pos) (fRep fa fb) := fun ρ h ρ' q => by
  unfold fRep at q
  obtain ⟨⟨h1, ρ1⟩, e1, q⟩ := Option.bind_eq_some_iff.mp q
  obtain ⟨⟨h2, ρ2⟩, e2, q⟩ := Option.bind_eq_some_iff.mp q
  cases h1 with
  | v d => cases q
  | l i =>
    simp only at q
    cases e3 : ρ2[i]? with
    | none => rw [e3] at q; cases q
    | some sl =>
      rw [e3] at q
      cases sl with
      | own dd =>
        cases dd with
        | list ds =>
          obtain ⟨d, e4, q⟩ := Option.bind_eq_some_iff.mp q
          cases d with
          | int k =>
            simp only at q
            split at q
            · rename_i hc
              simp only [Bool.and_eq_true, decide_eq_true_eq] at hc
              cases q
              refine pe_imp (pe_op op_rep (ha _ _ _ e1) (hb _ _ _ e2)) fun σ H Q ⟨om, R, kk⟩ => ⟨om, R, fun v1 H1 om1 s1 R1 r1 => ⟨om1, R1, fun v2 H2 om2 s2 R2 r2 => ?_⟩⟩
              have r1' : (σ ++ om2.τ)[i]? = some (some v1) := r1.stp s2
              obtain ⟨a, _, es, o, _⟩ := R2.own i _ e3
              rw [r1'] at es
              cases es
              have b2 := (R2.resb r2 e4).int
              subst b2
              cases o with
              | lst g1 g2 =>
                rename_i xs
                have hl := g2.length
                refine ⟨a, k, xs, rfl, rfl, g1, by omega, by omega, line_ok (by rw [← hl]; exact of_decide_eq_true hc.2), fun p hn => ?_⟩
                obtain ⟨R3, s3, r3⟩ := R2.pushC hn (.lst (Reps.rep g2 k.toNat))
                exact kk _ _ _ ((s1.trans s2).trans s3) R3 r3
            · cases q
          | _ => cases q
        | _ => cases q
      | _ => cases q
theorem v_repC {ρ ρ1 ρ2 : Er} {i : Nat} {q : Hd} {ds es : List D} {k : Int} (h1 : fa ρ = some (.l i, ρ1)) (h2 : fb ρ1 = some (q, ρ2)) (h3 : ρ2[i]? = some (.own (.list ds))) (h4 : res q ρ2 = some (.int k)) (h5 : (decide (0 ≤ k) && decide (k ≤ 1000) && few (ds.length * k.toNat)) = true) (h6 : (List.replicate k.toNat ds).flatten = es) : fRep fa fb ρ = some (.l ρ2.length, ρ2 ++ [.own (.list es)]) := by
  subst h6
  simp only [fRep, h1, h2, h3, h4, Option.bind_some, h5, if_true, pushD]
theorem v_rep {ρ ρ1 ρ2 : Er} {i : Nat} {q : Hd} {ds : List D} {k : Int} (h1 : fa ρ = some (.l i, ρ1)) (h2 : fb ρ1 = some (q, ρ2)) (h3 : ρ2[i]? = some (.own (.list ds))) (h4 : res q ρ2 = some (.int k)) (h5 : 0 ≤ k) (h6 : k ≤ 1000) (h7 : ds.length * k.toNat ≤ 1000000) : fRep fa fb ρ = some (.l ρ2.length, ρ2 ++ [.own (.list (List.replicate k.toNat ds).flatten)]) := by
  have hf : few (ds.length * k.toNat) = true := m_lst' h7
  simp only [fRep, h1, h2, h3, h4, Option.bind_some, h5, h6, decide_true, Bool.true_and, hf, if_true, pushD]
where
  m_lst' {n : Nat} (h : n ≤ 1000000) : few n = true := by simp [few, h]
end
end Ev
namespace Ev
open PySem PySem.Spec PyProof.Rows L2
section
variable {X : Cx}
/-- str of an int -/
def semStr : List D → Option D
  | [.int i] => if i.natAbs.log2 < 1920 then some (.str (toString i)) else none
  | _ => none
theorem cr_str : CallR X (.type "str") (rN X.K semStr) := by
  intro pins s σ H xs us Q I r h
  obtain ⟨Ex, ds, d, fr, rb, e, q⟩ := h
  unfold semStr at e
  split at e
  · split at e
    · rename_i i hl
      cases e
      obtain ⟨v, rfl, b⟩ := rb.one
      cases b.int
      exact call_str_int pins s σ H _ us Q I r ⟨i, rfl, hl, q _ _ (fun _ _ z => z) (.str _)⟩
    · cases e
  · cases e
end
end Ev

set_option maxRecDepth 100000
set_option maxHeartbeats 4000000
namespace Ev
open PySem PySem.Spec PyProof.Rows L2
/-- zip of two lists or of two tuples -/
def zipD (a b : List D) : List D := List.zipWith (fun x y => .tuple [x, y]) a b
def iZipF (fs : FA) : FI := fun ρ => (fs ρ).bind fun p => (plain p.1).bind fun ds => match ds with
  | [.list a, .list b] => some (zipD a b, p.2)
  | [.tuple a, .tuple b] => some (zipD a b, p.2)
  | _ => none
theorem zipD_get {a b : List D} {i : Nat} {d : D} (h : (zipD a b)[i]? = some d) : ∃ x y, a[i]? = some x ∧ b[i]? = some y ∧ d = .tuple [x, y] := by
  unfold zipD at h
  rw [List.getElem?_zipWith] at h
  cases ea : a[i]? with
  | none => rw [ea] at h; cases h
  | some x =>
    cases eb : b[i]? with
    | none => rw [ea, eb] at h; cases h
    | some y =>
      rw [ea, eb] at h
      cases h
      exact ⟨x, y, rfl, rfl, rfl⟩
theorem zipD_len (a b : List D) : (zipD a b).length = min a.length b.length := by
  unfold zipD
  rw [List.length_zipWith]
section
variable {X : Cx} {B : Bx} {e e2 : Expr} {fs : FA} {pos p tpos : Pos} {elts : List Expr} {kk : Nat}
theorem ei_zip (hg : Gl X "zip") (hm : X.mg "zip" = none) (ha : EA X B [e, e2] fs) (hs : starEach [e, e2] X.env = (false, eval e X.env) :: starEach [e2] X.env) (hpl : (backTo pos (starEach [e2] X.env)).any (·.1) = false) : EI X B (.Tuple elts kk tpos) (.Call (.Name "zip" p) [e, e2] [] pos) (iZipF fs) := fun ρ items ρ' q => by
  unfold iZipF at q
  obtain ⟨⟨hs', ρ1⟩, e1, q⟩ := Option.bind_eq_some_iff.mp q
  obtain ⟨ds, e2', q⟩ := Option.bind_eq_some_iff.mp q
  split at q
  · rename_i a b
    cases q
    refine pi_imp (RZ.pi_zipA hg hm (ha _ _ _ e1) hs hpl) fun σ H R ⟨om, R0, k⟩ => ⟨om, R0, fun vs H' om' s R' r => ?_⟩
    have rr := r.plain e2'
    cases rr with
    | cons r1 rr =>
      cases rr with
      | cons r2 rr =>
        cases rr
        have q1 := r1
        have q2 := r2
        cases r1 with
        | @lst p1 xs _ h1 h2 =>
          cases r2 with
          | @lst p2 ys _ g1 g2 =>
            refine ⟨p1, p2, xs, ys, rfl, .inl ⟨rep_lstSq h1, rep_lstSq g1, k _ H' om' s R' ⟨fun i d om2 H2 f2 s2 ei => ?_, fun om2 H2 s2 => ?_⟩⟩⟩
            · obtain ⟨x, y, ea, eb, rfl⟩ := zipD_get ei
              cases Rep.ste s2 q1 with
              | lst a1 a2 =>
                cases Rep.ste s2 q2 with
                | lst b1 b2 =>
                  obtain ⟨v, ev, rv⟩ := a2.get ea
                  obtain ⟨u, eu, ru⟩ := b2.get eb
                  refine ⟨⟨_, _, v, u, rep_lstSq a1, rep_lstSq b1, ev, eu⟩, fun z H3 ⟨T, x0, y0, hx, hT, hH, hl1, hl2⟩ => ?_⟩
                  subst hx hH
                  have t1 := hl1 _ (rep_lstSq a1)
                  have t2 := hl2 _ (rep_lstSq b1)
                  rw [ev] at t1; cases t1
                  rw [eu] at t2; cases t2
                  exact ⟨same_upd hT, .tup upd_same (Fresh.no f2 hT) (.cons (Rep.same (same_upd hT) rv) (.cons (Rep.same (same_upd hT) ru) .nil))⟩
            · cases Rep.ste s2 q1 with
              | lst a1 a2 =>
                cases Rep.ste s2 q2 with
                | lst b1 b2 =>
                  refine ⟨_, _, rep_lstSq a1, rep_lstSq b1, ?_⟩
                  rw [zipD_len, ← a2.length, ← b2.length]
                  omega
  · rename_i a b
    cases q
    refine pi_imp (RZ.pi_zipA hg hm (ha _ _ _ e1) hs hpl) fun σ H R ⟨om, R0, k⟩ => ⟨om, R0, fun vs H' om' s R' r => ?_⟩
    have rr := r.plain e2'
    cases rr with
    | cons r1 rr =>
      cases rr with
      | cons r2 rr =>
        cases rr
        have q1 := r1
        have q2 := r2
        cases r1 with
        | @tup p1 xs _ h1 n1 h2 =>
          cases r2 with
          | @tup p2 ys _ g1 n2 g2 =>
            refine ⟨p1, p2, xs, ys, rfl, .inr ⟨.of h1, .of g1, k _ H' om' s R' ⟨fun i d om2 H2 f2 s2 ei => ?_, fun om2 H2 s2 => ?_⟩⟩⟩
            · obtain ⟨x, y, ea, eb, rfl⟩ := zipD_get ei
              cases Rep.ste s2 q1 with
              | tup a1 m1 a2 =>
                cases Rep.ste s2 q2 with
                | tup b1 m2 b2 =>
                  obtain ⟨v, ev, rv⟩ := a2.get ea
                  obtain ⟨u, eu, ru⟩ := b2.get eb
                  refine ⟨⟨_, _, v, u, .of a1, .of b1, ev, eu⟩, fun z H3 ⟨T, x0, y0, hx, hT, hH, hl1, hl2⟩ => ?_⟩
                  subst hx hH
                  have t1 := hl1 _ (.of a1)
                  have t2 := hl2 _ (.of b1)
                  rw [ev] at t1; cases t1
                  rw [eu] at t2; cases t2
                  exact ⟨same_upd hT, .tup upd_same (Fresh.no f2 hT) (.cons (Rep.same (same_upd hT) rv) (.cons (Rep.same (same_upd hT) ru) .nil))⟩
            · cases Rep.ste s2 q1 with
              | tup a1 m1 a2 =>
                cases Rep.ste s2 q2 with
                | tup b1 m2 b2 =>
                  refine ⟨_, _, .of a1, .of b1, ?_⟩
                  rw [zipD_len, ← a2.length, ← b2.length]
                  omega
  · cases q
end
theorem i_zipL {fs : FA} {ρ ρ1 : Er} {hs : List Hd} {a b : List D} (h1 : fs ρ = some (hs, ρ1)) (h2 : plain hs = some [.list a, .list b]) : iZipF fs ρ = some (zipD a b, ρ1) := by
  simp only [iZipF, h1, h2, Option.bind_some]
theorem i_zipT {fs : FA} {ρ ρ1 : Er} {hs : List Hd} {a b : List D} (h1 : fs ρ = some (hs, ρ1)) (h2 : plain hs = some [.tuple a, .tuple b]) : iZipF fs ρ = some (zipD a b, ρ1) := by
  simp only [iZipF, h1, h2, Option.bind_some]
end Ev

set_option maxRecDepth 100000
set_option maxHeartbeats 4000000
namespace Ev
open PySem PySem.Spec PyProof.Rows L2
/-- *xs among arguments or in a display -/
def aStar (fa : FE) (fs : FA) : FA := fun ρ => (fz fa ρ).bind fun p => (itemsOf p.1).bind fun ds => (fs p.2).map fun q => (ds.map .v ++ q.1, q.2)
section
variable {K : PySem.W.Frag} {B : Bx} {om : Om} {σ : L2.St} {H : Hp}
theorem hreps_v : ∀ {ds : List D} {vs : List V}, Reps K H (Exs B om) ds vs → HReps K B om σ H (ds.map .v) vs
  | [], _, h => by cases h; exact .nil
  | d :: r, _, h => by
    cases h with
    | cons h1 h2 => exact .cons h1 (hreps_v h2)
theorem hreps_app : ∀ {hs gs : List Hd} {vs ws : List V}, HReps K B om σ H hs vs → HReps K B om σ H gs ws → HReps K B om σ H (hs ++ gs) (vs ++ ws)
  | [], _, _, _, h, g => by cases h; exact g
  | _ :: _, _, _, _, h, g => by
    cases h with
    | cons h1 h2 => exact .cons h1 (hreps_app h2 g)
end
section
variable {X : Cx} {B : Bx} {e : Expr} {es : List Expr} {fa : FE} {fs : FA} {p : Pos}
theorem ea_star (ha : EV X B e fa) (hs : EA X B es fs) (hst : starEach (.Starred e p :: es) X.env = (true, eval e X.env) :: starEach es X.env) : EA X B (.Starred e p :: es) (aStar fa fs) := fun ρ h ρ' q => by
  unfold aStar at q
  obtain ⟨⟨d, ρ1⟩, e1, q⟩ := Option.bind_eq_some_iff.mp q
  obtain ⟨ds, e3, q⟩ := Option.bind_eq_some_iff.mp q
  obtain ⟨⟨h2, ρ2⟩, e2, q⟩ := Option.map_eq_some_iff.mp q
  cases q
  refine pa_imp (StX.pa_star (ha.fz e1) (hs _ _ _ e2) hst) fun σ H Q ⟨om, R, k⟩ => ⟨om, R, fun v H' om' s R' r => ?_⟩
  have key : ∃ a xs, v = .ref a ∧ (SqT X.K H' a xs ∨ SqL X.K H' a xs) ∧ Reps X.K H' (Exs B om') ds xs := by
    cases d with
    | list es' =>
      cases e3
      cases r with
      | @lst a xs _ h1 h2 => exact ⟨a, xs, rfl, .inr (rep_lstSq h1), h2⟩
    | tuple es' =>
      cases e3
      cases r with
      | @tup a xs _ h1 n1 h2 => exact ⟨a, xs, rfl, .inl (.of h1), h2⟩
    | _ => cases e3
  obtain ⟨a, xs, rfl, hq, rr⟩ := key
  exact ⟨a, xs, rfl, hq, om', R', fun vs H2 om2 s2 R2 r2 => k (xs ++ vs) H2 om2 (s.trans s2) R2 (hreps_app (hreps_v (Reps.stp s2 rr)) r2)⟩
end
section
variable {fa : FE} {fs : FA} {ρ ρ1 ρ2 ρ3 : Er} {p : Hd} {d : D} {ds : List D} {hs : List Hd}
theorem v_star (h1 : fa ρ = some (p, ρ1)) (h2 : frz p ρ1 = some (d, ρ2)) (h3 : itemsOf d = some ds) (h4 : fs ρ2 = some (hs, ρ3)) : aStar fa fs ρ = some (ds.map .v ++ hs, ρ3) := by
  have e : fz fa ρ = some (d, ρ2) := by simp only [fz, h1, h2, Option.bind_some]
  simp only [aStar, e, h3, h4, Option.bind_some, Option.map_some]
theorem plain_map : ∀ ds : List D, plain (ds.map .v) = some ds
  | [] => rfl
  | d :: r => by simp only [List.map_cons, plain, plain_map r, Option.map_some]
theorem plain_app : ∀ (ds : List D) (hs : List Hd) (es : List D), plain hs = some es → plain (ds.map .v ++ hs) = some (ds ++ es)
  | [], _, _, h => h
  | d :: r, hs, es, h => by
    show (plain (r.map .v ++ hs)).map (d :: ·) = _
    rw [plain_app r hs es h]
    rfl
end
end Ev

set_option maxRecDepth 100000
set_option maxHeartbeats 4000000
namespace Ev
open PySem PySem.Spec PyProof.Rows L2
/-! ### what a def raises: the name of the class -/
/-- what is raised: the class, a field that its own __init__ keeps -/
abbrev Wx := Str × Option (Str × Int)
def ExW (K : PySem.W.Frag) (E : XK) (w : Wx) (H' : Hp) : Prop := match w.2 with
  | none => E (.ref (He.ga K w.1)) none H'
  | some (f, v) => ∀ dd, H' dd = some (.xd [(f, .int v)]) → E (.ref (He.ga K w.1)) (some dd) H'
abbrev FX := Er → Option (Wx × Er)
def EndX (X : Cx) (B : Bx) (E : XK) (w : Wx) (om : Om) (H : Hp) : Prop := ∀ (H' : Hp) (om' : Om) (ρ' : Er) (σ' : L2.St), Stp B om H om' H' → Rel X.K B ρ' om' σ' H' → ExW X.K E w H'
/-- an expression that raises; its state at the raise is told -/
def EXe (X : Cx) (B : Bx) (E : XK) (e : Expr) (x : FX) : Prop := ∀ ρ w ρ1, x ρ = some (w, ρ1) → PE X e (fun σ H _ => ∃ om, Rel X.K B ρ om σ H ∧ ∀ H' om', Stp B om H om' H' → Rel X.K B ρ1 om' σ H' → ExW X.K E w H')
def EXS (X : Cx) (B : Bx) (E : XK) (st : Stmt) (x : FX) : Prop := ∀ ρ w ρ1, x ρ = some (w, ρ1) → PS X st (fun _ σ H => ∃ om, Rel X.K B ρ om σ H ∧ om.τ = [] ∧ EndX X B E w om H)
def EXSs (X : Cx) (B : Bx) (E : XK) (st : List Stmt) (x : FX) : Prop := ∀ ρ w ρ1, x ρ = some (w, ρ1) → PSs X st (fun _ σ H => ∃ om, Rel X.K B ρ om σ H ∧ om.τ = [] ∧ EndX X B E w om H)
def xNo : FX := fun _ => none
def xHere (w : Wx) : FX := fun ρ => some (w, ρ)
def xSeq (f : FS) (a b : FX) : FX := fun ρ => match a ρ with
  | some w => some w
  | none => (f ρ).bind fun r => match r with
    | .nx ρ' => b ρ'
    | _ => none
def xIf (n : Nat) (gc : FT) (a b : FX) : FX := fun ρ => (gc ρ).bind fun p => if p.1 = true then a (p.2.take n) else b (p.2.take n)
def xCall (fs : FA) (ios : List Bool) (R : List D → Option Wx) : FX := fun ρ => (fs ρ).bind fun p => (argsOf ios p.1 p.2).bind fun ds => (R ds).map fun w => (w, p.2)
section
variable {X : Cx} {B : Bx} {E : XK} {w : Wx} {om om' : Om} {H H' : Hp} {st : Stmt} {rest : List Stmt} {f : FS} {a b : FX} {n : Nat} {pos p : Pos}
theorem EndX.at (k : EndX X B E w om H) (s : Stp B om H om' H') : EndX X B E w om' H' := fun H2 om2 ρ2 σ2 s2 R2 => k H2 om2 ρ2 σ2 (s.trans s2) R2
theorem ex_no : EXS X B E st xNo := fun _ _ _ q => nomatch q
theorem exs_nil {l : List Stmt} : EXSs X B E l xNo := fun _ _ _ q => nomatch q
theorem exs_cons (h : ES X B st f) (hx : EXS X B E st a) (h2 : EXSs X B E rest b) : EXSs X B E (st :: rest) (xSeq f a b) := fun ρ w ρ1 q => by
  unfold xSeq at q
  cases e : a ρ with
  | some w' =>
    rw [e] at q
    cases q
    exact pss_imp (pss_cons (hx _ _ _ e) pss_never) fun D σ H h => h
  | none =>
    rw [e] at q
    obtain ⟨r, e1, q⟩ := Option.bind_eq_some_iff.mp q
    cases r with
    | nx ρ2 => exact pss_imp (pss_cons (h _ _ e1) (h2 _ _ _ q)) fun D σ H ⟨om, R, t, k⟩ => ⟨om, R, t, fun σ' H' om' s R' t' => ⟨om', R', t', k.at s⟩⟩
    | ret d ρ2 => cases q
    | bk ρ2 => cases q
    | ct ρ2 => cases q
theorem ex_if {c : Expr} {la lb : List Stmt} {gc : FT} (hn : X.N.length = n) (hc : ET X B c gc) (ha : EXSs X B E la a) (hb : EXSs X B E lb b) : EXS X B E (.If c la lb pos) (xIf n gc a b) := fun ρ w ρ1 q => by
  unfold xIf at q
  obtain ⟨⟨c1, ρ2⟩, e1, q⟩ := Option.bind_eq_some_iff.mp q
  cases c1 with
  | true =>
    rw [if_pos rfl] at q
    refine ps_impL (ps_if (u := tNever) (hc _ _ _ e1) (ha _ _ _ q) pss_never) fun D σ H ln ⟨om, R, t, k⟩ => ⟨om, R, fun H' om' s R' => ?_⟩
    obtain ⟨R2, x⟩ := R'.cut (ln.trans hn)
    rw [if_pos rfl]
    exact ⟨_, R2, rfl, k.at (s.less t rfl x)⟩
  | false =>
    rw [if_neg Bool.false_ne_true] at q
    refine ps_impL (ps_if (t := tNever) (hc _ _ _ e1) pss_never (hb _ _ _ q)) fun D σ H ln ⟨om, R, t, k⟩ => ⟨om, R, fun H' om' s R' => ?_⟩
    obtain ⟨R2, x⟩ := R'.cut (ln.trans hn)
    rw [if_neg Bool.false_ne_true]
    exact ⟨_, R2, rfl, k.at (s.less t rfl x)⟩
theorem ex_expr {e : Expr} (h : EXe X B E e a) (hs : swapsWith e none pos.line X.env = pure false) : EXS X B E (.Expr e pos) a := fun ρ w ρ1 q =>
  ps_imp (ps_expr (h _ _ _ q) hs) fun D σ H ⟨om, R, t, k⟩ => ⟨om, R, fun H' om' s R' => k H' om' ρ1 σ s R'⟩
theorem ex_ret {e : Expr} (h : EXe X B E e a) : EXS X B E (.Return (some e) pos) a := fun ρ w ρ1 q =>
  ps_imp (ps_ret (h _ _ _ q)) fun D σ H ⟨om, R, t, k⟩ => ⟨om, R, fun H' om' s R' => k H' om' ρ1 σ s R'⟩
/-- C(), an own exception class without its own __init__ -/
theorem pmk_own0 {C : Addr} {bmB : List Value} {BN newId initId : String} {x : Str} (F : ExcBaseFacts BN newId initId bmB) (q : PySem.W.excIn X.K C bmB newId = true) (gC : X.mg x = some (.ref C))
    (kC : PySem.W.keepIn X.K (.ref C) = true) (r : Raises X (.ref C)) (hg : Gl X x) (hdb : (x == ("__debug__" : Str)) = false) :
    PMk X (.Call (.Name x p) [] [] pos) (fun _ H Q => Q (.ref C) none H) := by
  intro pins s σ H Q I q1
  refine wpAny_Call_Name_kw (ld_glob I hg gC ?_ hdb)
  refine PySem.W.callWith_K0 I.kIn kC ?_
  show wpAny _ _ (call (.ref C) []) _ _ _
  obtain ⟨bm, N, nm, qn, bs, hdct, sn, sub, ab, col, dd, k0, k1, k2, k3, k5, mN, hC, hN, hni, T⟩ := exc_obj I.kIn q
  refine wpAny_call_exc_subT F T hC hN hni (fun h2 e hm => ?_) (Nat.zero_le _)
  exact mk_of I hm r q1 (I.hok.gone hm.new)
theorem ex_raise {x : Str} {pos' : Pos} (hc : X.calm = true) (tk : Takes X (fun cls d _ H => E cls d H)) (c : PySem.W.excIn X.K (He.ga X.K x) He.veBase "ValueError.__new__" = true ∧ PySem.W.keepIn X.K (.ref (He.ga X.K x)) = true ∧ PySem.W.subIn X.K (.ref (He.ga X.K x)) (.type "BaseException") = some true ∧ PySem.W.typeIn X.K (.ref (He.ga X.K x)) = some (.type "type"))
    (hm : X.mg x = some (.ref (He.ga X.K x))) (hg : Gl X x) (hdb : (x == ("__debug__" : Str)) = false) : EXS X B E (.Raise (some (.Call (.Name x p) [] [] pos)) none pos') (xHere (x, none)) := fun ρ w ρ1 q => by
  cases q
  obtain ⟨c1, c2, c3, c4⟩ := c
  exact ps_imp (ps_raise hc tk (pmk_own0 PySem.F.excBase_ValueError c1 hm c2 (raises_own c3 c4) hg hdb)) fun D σ H ⟨om, R, t, k⟩ => k H om ρ σ .refl R
/-- nothing that is owned has been changed -/
theorem Rel.calm {K : PySem.W.Frag} {ρ : Er} {σ : L2.St} (R : Rel K B ρ om σ H) (kp : ∀ a o, H a = some o → a ∉ B.T → H' a = some o) (tabs : ∀ P ∈ B.T, GxR.TabG H' P) : Rel K B ρ om σ H' ∧ Stp B om H om H' := by
  have k : Keep (Exs B om) H H' := fun b o n e => kp b o e fun z => n (.inl (R.tx b z))
  have oe : ∀ {d : D} {b : Addr}, RepO K H (Exs B om) d b → H' b = H b := fun {d b} o => by
    obtain ⟨u, e, _, n, _⟩ := o.some
    rw [e]
    refine kp b u e fun z => ?_
    obtain ⟨ps, e2, _⟩ := R.tabs b z
    rw [e] at e2
    cases e2
    exact n ps rfl
  refine R.change rfl (fun i d e => e) (fun i d e => ⟨d, e, fun b _ r => r.mono k (fun _ z => .inl z) (oe r)⟩) (fun i d e => ⟨d, e, fun b _ r => r.mono k (fun _ z => .inl z) (oe r)⟩) (fun b o e _ n => kp b o e n) (fun i b e => ?_) (fun b h => ?_) tabs
  · obtain ⟨o, e1, n⟩ := R.exd b (.inr ⟨i, e⟩)
    by_cases z : b ∈ B.T
    · obtain ⟨ps, e2, _⟩ := tabs b z
      exact ⟨_, e2, fun _ z => nomatch z⟩
    · exact ⟨o, kp b o e1 z, n⟩
  · cases e : H b with
    | none => exact absurd e h
    | some o =>
      by_cases z : b ∈ B.T
      · obtain ⟨ps, e2, _⟩ := tabs b z
        rw [e2]; exact fun z => nomatch z
      · rw [kp b o e z]; exact fun z => nomatch z
end
/-- a def's promise to raise -/
def spX (K : PySem.W.Frag) (T : List Addr) (ios : List Bool) (R : List D → Option Wx) : List V → Hp → XK → Prop := fun vs H E => ∃ (Ex : Addr → Prop) (ds : List D) (w : Wx),
  Fresh Ex H ∧ (∀ P ∈ T, Ex P) ∧ (∀ P ∈ T, GxR.TabG H P) ∧ ARep K H Ex ios ds vs ∧ (∀ i j a, ioA ios vs i = some a → ioA ios vs j = some a → i = j) ∧ R ds = some w ∧
  ∀ H', (∀ a o, H a = some o → (∀ i, ioA ios vs i ≠ some a) → a ∉ T → H' a = some o) → (∀ P ∈ T, GxR.TabG H' P) → ExW K E w H'
def spFX (K : PySem.W.Frag) (T : List Addr) (F : Fn) (R : List D → Option Wx) : Sp := fun vs H Q E => spF K T F vs H Q E ∨ spX K T F.ios R vs H E
structure CtrX (P : Program) (w : World) (K : PySem.W.Frag) (mg : Str → Option Value) (base : Heap) (k : Nat) (T : List Addr) (x : Str) (F : Fn) (R : List D → Option Wx) : Prop where
  ex : ∃ (f : Addr) (fd : FuncData) (ps : List Str), mg x = some (.ref f) ∧ PySem.W.keepIn K (.ref f) = true ∧ Binds K fd ps [] ∧ FnOk P w K mg base (L2.CX P w) k f fd ps (spFX K T F R)
  no : F.ios.all (!·) = true
theorem CtrX.mono {P : Program} {w : World} {K : PySem.W.Frag} {mg : Str → Option Value} {base : Heap} {j k : Nat} {T : List Addr} {x : Str} {F : Fn} {R : List D → Option Wx} (c : CtrX P w K mg base j T x F R) (h : j ≤ k) : CtrX P w K mg base k T x F R := by
  obtain ⟨f, fd, ps, h1, h2, h3, h4⟩ := c.ex
  exact ⟨⟨f, fd, ps, h1, h2, h3, h4.mono h⟩, c.no⟩
theorem ioA_no : ∀ {ios : List Bool} {vs : List V} {i : Nat}, ios.all (!·) = true → ioA ios vs i = none := fun {ios vs i} h => by
  unfold ioA
  split
  · rename_i q _
    have := List.all_eq_true.mp h true (List.mem_of_getElem? q)
    cases this
  · rfl
section
variable {X : Cx} {B : Bx} {E : XK} {k : Nat} {e : Expr} {es : List Expr} {pos p : Pos} {x : Str} {F : Fn} {R : List D → Option Wx} {fs : FA}
theorem ex_call (c : CtrX X.prog X.w X.K X.mg X.base k B.T x F R) (hr : Room k X.A) (hg : Gl X x) (tk : Takes X (fun cls d _ H => E cls d H)) (ha : EA X B (e :: es) fs) (hdb : (x == ("__debug__" : Str)) = false)
    (he : starEach (e :: es) X.env = (false, eval e X.env) :: starEach es X.env) (hpl : (backTo pos (starEach es X.env)).any (·.1) = false) : EXe X B E (.Call (.Name x p) (e :: es) [] pos) (xCall fs F.ios R) := fun ρ w ρ1 q => by
  obtain ⟨f, fd, ps, hm, hk, hb, hF⟩ := c.ex
  have no := c.no
  unfold xCall at q
  obtain ⟨⟨hs, ρ2⟩, e1, q⟩ := Option.bind_eq_some_iff.mp q
  obtain ⟨ds, e2, q⟩ := Option.bind_eq_some_iff.mp q
  obtain ⟨w', e3, q⟩ := Option.map_eq_some_iff.mp q
  cases q
  refine pe_imp (pe_call hF hr hg hm hk hb .nil (fun _ σ H _ e s' I cc => passes_call tk (fun _ _ _ _ h => h) _ σ H _ e s' I cc) (ha _ _ _ e1) hdb he hpl) fun σ H Q ⟨om, R0, kk⟩ => ⟨om, R0, fun vs H1 om1 s1 R1 r1 => ?_⟩
  obtain ⟨ar, io⟩ := argsOf_rep R1 r1 e2
  rw [List.append_nil]
  refine .inr ⟨Exs B om1, ds, w, R1.exd, fun P hP => .inl (R1.tx P hP), R1.tabs, ar, fun i j a h1 h2 => ?_, e3, fun H2 keep tabs => ?_⟩
  · rw [ioA_no no] at h1
    cases h1
  · obtain ⟨R2, s2⟩ := R1.calm (fun a o ea nt => keep a o ea (fun i z => by rw [ioA_no no] at z; cases z) nt) tabs
    exact kk H2 om1 (s1.trans s2) R2
end
section
variable {P : Program} {w : World} {K : PySem.W.Frag} {mg : Str → Option Value} {base : Heap} {x qual : Str} {params : Arguments} {body : List Stmt} {scope : Scope} {fd : FuncData} {p : He.Defn}
def gX (m : Nat) (ios : List Bool) (fx : FX) : List D → Option Wx := fun ds => if ds.length = ios.length then (fx (startR ios ds ++ List.replicate (m - ios.length) .un)).map (·.1) else none
/-- a def keeps its promise to raise -/
theorem fn_okX {N ps : List Str} {k : Nat} {T : List Addr} {ios : List Bool} {fx : FX} (F : FunD K x qual params body scope [] [] (He.fAd K p) fd) (S : FnScope N ps scope) (hi : ios.length = ps.length) (hl : ps.length ≤ N.length)
    (hb : ∀ (A : Around) (outer : List Env) (s : Shared) (H : Hp) (E : XK) (Ex0 : Addr → Prop) (H0 : Hp) (I0 : Nat → Option Addr), Room k (A.deeper (envOfC qual scope s.heap.objs.size (He.fAd K p) (.ref (He.codeOf K p)))) →
      EXSs (cxOf (L2.CX P w) P w K mg base N qual scope (He.fAd K p) (.ref (He.codeOf K p)) A outer s H E) ⟨T, Ex0, H0, I0, none⟩ E body fx) : FnOk P w K mg base (L2.CX P w) (k + 1) (He.fAd K p) fd ps (fun vs H _ E => spX K T ios (gX N.length ios fx) vs H E) := by
  obtain ⟨oc, od, dV, kV, doc, pm, an, cdv, ct, osl, rfl, lk, hcd, _, _⟩ := F.ex
  obtain ⟨c, rfl⟩ := He.codeIn_ref hcd
  have ec : He.codeOf K p = c := He.codeOf_eq lk rfl
  rw [ec] at hb
  refine fn_of lk hcd S (fun vs H Q E ⟨Ex, ds, w, _, _, _, ar, _⟩ => by rw [ar.len.2]; exact hi) fun A outer s H vs Q E hr h => ?_
  obtain ⟨Ex, ds, w, fr, tx, tt, ar, inj, g, k⟩ := h
  unfold gX at g
  rw [if_pos ar.len.1] at g
  obtain ⟨⟨w', ρ1⟩, e1, g⟩ := Option.map_eq_some_iff.mp g
  cases g
  refine ⟨_, hb A outer s H E Ex H (ioA ios vs) hr _ _ _ e1, ⟨ioA ios vs, []⟩, ?_, rfl, fun H' om' ρ' σ' s' R' => k H' (fun a o e n nt => R'.keep a o e n nt) R'.tabs⟩
  unfold L2.start
  refine start_rel (m := N.length - ios.length) ?_ fr tx tt ar inj
  rw [ar.len.2]
theorem takes_cx {N : List Str} {f : Addr} {cd : Value} {A : Around} {outer : List Env} {s : Shared} {H : Hp} {E : XK} : Takes (cxOf (L2.CX P w) P w K mg base N qual scope f cd A outer s H E) (fun cls d _ H => E cls d H) := takes_of rfl rfl rfl rfl
theorem fn_both {k : Nat} {f : Addr} {ps : List Str} {T : List Addr} {F : Fn} {R : List D → Option Wx} (a : FnOk P w K mg base CX0 k f fd ps (spF K T F)) (b : FnOk P w K mg base (L2.CX P w) k f fd ps (fun vs H _ E => spX K T F.ios R vs H E)) : FnOk P w K mg base (L2.CX P w) k f fd ps (spFX K T F R) :=
  ⟨fun vs H Q E h => h.elim (a.len vs H Q E) (b.len vs H Q E), fun A outer s H args us vs Q E hr e0 hb r h => by
    rcases h with h | h
    · refine codeAny_mono (a.run A outer s H args us vs Q E hr e0 hb r h) fun rr s' hq => ?_
      cases rr with
      | error e => exact (show False from hq).elim
      | ok fl => cases fl <;> exact hq
    · exact b.run A outer s H args us vs Q E hr e0 hb r h⟩
end
end Ev

set_option maxRecDepth 100000
set_option maxHeartbeats 4000000
namespace Ev
open PySem PySem.Spec PyProof.Rows L2 LamX
/-! ### a lambda is made -/
theorem Rel.lamNew {K : PySem.W.Frag} {B : Bx} {ρ : Er} {om : Om} {σ : L2.St} {H : Hp} {P C : Addr} {q : Str} {ps more : Array Value} (R : Rel K B ρ om σ H) (hL : B.L = some (P, q)) (hI : ∃ j, B.I0 j = some P) (hP : H P = some (.tbl ps)) (hC : H C = none)
    (ht : TriplesOk (ps ++ more).toList) (hm : ∀ (p : Pos) (cv : Value), codeAmong p (ps ++ more).toList = some cv → codeAmong p ps.toList = some cv ∨ cv = .ref C) :
    Rel K B ρ om σ (upd (upd H P (.tbl (ps ++ more))) C (CodeO C q)) ∧ Stp B om H om (upd (upd H P (.tbl (ps ++ more))) C (CodeO C q)) := by
  obtain ⟨x1, x2, x3, ps', x4, x5, x6⟩ := R.lam P q hL
  obtain rfl : ps = ps' := by
    rw [hP] at x4
    cases x4
    rfl
  have nPC : P ≠ C := ne_of_none hP hC
  have at2 : ∀ b, b ≠ P → b ≠ C → upd (upd H P (.tbl (ps ++ more))) C (CodeO C q) b = H b := fun b y1 y2 => by
    rw [upd_ne y2]
    exact upd_ne y1
  have atP : upd (upd H P (.tbl (ps ++ more))) C (CodeO C q) P = some (.tbl (ps ++ more)) := by
    rw [upd_ne nPC]
    exact upd_same
  have sm : ∀ b o, b ≠ P → H b = some o → upd (upd H P (.tbl (ps ++ more))) C (CodeO C q) b = some o := fun b o y e => by
    rw [at2 b y (ne_of_none e hC)]
    exact e
  have k : Keep (Exs B om) H (upd (upd H P (.tbl (ps ++ more))) C (CodeO C q)) := fun b o n e => sm b o (fun z => n (.inl (by rw [z]; exact x1))) e
  have oe : ∀ {d : D} {b : Addr}, RepO K H (Exs B om) d b → upd (upd H P (.tbl (ps ++ more))) C (CodeO C q) b = H b := fun {d b} o => by
    obtain ⟨u, e, _, n, _⟩ := o.some
    rw [e]
    refine sm b u (fun z => ?_) e
    rw [z, hP] at e
    cases e
    exact n ps rfl
  have x : ∀ a, Exs B om a → Exs B om a ∨ H a = none := fun _ z => .inl z
  refine ⟨⟨R.len, fun i d e => ?_, fun i d e => ?_, fun i d e => ?_, R.inj, R.old, fun a z => ?_, fun a o e n1 n2 => ?_, fun T hT => ?_, R.tx, R.ex0, R.fin, fun j a e => ?_, fun P2 q2 e => ?_⟩, ⟨k, x, [], (List.append_nil _).symm⟩⟩
  · obtain ⟨v, e1, r⟩ := R.val i d e
    exact ⟨v, e1, Rep.mono k x _ _ r⟩
  · obtain ⟨a, e0, e1, r, y⟩ := R.own i d e
    exact ⟨a, e0, e1, r.mono k x (oe r), y⟩
  · obtain ⟨a, e0, e1, r, y⟩ := R.io i d e
    exact ⟨a, e0, e1, r.mono k x (oe r), y⟩
  · by_cases y : a = P
    · rw [y]
      exact ⟨_, atP, fun _ z => nomatch z⟩
    · obtain ⟨o, e, n⟩ := R.exd a z
      exact ⟨o, sm a o y e, n⟩
  · obtain ⟨j, hj⟩ := hI
    exact sm a o (fun y => n1 j (by rw [y]; exact hj)) (R.keep a o e n1 n2)
  · obtain ⟨rs, e, t⟩ := R.tabs T hT
    exact ⟨rs, sm T _ (fun y => x2 (by rw [← y]; exact hT)) e, t⟩
  · by_cases y : a = P
    · rw [y, atP]
      exact fun z => nomatch z
    · cases e2 : H a with
      | none => exact absurd e2 (R.lent j a e)
      | some o =>
        rw [sm a o y e2]
        exact fun z => nomatch z
  · rw [hL] at e
    cases e
    refine ⟨x1, x2, x3, _, atP, ht, fun p cv hc => ?_⟩
    rcases hm p cv hc with y | y
    · obtain ⟨c, e1, e2, e3⟩ := x6 p cv y
      refine ⟨c, e1, sm c _ (fun z => ?_) e2, e3⟩
      rw [z, hP] at e2
      exact codeO_ne ps (Option.some.inj e2).symm
    · refine ⟨C, y, upd_same, fun i z => ?_⟩
      obtain ⟨o, e, _⟩ := R.exd C (.inr ⟨i, z⟩)
      rw [hC] at e
      cases e
section
variable {X : Cx} {B : Bx} {pins : List (Addr × Obj)} {σ : L2.St} {H : Hp} {s : Shared} {ρ : Er} {om : Om}
theorem lam_rel {c P : Addr} {params : Arguments} {body : Expr} {scope : Scope} {pos : Pos} {E : Value → Shared → Prop} {Q : Value → Shared → Prop} (I : Inv X pins σ H s) (R : Rel X.K B ρ om σ H) (hL : B.L = some (P, X.env.qual ++ "<lambda>")) (hI : ∃ j, B.I0 j = some P)
    (TB : TabB X.base X.mg c P) (hcode : X.env.code = .ref c) (hdef : defaultsOf params X.env = ([], [])) (hfree : ∀ y ∈ scope.names, y.2 = .free → ∃ c, X.env.cells.lookup y.1 = some c)
    (h : ∀ (f c1 : Addr) (pm ctv : Value) (H1 : Hp) (s1 : Shared), Inv X pins σ H1 s1 → Rel X.K B ρ om σ H1 → Stp B om H om H1 →
      s1.heap.get? f = some (PySem.W.kla_obj "<lambda>" (X.env.qual ++ "<lambda>") params body scope (cloFrom X.env.cells scope.names []) pm c1 ctv) → H1 f = none → f ∉ frs X.stack → H1 c1 = some (CodeO c1 (X.env.qual ++ "<lambda>")) → (∀ i, om i ≠ some c1) → c1 ∉ B.T → Q (.ref f) s1) :
    wpAny (model X.prog X.w) X.A (eval (.Lambda params body scope pos) X.env) Q E s := by
  obtain ⟨x1, x2, x3, ps, hP, ht, ha⟩ := R.lam P _ hL
  have nT : ∀ {H1 : Hp} {c1 : Addr} {q : Str}, Rel X.K B ρ om σ H1 → H1 c1 = some (CodeO c1 q) → c1 ∉ B.T := fun {H1 c1 q} R1 e z => by
    obtain ⟨qs, e2, _⟩ := R1.tabs c1 z
    rw [e] at e2
    exact codeO_ne qs (Option.some.inj e2)
  refine PySem.W.kla_eval hdef ?_
  have bP : s.heap.BuiltinsAt X.mg P := TB.bm.keeps I.bk
  have gP : s.heap.get? P = some { cls := .none, data := .fields ps } := I.hok P _ hP
  have away : ∀ f, s.heap.objs.size ≤ f → f ∉ frs X.stack := fun f hf z => by
    rcases List.mem_cons.mp (I.stkSub _ z) with e | e
    · have h1 := I.lt
      rw [← e] at h1
      exact absurd hf (Nat.not_le_of_lt h1)
    · exact I.nofs hf e
  cases ec : codeAmong pos ps.toList with
  | some cv =>
    obtain ⟨c1, e, hco, nco⟩ := ha pos cv ec
    cases e
    refine PySem.W.kla_makeFunctionHit (mg := X.mg) (c := c) (P := P) (ps := ps) (closure_ok hfree) I.ok.glob (I.mod.glob.keeps I.bk) hcode (TB.code.keeps I.bk) gP ht ec bP fun ctv h2 tk hx hsz => ?_
    exact h h2.objs.size c1 _ ctv H _ (I.kept fun b o e => Heap.get?_push_of_some _ (hx b o e)) R .refl (Heap.get?_push_size _ rfl) (I.hok.fresh hsz) (away _ hsz) hco nco (nT R hco)
  | none =>
    refine PySem.W.kla_makeFunction (mg := X.mg) (c := c) (P := P) (ps := ps) (closure_ok hfree) I.ok.glob (I.mod.glob.keeps I.bk) hcode (TB.code.keeps I.bk) gP ht ec TB.gP bP fun c1 ctv h2 tk hx hge hlt hrec htb => ?_
    obtain ⟨c2, oc, vs, t, e2, hoc, hd, hv⟩ := hrec
    cases e2
    have hsz : s.heap.objs.size ≤ h2.objs.size := Nat.le_trans hge (Nat.le_of_lt hlt)
    have nC : H c1 = none := I.hok.fresh hge
    have I1 := inv_table (t' := tk) (more := #[rawInt pos.line, rawInt pos.col, .ref c1]) (h' := h2.push (PySem.W.kla_obj "<lambda>" (X.env.qual ++ "<lambda>") params body scope (cloFrom X.env.cells scope.names []) ((X.mg "__name__").getD .none) c1 ctv)) I hP
      (fun b o hb e => Heap.get?_push_of_some _ (hx b o hb e)) (Heap.get?_push_of_some _ htb) hge ⟨oc, vs, t, Heap.get?_push_of_some _ hoc, hd, hv⟩
    have eL : (ps ++ #[rawInt pos.line, rawInt pos.col, .ref c1]).toList = ps.toList ++ [rawInt pos.line, rawInt pos.col, .ref c1] := by simp
    obtain ⟨R1, S1⟩ := R.lamNew (more := #[rawInt pos.line, rawInt pos.col, .ref c1]) hL hI hP nC (by rw [eL]; exact PySem.TriplesOk_snoc _ _ _ _ ht) (fun p cv hcv => by
      rw [eL] at hcv
      exact among_app _ ht hcv)
    refine h h2.objs.size c1 _ ctv _ _ I1 R1 S1 (Heap.get?_push_size _ rfl) ?_ (away _ hsz) upd_same (fun i z => ?_) (nT R1 upd_same)
    · rw [upd_ne (Nat.ne_of_gt hlt), upd_ne (Nat.ne_of_gt (Nat.lt_of_lt_of_le (Heap.lt_size gP) hsz))]
      exact I.hok.fresh hsz
    · obtain ⟨o, e, _⟩ := R.exd c1 (.inr ⟨i, z⟩)
      rw [nC] at e
      cases e
end
end Ev

set_option maxRecDepth 100000
set_option maxHeartbeats 4000000
namespace Ev
open PySem PySem.Spec PyProof.Rows L2 LamX
/-! ### what tells of a lambda's error: try: return work() / except Base as e: return ret if isinstance(e, D) else oth -/
/-- the wish: an exception of the class D, behind which ret is returned -/
def wishD (K : PySem.W.Frag) (w : Wx) (ret : Str) (Q : VK) : XK := fun cls d H' => cls = .ref (He.ga K w.1) ∧ (match w.2 with
  | none => d = none
  | some (f, v) => ∃ dd, d = some dd ∧ H' dd = some (.xd [(f, .int v)])) ∧ Q (.str ret) H'
theorem wish_of {K : PySem.W.Frag} {w : Wx} {ret : Str} {Q : VK} {H' : Hp} (q : Q (.str ret) H') : ExW K (wishD K w ret Q) w H' := by
  obtain ⟨x, o⟩ := w
  cases o with
  | none => exact ⟨rfl, rfl, q⟩
  | some fv => exact fun dd e => ⟨rfl, ⟨dd, rfl, e⟩, q⟩
def TTx (K : PySem.W.Frag) (D : Wx) (ret : Str) : (XK → Hp → VK → Prop) → Hp → VK → Prop := fun tl H Q => tl (wishD K D ret Q) H Q
/-- what is asked of the def that tells, and of the classes it names -/
structure TellOk (K : PySem.W.Frag) (mg : Str → Option Value) (Base D : Str) : Prop where
  base : mg Base = some (.ref (He.ga K Base))
  cls : mg D = some (.ref (He.ga K D))
  isi : mg "isinstance" = none
  exm : PySem.W.exmOne K (.ref (He.ga K D)) (.ref (He.ga K Base)) = some true
  exc : ExcC K (He.ga K D)
  kit : PySem.W.kitOne K (.ref (He.ga K D)) (.ref (He.ga K D)) = some true
theorem told_givesX {X : Cx} {Ng : List Str} {x a en q ret oth Base D : Str} {sg : Scope} {g : Addr} {cdg : Value} {j j2 : Nat} {p1 p2 p3 p4 p5 p6 p7 p8 p9 p10 p11 p12 p13 p14 : Pos} (ok : TellOk X.K X.mg Base D) (hgb : sg.names.lookup Base = some .globalImplicit) (hgi : sg.names.lookup ("isinstance" : Str) = some .globalImplicit)
    (hgd : sg.names.lookup D = some .globalImplicit) (hde : (Base == ("__debug__" : Str)) = false) (hdd : (D == ("__debug__" : Str)) = false) (nd : Ng.Nodup) (h1 : Ng[1]? = some en) (hl : sg.names.lookup en = some .local) (h0 : ∀ f : Addr, (L2.start Ng [V.ref f])[0]? = some (some (V.ref f))) (hlen : Ng.length = 2)
    (hd1 : (en == ("__debug__" : Str)) = false) (hc1 : (en == ("__classdict__" : Str)) = false) :
    GivesTo X Ng x sg g cdg [.Try [.Return (some (.Call (.Name a p1) [] [] p2)) p3] [.ExceptHandler (some (.Name Base p4)) (some en) [.Return (some (.IfExp (.Call (.Name "isinstance" p9) [.Name en p10, .Name D p11] [] p12) (.Constant (.str ret) j p5) (.Constant (.str oth) j2 p6) p13)) p14] p7] [] [] p8] a q (TTx X.K (D, none) ret) := by
  intro f c' s H Q tl act hc h
  have hgl : Gl (cxOf C8.CX0 X.prog X.w X.K X.mg X.base Ng x sg g cdg X.A X.stack s H C8.E0).nox Base := hgb
  refine ⟨_, pss_one (ps_try_as (X := (cxOf C8.CX0 X.prog X.w X.K X.mg X.base Ng x sg g cdg X.A X.stack s H C8.E0).nox) (c := .ref (He.ga X.K Base)) (i := 1)
      (ts := fun ea cls d D' σ H => cls = .ref (He.ga X.K D) ∧ d = none ∧ σ[1]? = some (some (.ref ea)) ∧ D'.rt (.str ret) H)
      (tb := fun W Dn σ H => ∃ Ech : XK, (∀ cls d σ' H', σ'.length = 2 → Ech cls d H' → W cls d σ' H') ∧ σ[0]? = some (some (.ref f)) ∧ H c' = some (CodeO c' q) ∧ tl Ech H Dn.rt)
      rfl rfl nd h1 hl ⟨hgl, hde, .inl ok.base⟩ LamX.takes0 (fun W pn xe tk _ => ?_) (fun ea oe cls d pn hz hf => ?_)), ?_⟩
  · refine ⟨fun pins s' σ H' Dn I h' => ?_⟩
    obtain ⟨Ech, hW, e1, e2, e3⟩ := h'
    have tk2 : Takes ((cxOf C8.CX0 X.prog X.w X.K X.mg X.base Ng x sg g cdg X.A X.stack s H C8.E0).tr pn xe) (fun cls d σ' H' => σ'.length = 2 → W cls d σ' H') := fun u s2 y => by
      obtain ⟨b1, b2, b3, b4, b5, b6, b7, b8, b9, b10, b11, b12, b13, b14, b15, b16, b17⟩ := y
      exact tk u s2 ⟨b1, b2, b3, b4, b5, b6, b7, b8, b9, b10, b11, b12, b13, b14, b15, b16, b17 (b10.len.trans hlen)⟩
    exact (pss_one (ps_ret (pos := p3) (act _ pn xe Ech p1 p2 tk2 (fun cls d σ' H' y ln => hW cls d σ' H' ln y)))).run pins s' σ H' Dn I ⟨e1, e2, e3⟩
  · refine ⟨fun pins s' σ H' Dn I h' => ?_⟩
    obtain ⟨rfl, rfl, e3, e4⟩ := h'
    have ci := call_isE (X := (cxOf C8.CX0 X.prog X.w X.K X.mg X.base Ng x sg g cdg X.A X.stack s H C8.E0).nox) (a := ea) (pn := pn) ok.exc hz hf
    have vis : Vis sg en := .inl hl
    have pe := pe_ifExp (X := ((cxOf C8.CX0 X.prog X.w X.K X.mg X.base Ng x sg g cdg X.A X.stack s H C8.E0).nox).suite ea ((ea, oe) :: pn)) (pos := p13) (pt_val (pe_callB (p := p9) (pos := p12) ci hgi ok.isi (by decide +kernel) (pa_cons (pe_var (i := 1) (pos := p10) h1 vis hd1 hc1) (pa_cons (pe_glob (pos := p11) (v := .ref (He.ga X.K D)) hgd ok.cls rfl hdd) pa_nil)))) (pe_str (x := ret) (j := j) (pos := p5)) (pe_str (x := oth) (j := j2) (pos := p6))
    refine (pss_one (ps_ret (pos := p14) pe)).run pins s' σ H' Dn I ?_
    exact ⟨_, e3, .ref (He.ga X.K D), .ref (He.ga X.K D), true, rfl, fun u r => r, ok.kit, true, rfl, e4⟩
  · refine ⟨wishD X.K (D, none) ret Q, fun cls d σ' H' ln ⟨e1, e2, e3⟩ => ?_, h0 f, hc, h⟩
    refine ⟨true, by rw [e1]; exact ok.exm, fun _ ea na => ⟨e1, e2, ?_, e3⟩, fun z => nomatch z⟩
    rw [List.getElem?_set_self (by rw [ln]; decide)]
section
variable {X : Cx} {B : Bx} {ρ : Er}
/-- x(lambda: body), x the def that tells -/
theorem lamcall2 {D : Wx} {ret x a : Str} {g c P : Addr} {k : Nat} {pg : Arguments} {bg : List Stmt} {sg : Scope} {dV kV doc pm cdv ct oc : Value} {an od : Option Addr} {osl : Array (Option Value)} {Ng : List Str}
    {params : Arguments} {body : Expr} {scope : Scope} {t : XK → TE} {p lpos pos : Pos} (hg : Gl X x) (hm : X.mg x = some (.ref g)) (hk : PySem.W.keepIn X.K (.ref g) = true)
    (lk : X.K.lookup g = some ⟨oc, od, .func (PySem.W.fnOf x x pg bg sg dV kV doc pm an cdv ct), osl⟩) (hcg : PySem.W.codeIn X.K cdv x = true) (hb : L2.Binds X.K (PySem.W.fnOf x x pg bg sg dV kV doc pm an cdv ct) [a] []) (Sg : FnScope Ng [a] sg) (hNg : Ng[0]? = some a) (hva : Vis sg a)
    (hG : GivesTo X Ng x sg g cdv bg a (X.env.qual ++ "<lambda>") (TTx X.K D ret)) (hL : B.L = some (P, X.env.qual ++ "<lambda>")) (hI : ∃ j, B.I0 j = some P)
    (TB : TabB X.base X.mg c P) (hcode : X.env.code = .ref c) (hr : Room (k + 2) X.A) (L : LamS X.env.scope scope) (hdef : defaultsOf params X.env = ([], []))
    (hbind : ∀ (q : Str) (cl : List (Str × Addr)) (pm cv ctv : Value), bindArgs (PySem.W.kla_fn "<lambda>" q params body scope cl pm cv ctv) ⟨[], []⟩ = pure [])
    (hbody : ∀ (A : Around) (outer : List Env) (s : Shared) (H : Hp) (E : XK) (f c1 : Addr), Room k (A.deeper (lamEnv X scope s.heap.objs.size f c1)) → PE (lamCx X A outer s H E scope f c1) body (t E))
    (hdb : (x == ("__debug__" : Str)) = false) (hd : (a == ("__debug__" : Str)) = false) (hcd : (a == ("__classdict__" : Str)) = false) :
    PE X (.Call (.Name x p) [.Lambda params body scope lpos] [] pos) (fun σ H Q => ∃ om, Rel X.K B ρ om σ H ∧ ∀ H1, Stp B om H om H1 → Rel X.K B ρ om σ H1 → t (wishD X.K D ret Q) σ H1 Q) := by
  refine ⟨fun pins s σ H Q I h => ?_⟩
  obtain ⟨om, R, h⟩ := h
  refine wpAny_Call_Name_kw (ld_glob I hg hm ?_ hdb)
  refine PySem.W.callWith_K (h₀ := X.base) I.ok.mod.kin hk ?_ (by rfl) (by rfl)
  show wpAny _ _ (spliced ((false, eval (.Lambda params body scope lpos) X.env) :: backTo pos (starEach [] X.env))) _ _ s
  refine Calls.spliced_cons (lam_rel I R hL hI TB hcode hdef (L.has I.ok) fun f c1 pm2 ctv H1 s1 I1 R1 S1 hf hfn hfr hco _ _ => ?_)
  refine Calls.spliced_nil ⟨I1.kIn, ?_⟩
  have rc : codeAny (model X.prog X.w) X.A (.call (.ref g) ⟨[.ref f], []⟩) (CR C8.CX0 X.stack X.prog X.w H1 s1 Q C8.E0) s1 := by
    refine run_ofS (N := Ng) (ps := [a]) (us := [.ref f]) (vs := [.ref f]) lk hcg Sg hr I1.env0 (hb s1 [.ref f] I1.kIn rfl) (.cons rfl .nil) rfl fun hr2 => ?_
    obtain ⟨t2, ht2, hq2⟩ := hG f c1 s1 H1 Q (fun E H2 Q2 => t E σ H2 Q2) (fun W pn xe E p1 p2 tk hW => pe_act (i := 0) I1 L hf hfn hfr (hbind _ _ _ _ _) tk hW hr2 (fun A outer s H hr3 => hbody A outer s H E f c1 hr3) hNg hva hd hcd) hco (h H1 S1 R1)
    exact ⟨t2, ht2.nox, hq2⟩
  refine wpAny_call (codeAny_mono rc fun r s2 hq => ?_)
  cases r with
  | error e => exact (show False from hq).elim
  | ok fl =>
    cases fl with
    | ret u => exact I1.after hq
    | next => exact False.elim hq
    | brk => exact False.elim hq
    | cont => exact False.elim hq
def fTold (fv : FE) (fx : FX) (D : Wx) (ret : Str) : FE := fun ρ => match fx ρ with
  | some (w, ρ1) => if w = D then some (.v (.str ret), ρ1) else none
  | none => (fz fv ρ).map fun p => (.v p.1, p.2)
theorem ev_told {D : Wx} {ret x a : Str} {g c P : Addr} {k : Nat} {pg : Arguments} {bg : List Stmt} {sg : Scope} {dV kV doc pm cdv ct oc : Value} {an od : Option Addr} {osl : Array (Option Value)} {Ng : List Str}
    {params : Arguments} {body : Expr} {scope : Scope} {fv : FE} {fx : FX} {p lpos pos : Pos} (hg : Gl X x) (hm : X.mg x = some (.ref g)) (hk : PySem.W.keepIn X.K (.ref g) = true)
    (lk : X.K.lookup g = some ⟨oc, od, .func (PySem.W.fnOf x x pg bg sg dV kV doc pm an cdv ct), osl⟩) (hcg : PySem.W.codeIn X.K cdv x = true) (hb : L2.Binds X.K (PySem.W.fnOf x x pg bg sg dV kV doc pm an cdv ct) [a] []) (Sg : FnScope Ng [a] sg) (hNg : Ng[0]? = some a) (hva : Vis sg a)
    (hG : GivesTo X Ng x sg g cdv bg a (X.env.qual ++ "<lambda>") (TTx X.K D ret)) (hL : B.L = some (P, X.env.qual ++ "<lambda>")) (hI : ∃ j, B.I0 j = some P)
    (TB : TabB X.base X.mg c P) (hcode : X.env.code = .ref c) (hr : Room (k + 2) X.A) (L : LamS X.env.scope scope) (hdef : defaultsOf params X.env = ([], []))
    (hbind : ∀ (q : Str) (cl : List (Str × Addr)) (pm cv ctv : Value), bindArgs (PySem.W.kla_fn "<lambda>" q params body scope cl pm cv ctv) ⟨[], []⟩ = pure [])
    (hV : ∀ (A : Around) (outer : List Env) (s : Shared) (H : Hp) (E : XK) (f c1 : Addr), Room k (A.deeper (lamEnv X scope s.heap.objs.size f c1)) → EV (lamCx X A outer s H E scope f c1) B body fv)
    (hX : ∀ (A : Around) (outer : List Env) (s : Shared) (H : Hp) (E : XK) (f c1 : Addr), Room k (A.deeper (lamEnv X scope s.heap.objs.size f c1)) → EXe (lamCx X A outer s H E scope f c1) B E body fx)
    (hdb : (x == ("__debug__" : Str)) = false) (hd : (a == ("__debug__" : Str)) = false) (hcd : (a == ("__classdict__" : Str)) = false) :
    EV X B (.Call (.Name x p) [.Lambda params body scope lpos] [] pos) (fTold fv fx D ret) := fun ρ h ρ' q => by
  unfold fTold at q
  cases e : fx ρ with
  | none =>
    rw [e] at q
    obtain ⟨⟨d, ρ1⟩, e1, q⟩ := Option.map_eq_some_iff.mp q
    cases q
    refine pe_imp (lamcall2 (B := B) (ρ := ρ) (t := fun _ => tV X B ρ d ρ1) hg hm hk lk hcg hb Sg hNg hva hG hL hI TB hcode hr L hdef hbind (fun A outer s H E f c1 hr3 => (hV A outer s H E f c1 hr3).fz e1) hdb hd hcd) fun σ H Q ⟨om, R, kk⟩ => ⟨om, R, fun H1 S1 R1 => ?_⟩
    exact ⟨om, R1, fun v H2 om2 S2 R2 r => kk v H2 om2 (S1.trans S2) R2 r⟩
  | some z =>
    obtain ⟨w, ρ1⟩ := z
    rw [e] at q
    replace q : (if w = D then some (Hd.v (.str ret), ρ1) else none) = some (h, ρ') := q
    split at q
    · rename_i ew
      cases q
      subst ew
      refine pe_imp (lamcall2 (B := B) (ρ := ρ) (t := fun E σ H _ => ∃ om, Rel X.K B ρ om σ H ∧ ∀ H' om', Stp B om H om' H' → Rel X.K B ρ' om' σ H' → ExW X.K E w H') hg hm hk lk hcg hb Sg hNg hva hG hL hI TB hcode hr L hdef hbind (fun A outer s H E f c1 hr3 => hX A outer s H E f c1 hr3 ρ w ρ' e) hdb hd hcd) fun σ H Q ⟨om, R, kk⟩ => ⟨om, R, fun H1 S1 R1 => ?_⟩
      exact ⟨om, R1, fun H2 om2 S2 R2 => wish_of (kk _ H2 om2 (S1.trans S2) R2 (.str ret))⟩
    · cases q
end
end Ev

set_option maxRecDepth 100000
set_option maxHeartbeats 4000000
namespace Ev
open PySem PySem.Spec PyProof.Rows L2
/-! ### a law that makes lambdas: its own table stands apart -/
def spFL (K : PySem.W.Frag) (T : List Addr) (PT : Addr) (F : Fn) : Sp := fun vs H Q _ => ∃ (Ex : Addr → Prop) (ds : List D) (r : D) (outs : List D),
  Fresh Ex H ∧ (∀ P ∈ T, Ex P) ∧ (∀ P ∈ T, GxR.TabG H P) ∧ Ex PT ∧ H PT = some (.tbl #[]) ∧ ARep K H Ex F.ios ds vs ∧ F.g ds = some (r, outs) ∧ ∀ v H', Rep K H' Ex r v → Q v H'
theorem start_relL {K : PySem.W.Frag} {T : List Addr} {PT : Addr} {q : Str} {ios : List Bool} {ds : List D} {vs : List V} {Ex : Addr → Prop} {H : Hp} {m : Nat} {r : List (Option V)} (hm : r = List.replicate m none) (fr : Fresh Ex H) (tx : ∀ P ∈ T, Ex P) (tt : ∀ P ∈ T, GxR.TabG H P) (ar : ARep K H Ex ios ds vs)
    (no : ios.all (!·) = true) (xP : Ex PT) (hP : H PT = some (.tbl #[])) (nP : PT ∉ T) : Rel K ⟨T, Ex, H, fun i => if i = 0 then some PT else none, some (PT, q)⟩ (startR ios ds ++ List.replicate m .un) ⟨ioA ios vs, []⟩ (vs.map some ++ r) H := by
  have R := start_rel (K := K) hm fr tx tt ar (fun i j a e _ => by rw [ioA_no no] at e; cases e)
  have none_ : ∀ i a, ioA ios vs i ≠ some a := fun i a e => by rw [ioA_no no] at e; cases e
  refine ⟨R.len, R.val, R.own, fun i d e => ?_, R.inj, fun i a e => absurd e (none_ i a), R.exd, fun a o e _ _ => e, R.tabs, R.tx, R.ex0, R.fin, fun j a e => ?_, fun P2 q2 e => ?_⟩
  · obtain ⟨a, e0, _⟩ := R.io i d e
    exact absurd e0 (none_ i a)
  · replace e : (if j = 0 then some PT else none) = some a := e
    split at e
    · cases e
      rw [hP]
      exact fun z => nomatch z
    · cases e
  · cases e
    exact ⟨xP, nP, fun i => none_ i _, #[], hP, trivial, fun p cv hc => by
      have z : codeAmong p [] = some cv := hc
      simp [codeAmong] at z⟩
section
variable {P : Program} {w : World} {K : PySem.W.Frag} {mg : Str → Option Value} {base : Heap} {x qual : Str} {params : Arguments} {body : List Stmt} {scope : Scope} {fd : FuncData} {p : He.Defn}
theorem fn_okL {N ps : List Str} {k : Nat} {T : List Addr} {PT : Addr} {ios : List Bool} {fb : FS} (F : FunD K x qual params body scope [] [] (He.fAd K p) fd) (S : FnScope N ps scope) (hi : ios.length = ps.length) (hl : ps.length ≤ N.length) (nP : PT ∉ T) (no : ios.all (!·) = true)
    (hb : ∀ (A : Around) (outer : List Env) (s : Shared) (H : Hp) (E : XK) (Ex0 : Addr → Prop) (H0 : Hp) (I0 : Nat → Option Addr), (∃ j, I0 j = some PT) → Room k (A.deeper (envOfC qual scope s.heap.objs.size (He.fAd K p) (.ref (He.codeOf K p)))) →
      ESs (cxOf CX0 P w K mg base N qual scope (He.fAd K p) (.ref (He.codeOf K p)) A outer s H E).nox ⟨T, Ex0, H0, I0, some (PT, (envOfC qual scope s.heap.objs.size (He.fAd K p) (.ref (He.codeOf K p))).qual ++ "<lambda>")⟩ body fb) : FnOk P w K mg base CX0 (k + 1) (He.fAd K p) fd ps (spFL K T PT ⟨ios, gDef N.length ios fb⟩) := by
  obtain ⟨oc, od, dV, kV, doc, pm, an, cdv, ct, osl, rfl, lk, hcd, _, _⟩ := F.ex
  obtain ⟨c, rfl⟩ := He.codeIn_ref hcd
  have ec : He.codeOf K p = c := He.codeOf_eq lk rfl
  rw [ec] at hb
  refine fn_of lk hcd S (fun vs H Q E ⟨Ex, ds, r, outs, _, _, _, _, _, ar, _⟩ => by rw [ar.len.2]; exact hi) fun A outer s H vs Q E hr h => ?_
  obtain ⟨Ex, ds, r, outs, fr, tx, tt, xP, hP, ar, g, k⟩ := h
  replace g : gDef N.length ios fb ds = some (r, outs) := g
  unfold gDef at g
  rw [if_pos ar.len.1] at g
  obtain ⟨rr, e1, g⟩ := Option.bind_eq_some_iff.mp g
  refine ⟨_, PSs.nox (hb A outer s H E Ex H (fun i => if i = 0 then some PT else none) ⟨0, rfl⟩ hr _ _ e1), ⟨ioA ios vs, []⟩, ?_, rfl, ?_⟩
  · unfold L2.start
    refine start_relL (m := N.length - ios.length) ?_ fr tx tt ar no xP hP nP
    rw [ar.len.2]
  · cases rr with
    | ret d ρ' =>
      simp only at g
      split at g
      · cases g
        exact fun v σ' H' om' s R rp => k v H' (rp.less fun a z => .inl z)
      · cases g
    | nx ρ' =>
      simp only at g
      split at g
      · cases g
        exact fun σ' H' om' s R t => k .non H' .non
      · cases g
    | bk ρ' => cases g
    | ct ρ' => cases g
end
/-- what is told of such a law at the head's end; tc: the defs with tables but the law, t0 the law -/
theorem law_atL {l : PySem.W.OpenLaw} {w : World} {K : PySem.W.Frag} {mg : Str → Option Value} {h : Heap} {f : Addr} {fa : List He.Fa} {fn : List He.DefD} {tc : List He.Defn} {t0 : He.Defn} {ex : PySem.W.Frag → Bool} {k n : Nat} {x : Str} {F : Fn} {fd : FuncData}
    (KX : K.In h) (c : He.SaysX fa fn [] (t0 :: tc) ex w h K) (hb : ∀ (s : Shared) (u : Value), BindsTo s fd ⟨[u], []⟩ [(x, u)])
    (hF : ∀ (base : Heap) (T : List Addr), LC K mg base T fa fn tc → (He.cT K t0).2 ∉ T → LamX.TabB base mg (He.codeOf K t0) (He.cT K t0).2 → FnOk l.prog w K mg base CX0 k f fd [x] (spFL K T (He.cT K t0).2 F)) (io : F.ios = [false])
    (hne : ∀ p ∈ tc, (He.cT K p).2 ≠ (He.cT K t0).2)
    (hg : ∀ ns : List Int, ns.length ≤ n → ∃ outs, F.g [.list (ns.map .int)] = some (.bool true, outs)) : LamX.LawAtS l w K CX0 k n x mg f h := by
  refine ⟨fd, (t0 :: tc).map (He.cT K), spFL K (tc.map fun p => (He.cT K p).2) (He.cT K t0).2 F, fun p hp => ?_, fun p hp => ?_, fun p hp => ?_, hb, fun H a ns hn _ hH hS => ?_, fun base kb nb tb => ?_⟩
  · obtain ⟨q, hq, rfl⟩ := List.mem_map.mp hp
    exact c.empty q hq
  · obtain ⟨q, hq, rfl⟩ := List.mem_map.mp hp
    exact c.out q hq
  · obtain ⟨q, hq, rfl⟩ := List.mem_map.mp hp
    exact PySem.W.codeHd_of_K KX (c.hd q hq)
  · obtain ⟨outs, e⟩ := hg ns hn
    have hta : ∀ q ∈ t0 :: tc, H (He.cT K q).2 = some (.tbl #[]) := fun q hq => hH _ (List.mem_map.mpr ⟨q, hq, rfl⟩)
    have ht : ∀ P ∈ (tc.map fun p => (He.cT K p).2), H P = some (.tbl #[]) := fun P hP => by
      obtain ⟨q, hq, rfl⟩ := List.mem_map.mp hP
      exact hta q (List.mem_cons_of_mem _ hq)
    have hs : (Rd H a (.lst (ns.map V.int)) ∧ ¬ a ∈ ((t0 :: tc).map fun p => (He.cT K p).2)) ∨ KL K a (ns.map V.int) := by
      rcases hS with r | r
      · refine .inl ⟨r, fun z => ?_⟩
        obtain ⟨q, hq, rfl⟩ := List.mem_map.mp z
        have z := hta q hq
        rcases r with r | ⟨o, r⟩ <;> · rw [r] at z; cases z
      · exact .inr r
    have ar : ARep K H (fun b => b ∈ ((t0 :: tc).map fun p => (He.cT K p).2)) F.ios [.list (ns.map .int)] [.ref a] := by
      rw [io]
      exact .val (.lst hs (reps_int_l ns)) .nil
    refine ⟨fun b => b ∈ ((t0 :: tc).map fun p => (He.cT K p).2), _, _, outs, fun b hb => ?_, fun P hP => ?_, fun P hP => ⟨#[], ht P hP, trivial⟩, List.mem_map.mpr ⟨t0, List.mem_cons_self, rfl⟩, hta t0 List.mem_cons_self, ar, e, fun v H' r => ?_⟩
    · obtain ⟨q, hq, rfl⟩ := List.mem_map.mp hb
      exact ⟨_, hta q hq, fun _ z => nomatch z⟩
    · obtain ⟨q, hq, rfl⟩ := List.mem_map.mp hP
      exact List.mem_map.mpr ⟨q, List.mem_cons_of_mem _ hq, rfl⟩
    · cases r
      rfl
  · have tt : ∀ q ∈ t0 :: tc, LamX.TabB base mg (He.codeOf K q) (He.cT K q).2 := fun q hq => tb _ (List.mem_map.mpr ⟨q, hq, rfl⟩)
    refine hF base _ ⟨c.t.d, kb, nb, fun p hp => ?_, fun p hp => List.mem_map.mpr ⟨p, hp, rfl⟩⟩ (fun z => ?_) (tt t0 List.mem_cons_self)
    · have t := tt p (List.mem_cons_of_mem _ hp)
      exact ⟨t.code, t.bm, t.gP⟩
    · obtain ⟨q, hq, e⟩ := List.mem_map.mp z
      exact hne q hq e
/-! ### the facts of classes, as a test of the standing heap -/
def tellB (Base D : Str) (K : PySem.W.Frag) : Bool :=
  decide (PySem.W.findIn K (.ref (He.ga K D)) "__getattribute__" = some (some (.builtin "BaseException.__getattribute__"))) && (decide (PySem.W.findIn K (.ref (He.ga K D)) "__getattr__" = some none) && (decide (PySem.W.hasDictIn K (He.ga K D) = true) &&
    (decide (PySem.W.findIn K (.ref (He.ga K D)) "__class__" = some (some (.builtin "object.__class__"))) && (decide (PySem.W.specialIn K (.builtin "object.__class__") "__get__" = some (some (.builtin "getset_descriptor.__get__"))) &&
      (decide (PySem.W.takesIn K (.builtin "object.__class__") = some true) && (decide (PySem.W.mroIn K (He.ga K D) (.type "object") = some true) && decide (PySem.W.kitOne K (.ref (He.ga K D)) (.ref (He.ga K D)) = some true)))))))
theorem tell_of {K : PySem.W.Frag} {mg : Str → Option Value} {Base D : Str} (h : tellB Base D K = true) (b : mg Base = some (.ref (He.ga K Base))) (c : mg D = some (.ref (He.ga K D))) (i : mg "isinstance" = none) (e : PySem.W.exmOne K (.ref (He.ga K D)) (.ref (He.ga K Base)) = some true)
    (s : PySem.W.subIn K (.ref (He.ga K D)) (.type "BaseException") = some true) : TellOk K mg Base D := by
  unfold tellB at h
  simp only [Bool.and_eq_true, decide_eq_true_eq] at h
  obtain ⟨h1, h2, h3, h4, h5, h6, h7, h8⟩ := h
  exact ⟨b, c, i, e, ⟨h1, h2, s, h3, h4, h5, h6, h7⟩, h8⟩
/-- the tables of the other defs are not the law's -/
def apartB (t0 : He.Defn) (tc : List He.Defn) (K : PySem.W.Frag) : Bool := tc.all fun p => !decide ((He.cT K p).2 = (He.cT K t0).2)
theorem apart_ok {t0 : He.Defn} {tc : List He.Defn} {K : PySem.W.Frag} (h : apartB t0 tc K = true) : ∀ p ∈ tc, (He.cT K p).2 ≠ (He.cT K t0).2 := fun p hp e => by
  have := List.all_eq_true.mp h p hp
  rw [e] at this
  simp at this
end Ev

set_option maxRecDepth 100000
namespace Ev
open PySem PySem.Spec PyProof.Rows L2
/-! ### what is raised, step by step -/
section
variable {f : FS} {a b : FX} {ρ ρ' ρ1 : Er} {r : Option (Wx × Er)} {z : Wx × Er} {w : Wx} {d : D} {n m : Nat} {gc : FT} {c : Bool} {fs : FA} {ios : List Bool} {R : List D → Option Wx} {hs : List Hd} {ds : List D} {fv : FE} {fx : FX} {Dn : Wx} {ret : Str}
theorem x_next (ha : a ρ = none) (hf : f ρ = some (.nx ρ')) (hb : b ρ' = r) : xSeq f a b ρ = r := by simp only [xSeq, ha, hf, Option.bind_some, hb]
theorem x_here (ha : a ρ = some z) : xSeq f a b ρ = some z := by simp only [xSeq, ha]
theorem x_stop (ha : a ρ = none) (hf : f ρ = some (.ret d ρ')) : xSeq f a b ρ = none := by simp only [xSeq, ha, hf, Option.bind_some]
theorem x_ifP (h : gc ρ = some (c, ρ')) (hc : c = true) (ha : a (ρ'.take n) = r) : xIf n gc a b ρ = r := by
  subst hc
  simp only [xIf, h, Option.bind_some, if_true, ha]
theorem x_ifN (h : gc ρ = some (c, ρ')) (hc : c = false) (hb : b (ρ'.take n) = r) : xIf n gc a b ρ = r := by
  subst hc
  simp only [xIf, h, Option.bind_some, hb]
  rfl
theorem x_call (h1 : fs ρ = some (hs, ρ1)) (h2 : argsOf ios hs ρ1 = some ds) (h3 : R ds = some w) : xCall fs ios R ρ = some (w, ρ1) := by simp only [xCall, h1, h2, h3, Option.bind_some, Option.map_some]
theorem x_callN (h1 : fs ρ = some (hs, ρ1)) (h2 : argsOf ios hs ρ1 = some ds) (h3 : R ds = none) : xCall fs ios R ρ = none := by simp only [xCall, h1, h2, h3, Option.bind_some, Option.map_none]
theorem gX_some (hl : ds.length = ios.length) (h : fx (startR ios ds ++ List.replicate (m - ios.length) .un) = some (w, ρ1)) : gX m ios fx ds = some w := by
  unfold gX
  rw [if_pos hl, h]
  rfl
theorem gX_none (hl : ds.length = ios.length) (h : fx (startR ios ds ++ List.replicate (m - ios.length) .un) = none) : gX m ios fx ds = none := by
  unfold gX
  rw [if_pos hl, h]
  rfl
theorem v_toldX (h1 : fx ρ = some (Dn, ρ1)) : fTold fv fx Dn ret ρ = some (.v (.str ret), ρ1) := by
  simp only [fTold, h1, if_true]
theorem v_toldV (h1 : fx ρ = none) (h2 : fv ρ = some (.v d, ρ1)) : fTold fv fx Dn ret ρ = some (.v d, ρ1) := by
  simp only [fTold, h1, fz, h2, Option.bind_some, frz, Option.map_some]
theorem r_at {ds0 : List D} {o : Option Wx} (h : R ds0 = o) (e : ds = ds0) : R ds = o := e ▸ h
end
end Ev

set_option maxRecDepth 100000
set_option maxHeartbeats 4000000
namespace Ev
open PySem PySem.Spec PyProof.Rows L2 LamX
/-! ### an exception whose own __init__ keeps a field -/
def oexB (K : PySem.W.Frag) (C : Addr) (f : Str) : Bool := (match K.lookup C with
  | some ⟨.type "type", _, .cls cd, sl⟩ => (match cd.mro, sl.toList with
    | .ref C1 :: bm, [_, _, _, _, some (.builtin n), _] => C1 == C && (n == "ValueError.__new__" && (!cd.hasDel && (cd.hasDict && PySem.HandSPX.refsVE bm)))
    | _, _ => false)
  | _ => false) && (decide (PySem.W.findIn K (.ref C) "__setattr__" = some (some (.builtin "object.__setattr__"))) && (decide (PySem.W.subIn K (.ref C) (.type "BaseException") = some true) && (decide (PySem.W.typeIn K (.ref C) = some (.type "type")) && (PySem.W.keepIn K (.ref C) && decide (PySem.W.findIn K (.ref C) f = some none)))))
theorem oexB_ok {K : PySem.W.Frag} {C : Addr} {f : Str} (h : oexB K C f = true) : OexC K C ∧ PySem.W.findIn K (.ref C) f = some none := by
  unfold oexB at h
  obtain ⟨h0, h⟩ := Bool.and_eq_true_iff.mp h
  obtain ⟨h1, h⟩ := Bool.and_eq_true_iff.mp h
  obtain ⟨h2, h⟩ := Bool.and_eq_true_iff.mp h
  obtain ⟨h3, h⟩ := Bool.and_eq_true_iff.mp h
  obtain ⟨h4, h5⟩ := Bool.and_eq_true_iff.mp h
  refine ⟨⟨?_, of_decide_eq_true h1, of_decide_eq_true h2, of_decide_eq_true h3, h4⟩, of_decide_eq_true h5⟩
  split at h0
  · rename_i dd cd sl ho
    split at h0
    · rename_i C1 bm k0 k1 k2 k3 n k5 hm hs
      simp only [Bool.and_eq_true, beq_iff_eq, Bool.not_eq_true'] at h0
      obtain ⟨rfl, rfl, hdel, hdict, hr⟩ := h0
      obtain ⟨nm, bs, mro, ns, qn, hd, sn, sub, ab, col, del⟩ := cd
      dsimp only at hm hdel hdict
      subst hm hdel hdict
      have hsl : sl = #[k0, k1, k2, k3, some (.builtin "ValueError.__new__"), k5] := by
        obtain ⟨l⟩ := sl
        simp only at hs
        rw [hs]
      subst hsl
      exact ⟨nm, qn, ns, bs, bm, sn, sub, ab, col, dd, k0, k1, k2, k3, k5, ho, hr⟩
    · cases h0
  · cases h0
/-- what __init__ promises -/
def spIn (C : Addr) (f : Str) : Sp := fun vs H Q _ => ∃ (a : Addr) (v : V), vs = [.ref a, v] ∧ H a = some (exo a C none) ∧ ∀ dx, H dx = none → dx ≠ a → Q .non (upd (upd H dx (exd dx [(f, v)])) a (exo a C (some dx)))
theorem init_ok {P : Program} {w : World} {K : PySem.W.Frag} {mg : Str → Option Value} {base : Heap} {k : Nat} {C : Addr} {x qual f sn vn : Str} {params : Arguments} {scope : Scope} {fd : FuncData} {p : He.Defn} {p1 p2 p3 p4 : Pos}
    (F : FunD K x qual params [.Assign [.Attribute (.Name sn p1) f p2] (.Name vn p3) p4] scope [] [] (He.fAd K p) fd) (S : FnScope [sn, vn] [sn, vn] scope) (T : OexC K C) (hno : PySem.W.findIn K (.ref C) f = some none)
    (hs : ∀ (f1 : Addr) (cd : Value) (A : Around) (outer : List Env) (s : Shared) (H : Hp) (E : XK), swapsWith (.Name vn p3) (some (.Attribute (.Name sn p1) f p2)) p4.line (cxOf CX0 P w K mg base [sn, vn] qual scope f1 cd A outer s H E).env = pure false)
    (v1 : Vis scope sn) (v2 : Vis scope vn) (d1 : (sn == ("__debug__" : Str)) = false) (d2 : (sn == ("__classdict__" : Str)) = false) (d3 : (vn == ("__debug__" : Str)) = false) (d4 : (vn == ("__classdict__" : Str)) = false) :
    FnOk P w K mg base CX0 (k + 1) (He.fAd K p) fd [sn, vn] (spIn C f) := by
  obtain ⟨oc, od, dV, kV, doc, pm, an, cdv, ct, osl, rfl, lk, hcd, _, _⟩ := F.ex
  refine fn_of lk hcd S (fun vs H Q E ⟨a, v, e, _⟩ => by rw [e]; rfl) fun A outer s H vs Q E hr h => ?_
  obtain ⟨a, v, rfl, ha, k⟩ := h
  refine ⟨_, pss_one (ps_ost (pe_var (i := 0) rfl v1 d1 d2) (pe_var (i := 1) rfl v2 d3 d4) (hs _ _ _ _ _ _ _)), ?_⟩
  exact ⟨v, rfl, .ref a, rfl, a, C, rfl, T, hno, .inl ⟨ha, fun dx h1 h2 => k dx h1 h2⟩⟩
def xArg (fa : FE) (x f : Str) : FX := fun ρ => (fz fa ρ).bind fun p => match p.1 with
  | .int i => some ((x, some (f, i)), p.2)
  | _ => none
theorem ex_raiseI {X : Cx} {B : Bx} {E : XK} {x f : Str} {e : Expr} {fa : FE} {fd : FuncData} {fI : Addr} {ps : List Str} {k : Nat} {p pos pos' : Pos} (hc : X.calm = true) (tk : Takes X (fun cls d _ H => E cls d H)) (T : OexC X.K (He.ga X.K x)) (iC : PySem.W.findIn X.K (.ref (He.ga X.K x)) "__init__" = some (some (.ref fI)))
    (tI : PySem.W.typeIn X.K (.ref fI) = some (.type "function")) (F1 : FnOk X.prog X.w X.K X.mg X.base CX0 k fI fd ps (spIn (He.ga X.K x) f)) (hb : L2.Binds X.K fd ps []) (hr : Room (k + 1) X.A) (hm : X.mg x = some (.ref (He.ga X.K x))) (hg : Gl X x) (ha : EV X B e fa) (hdb : (x == ("__debug__" : Str)) = false)
    (he : starEach [e] X.env = (false, eval e X.env) :: starEach [] X.env) : EXS X B E (.Raise (some (.Call (.Name x p) [e] [] pos)) none pos') (xArg fa x f) := fun ρ w ρ1 q => by
  unfold xArg at q
  obtain ⟨⟨d, ρ2⟩, e1, q⟩ := Option.bind_eq_some_iff.mp q
  cases d with
  | int i =>
    cases q
    refine ps_imp (ps_raise hc tk (pmk_oex T iC tI F1 hr hb .nil (fun _ _ _ _ _ _ _ h => h.elim) hg hm (pa_cons (ha.fz e1) pa_nil he) hdb he rfl)) fun D σ H ⟨om, R, t, kk⟩ => ⟨om, R, fun v H1 om1 s1 R1 r1 => ?_⟩
    cases r1
    refine ⟨(by show 1 ≤ 1000; omega), fun a n1 => ⟨a, .int i, rfl, upd_same, fun dx hdx hne => ⟨rfl, dx, [(f, .int i)], upd_same, by rw [upd_ne hne]; exact upd_same, by rw [upd_ne hne] at hdx; exact hdx, ?_⟩⟩⟩
    have hd1 : H1 dx = none := by rw [upd_ne hne] at hdx; exact hdx
    have same : ∀ b o, H1 b = some o → upd (del (upd (upd (upd H1 a (exo a (He.ga X.K x) none)) dx (exd dx [(f, .int i)])) a (exo a (He.ga X.K x) (some dx))) a) dx (.xd [(f, .int i)]) b = some o := fun b o eb => by
      have y1 : b ≠ dx := ne_of_none eb hd1
      have y2 : b ≠ a := ne_of_none eb n1
      rw [upd_ne y1, del_ne y2, upd_ne y2, upd_ne y1, upd_ne y2]
      exact eb
    exact (kk.at s1) _ om1 ρ2 σ (.same same) (R1.same same) dx upd_same
  | none => cases q
  | bool b => cases q
  | str b => cases q
  | list b => cases q
  | tuple b => cases q
  | dict b => cases q
/-- isinstance(e, c), e an exception with its own dict -/
theorem call_isED {X : Cx} {a C dd : Addr} {oe : Obj} {pn : List (Addr × Obj)} (c : ExcC X.K C) (hz : Zc (.ref C) (some dd) oe) (hf : ∃ vs, oe.data = .fields vs) :
    CallR (X.suite a ((a, oe) :: pn)) (.builtin "isinstance") (fun xs H Q => ∃ (y : V) (cv : Value) (b : Bool) (fs : List (Str × V)), xs = [.ref a, y] ∧ (∀ u, RelV y u → u = cv) ∧ PySem.W.kitOne X.K (.ref C) cv = some b ∧ H dd = some (.xd fs) ∧ Q (.bl b) H) := by
  intro pins s σ H xs us Q I r h
  obtain ⟨y, cv, b, fs, rfl, hcv, e, hx, q⟩ := h
  cases r with
  | cons rx rr =>
    cases rr with
    | cons rt rr =>
      cases rr
      cases rx
      obtain rfl := hcv _ rt
      obtain ⟨hget, _⟩ := I.pin (a, oe) (List.mem_append.mpr (.inl List.mem_cons_self))
      obtain ⟨vs, hv⟩ := hf
      have ho : ObjOk X.prog X.w H s.heap dd (.xd fs) := I.hok dd _ hx
      obtain ⟨mA, hns, hr⟩ := ho
      obtain ⟨od, hod, _⟩ := lookIn_ns hns
      have J : PySem.W.InstAt s.heap a oe C (some od) := ⟨hget, hz.1, by unfold PySem.W.notCls; rw [hv] <;> rfl, by rw [hz.2]; exact hod⟩
      have hcl : (PySem.W.clsIn X.K C).isSome = true := by
        obtain ⟨cd, hcd, _⟩ := PySem.W.any_some c.hd
        rw [hcd]; rfl
      exact PySem.W.kia_one (PySem.W.kitx_exc hcl c.hg c.hk c.hs c.ha c.hn c.ht c.hm) I.kIn J e (fun z => nomatch z) fun tk => ⟨.bl b, H, I.kept (t' := tk) fun _ _ z => z, rfl, q⟩
def manyB (D f : Str) (K : PySem.W.Frag) : Bool := oexB K (He.ga K D) f && (xfB K (He.ga K D) && decide (PySem.W.typeIn K (.ref (He.ma K (He.ga K D) "__init__")) = some (.type "function")))
theorem many_oex {D f : Str} {K : PySem.W.Frag} (h : manyB D f K = true) : OexC K (He.ga K D) ∧ PySem.W.findIn K (.ref (He.ga K D)) f = some none := oexB_ok (Bool.and_eq_true_iff.mp h).1
theorem many_xf {D f : Str} {K : PySem.W.Frag} (h : manyB D f K = true) : XfC K (He.ga K D) := xfB_ok (Bool.and_eq_true_iff.mp (Bool.and_eq_true_iff.mp h).2).1
theorem many_fn {D f : Str} {K : PySem.W.Frag} (h : manyB D f K = true) : PySem.W.typeIn K (.ref (He.ma K (He.ga K D) "__init__")) = some (.type "function") := of_decide_eq_true (Bool.and_eq_true_iff.mp (Bool.and_eq_true_iff.mp h).2).2
structure TellOkM (K : PySem.W.Frag) (mg : Str → Option Value) (Base D f : Str) : Prop where
  ok : TellOk K mg Base D
  xf : XfC K (He.ga K D)
  no : PySem.W.findIn K (.ref (He.ga K D)) f = some none
theorem told_givesM {X : Cx} {Ng : List Str} {x a en q ret oth Base D f : Str} {m : Int} {sg : Scope} {g : Addr} {cdg : Value} {j j2 j3 : Nat} {p1 p2 p3 p4 p5 p6 p7 p8 p9 p10 p11 p12 p13 p14 p15 p16 p17 p18 p19 : Pos} (okM : TellOkM X.K X.mg Base D f) (hgb : sg.names.lookup Base = some .globalImplicit) (hgi : sg.names.lookup ("isinstance" : Str) = some .globalImplicit)
    (hgd : sg.names.lookup D = some .globalImplicit) (hde : (Base == ("__debug__" : Str)) = false) (hdd : (D == ("__debug__" : Str)) = false) (nd : Ng.Nodup) (h1 : Ng[1]? = some en) (hl : sg.names.lookup en = some .local) (h0 : ∀ f : Addr, (L2.start Ng [V.ref f])[0]? = some (some (V.ref f))) (hlen : Ng.length = 2)
    (hd1 : (en == ("__debug__" : Str)) = false) (hc1 : (en == ("__classdict__" : Str)) = false) (hab : ∀ env : Env, attributeBase (.Name en p16) f env (eval (.Name en p16) env) = eval (.Name en p16) env) :
    GivesTo X Ng x sg g cdg [.Try [.Return (some (.Call (.Name a p1) [] [] p2)) p3] [.ExceptHandler (some (.Name Base p4)) (some en) [.Return (some (.IfExp (.BoolOp .And [.Call (.Name "isinstance" p9) [.Name en p10, .Name D p11] [] p12, .Compare (.Attribute (.Name en p16) f p17) [.Eq] [.Constant (.int m) j3 p18] p19] p15) (.Constant (.str ret) j p5) (.Constant (.str oth) j2 p6) p13)) p14] p7] [] [] p8] a q (TTx X.K (D, some (f, m)) ret) := by
  have ok := okM.ok
  intro ff c' s H Q tl act hc h
  have hgl : Gl (cxOf C8.CX0 X.prog X.w X.K X.mg X.base Ng x sg g cdg X.A X.stack s H C8.E0).nox Base := hgb
  refine ⟨_, pss_one (ps_try_as (X := (cxOf C8.CX0 X.prog X.w X.K X.mg X.base Ng x sg g cdg X.A X.stack s H C8.E0).nox) (c := .ref (He.ga X.K Base)) (i := 1)
      (ts := fun ea cls d D' σ H => cls = .ref (He.ga X.K D) ∧ (∃ dd, d = some dd ∧ H dd = some (.xd [(f, .int m)])) ∧ σ[1]? = some (some (.ref ea)) ∧ D'.rt (.str ret) H)
      (tb := fun W Dn σ H => ∃ Ech : XK, (∀ cls d σ' H', σ'.length = 2 → Ech cls d H' → W cls d σ' H') ∧ σ[0]? = some (some (.ref ff)) ∧ H c' = some (CodeO c' q) ∧ tl Ech H Dn.rt)
      rfl rfl nd h1 hl ⟨hgl, hde, .inl ok.base⟩ LamX.takes0 (fun W pn xe tk _ => ?_) (fun ea oe cls d pn hz hf => ?_)), ?_⟩
  · refine ⟨fun pins s' σ H' Dn I h' => ?_⟩
    obtain ⟨Ech, hW, e1, e2, e3⟩ := h'
    have tk2 : Takes ((cxOf C8.CX0 X.prog X.w X.K X.mg X.base Ng x sg g cdg X.A X.stack s H C8.E0).tr pn xe) (fun cls d σ' H' => σ'.length = 2 → W cls d σ' H') := fun u s2 y => by
      obtain ⟨b1, b2, b3, b4, b5, b6, b7, b8, b9, b10, b11, b12, b13, b14, b15, b16, b17⟩ := y
      exact tk u s2 ⟨b1, b2, b3, b4, b5, b6, b7, b8, b9, b10, b11, b12, b13, b14, b15, b16, b17 (b10.len.trans hlen)⟩
    exact (pss_one (ps_ret (pos := p3) (act _ pn xe Ech p1 p2 tk2 (fun cls d σ' H' y ln => hW cls d σ' H' ln y)))).run pins s' σ H' Dn I ⟨e1, e2, e3⟩
  · refine ⟨fun pins s' σ H' Dn I h' => ?_⟩
    obtain ⟨rfl, ⟨dd, rfl, hx⟩, e3, e4⟩ := h'
    have ci := call_isED (X := (cxOf C8.CX0 X.prog X.w X.K X.mg X.base Ng x sg g cdg X.A X.stack s H C8.E0).nox) (a := ea) (pn := pn) ok.exc hz hf
    have vis : Vis sg en := .inl hl
    have cl := pt_val (pe_callB (X := ((cxOf C8.CX0 X.prog X.w X.K X.mg X.base Ng x sg g cdg X.A X.stack s H C8.E0).nox).suite ea ((ea, oe) :: pn)) (p := p9) (pos := p12) ci hgi ok.isi (by decide +kernel) (pa_cons (pe_var (i := 1) (pos := p10) h1 vis hd1 hc1) (pa_cons (pe_glob (pos := p11) (v := .ref (He.ga X.K D)) hgd ok.cls rfl hdd) pa_nil)))
    have at_ := pe_xf (X := (cxOf C8.CX0 X.prog X.w X.K X.mg X.base Ng x sg g cdg X.A X.stack s H C8.E0).nox) (a := ea) (pn := pn) (pos := p17) okM.xf okM.no hz hf (pe_var (i := 1) (pos := p16) h1 vis hd1 hc1) (hab _)
    have cm := pt_cmp (X := ((cxOf C8.CX0 X.prog X.w X.K X.mg X.base Ng x sg g cdg X.A X.stack s H C8.E0).nox).suite ea ((ea, oe) :: pn)) (pos := p19) (pc_eqI at_ (pe_int (i := m) (j := j3) (pos := p18)))
    have pe := pe_ifExp (X := ((cxOf C8.CX0 X.prog X.w X.K X.mg X.base Ng x sg g cdg X.A X.stack s H C8.E0).nox).suite ea ((ea, oe) :: pn)) (pos := p13) (pw_and (pos := p15) cl (pw_and1 cm)).pt (pe_str (x := ret) (j := j) (pos := p5)) (pe_str (x := oth) (j := j2) (pos := p6))
    refine (pss_one (ps_ret (pos := p14) pe)).run pins s' σ H' Dn I ?_
    refine ⟨_, e3, .ref (He.ga X.K D), .ref (He.ga X.K D), true, [(f, .int m)], rfl, fun u r => r, ok.kit, hx, true, rfl, ?_⟩
    dsimp only
    rw [if_pos rfl]
    refine ⟨_, e3, rfl, rfl, dd, [(f, .int m)], .int m, rfl, hx, ?_, m, m, rfl, rfl, _, rfl, ?_⟩
    · simp [List.lookup]
    · dsimp only
      rw [if_pos (decide_eq_true rfl)]
      exact e4
  · refine ⟨wishD X.K (D, some (f, m)) ret Q, fun cls d σ' H' ln ⟨e1, e2, e3⟩ => ?_, h0 ff, hc, h⟩
    refine ⟨true, by rw [e1]; exact ok.exm, fun _ ea na => ⟨e1, e2, ?_, e3⟩, fun z => nomatch z⟩
    rw [List.getElem?_set_self (by rw [ln]; decide)]
end Ev

set_option maxRecDepth 100000
set_option maxHeartbeats 4000000
namespace Ev
open PySem PySem.Spec PyProof.Rows L2
section
variable {X : Cx} {B : Bx} {n : Nat} {pos : Pos}
/-- x, y, z = a, b, c: by a tuple that is taken apart (names that lambdas catch) -/
theorem es_tup3 {i j l : Nat} {x y z : Str} {a b c : Expr} {fs : FA} {px py pz pt : Pos} {kt k2 pt2} (hc : X.calm = true) (hN : X.N.Nodup) (hn : X.N.length = n) (hi : X.N[i]? = some x) (hj : X.N[j]? = some y) (hl : X.N[l]? = some z)
    (hx : Loc X.env.scope x) (hy : Loc X.env.scope y) (hz : Loc X.env.scope z) (fx : ∀ x, X.fn x = true) (h : EA X B [a, b, c] fs)
    (hw : swappedStores [.Tuple [.Name x px, .Name y py, .Name z pz] kt pt] (.Tuple [a, b, c] k2 pt2) X.env = pure none)
    (hs : swapsWithSole [.Tuple [.Name x px, .Name y py, .Name z pz] kt pt] (.Tuple [a, b, c] k2 pt2) pos.line X.env = pure false)
    (h1 : (assignEach [.Tuple [.Name x px, .Name y py, .Name z pz] kt pt] X.env).map (·.2) = [assign (.Tuple [.Name x px, .Name y py, .Name z pz] kt pt) X.env]) :
    ES X B (.Assign [.Tuple [.Name x px, .Name y py, .Name z pz] kt pt] (.Tuple [a, b, c] k2 pt2) pos) (sPar3 n i j l fs) := fun ρ r q => by
  unfold sPar3 at q
  obtain ⟨⟨hs', ρ1⟩, e1, q⟩ := Option.bind_eq_some_iff.mp q
  split at q
  · rename_i ap
    split at q
    · rename_i g1 g2 g3 e0
      have e0 : hs' = [g1, g2, g3] := e0
      subst e0
      obtain ⟨ρ2, e2, q⟩ := Option.bind_eq_some_iff.mp q
      obtain ⟨ρ3, e3, q⟩ := Option.bind_eq_some_iff.mp q
      obtain ⟨ρ4, e4, q⟩ := Option.map_eq_some_iff.mp q
      cases q
      refine ps_impL (ps_asg (pe_tup (h _ _ _ e1)) (pg_tup hc (pgs_cons (pg_name hN hi hx (.inl (fx x))) (pgs_cons (pg_name hN hj hy (.inl (fx y))) (pgs_cons (pg_name hN hl hz (.inl (fx z))) pgs_nil)))) hs hw h1) fun D σ H ln ⟨om, R, t, k⟩ => ⟨om, R, fun vs H' om' s R0 r => ?_⟩
      cases r with
      | @cons _ _ v1 _ r1 r =>
        cases r with
        | @cons _ _ v2 _ r2 r =>
          cases r with
          | @cons _ _ v3 _ r3 r =>
            cases r
            refine ⟨(by show 3 ≤ sizeLine; rw [sizeLine_eq]; omega), fun p hp => ⟨p, _, rfl, .inl (.inl upd_same), rfl, ?_⟩⟩
            have st := Stp.same (B := B) (om := om') (same_upd (o := .tup [v1, v2, v3]) hp)
            have R' := R0.same (same_upd (o := .tup [v1, v2, v3]) hp)
            have r1 := HRep.stp st r1
            have r2 := HRep.stp st r2
            have r3 := HRep.stp st r3
            have ln' := ln.trans hn
            have hi' : i < σ.length := lt_of ln hi
            have hj' : j < σ.length := lt_of ln hj
            have hl' : l < σ.length := lt_of ln hl
            refine ⟨_, _, rfl, _, _, rfl, _, _, rfl, rfl, ?_⟩
            simp only [List.all_cons, List.all_nil, Bool.and_true, Bool.and_eq_true] at ap
            obtain ⟨om2, t2, x2, R2⟩ := R'.store ln' (by rw [← ln']; exact hi') r1 e2
            have ap2 : apart σ.length i g2 = true := by rw [ln']; exact ap.2.1
            have ap3 : apart σ.length i g3 = true := by rw [ln']; exact ap.2.2
            obtain ⟨om3, t3, x3, R3⟩ := R2.store (n := n) (by rw [List.length_set]; exact ln') (by rw [← ln']; exact hj') (r2.stored (ρ := ρ) (ρ1 := ρ) hi' ap2 t2 x2) e3
            obtain ⟨om4, t4, x4, R4⟩ := R3.store (n := n) (by rw [List.length_set, List.length_set]; exact ln') (by rw [← ln']; exact hl') ((r3.stored (ρ := ρ) (ρ1 := ρ) hi' ap3 t2 x2).stored (ρ := ρ) (ρ1 := ρ) (by rw [List.length_set]; exact hj') (by rw [List.length_set]; rw [ln']; exact ap.2.2) t3 x3) e4
            obtain ⟨R5, x5⟩ := R4.cut (n := n) (by rw [List.length_set, List.length_set, List.length_set]; exact ln')
            exact k _ _ _ ((s.trans st).less t rfl fun a z => x2 a (x3 a (x4 a (x5 a z)))) R5 rfl
    · cases q
  · cases q
end
end Ev

set_option maxRecDepth 100000
set_option maxHeartbeats 4000000
namespace Ev
open PySem PySem.Spec PyProof.Rows L2
/-! ### what is raised within an expression -/
def EXA (X : Cx) (B : Bx) (E : XK) (es : List Expr) (x : FX) : Prop := ∀ ρ w ρ1, x ρ = some (w, ρ1) → PA X es (fun σ H _ => ∃ om, Rel X.K B ρ om σ H ∧ ∀ H' om', Stp B om H om' H' → Rel X.K B ρ1 om' σ H' → ExW X.K E w H')
def xNextA (f : FE) (x : FX) : FX := fun ρ => (f ρ).bind fun p => x p.2
theorem pa_never {X : Cx} {es : List Expr} : PA X es (fun _ _ _ => False) := ⟨fun _ _ _ _ _ _ _ h => h.elim⟩
theorem pe_never {X : Cx} {e : Expr} : PE X e (fun _ _ _ => False) := ⟨fun _ _ _ _ _ _ h => h.elim⟩
section
variable {X : Cx} {B : Bx} {E : XK} {e a b : Expr} {es : List Expr} {f : FE} {x : FX} {n k : Nat} {pos p : Pos}
theorem exa_here (h : EXe X B E e x) (hs : starEach (e :: es) X.env = (false, eval e X.env) :: starEach es X.env) : EXA X B E (e :: es) x := fun ρ w ρ1 q =>
  pa_imp (pa_cons (h _ _ _ q) (pa_never (es := es)) hs) fun σ H Q h => h
theorem exa_next (h : EV X B e f) (hx : EXA X B E es x) (hs : starEach (e :: es) X.env = (false, eval e X.env) :: starEach es X.env) : EXA X B E (e :: es) (xNextA f x) := fun ρ w ρ1 q => by
  unfold xNextA at q
  obtain ⟨⟨h1, ρ2⟩, e1, q⟩ := Option.bind_eq_some_iff.mp q
  exact pa_imp (pa_cons (h _ _ _ e1) (hx _ _ _ q) hs) fun σ H Q ⟨om, R, k⟩ => ⟨om, R, fun v H1 om1 s1 R1 _ => ⟨om1, R1, fun H2 om2 s2 R2 => k H2 om2 (s1.trans s2) R2⟩⟩
theorem ex_callA {y : Str} {F : Fn} (c : Ctr X.prog X.w X.K X.mg X.base CX0 k B.T y F) (hr : Room k X.A) (hg : Gl X y) (ha : EXA X B E (e :: es) x) (hdb : (y == ("__debug__" : Str)) = false)
    (he : starEach (e :: es) X.env = (false, eval e X.env) :: starEach es X.env) (hpl : (backTo pos (starEach es X.env)).any (·.1) = false) : EXe X B E (.Call (.Name y p) (e :: es) [] pos) x := fun ρ w ρ1 q => by
  obtain ⟨fa, fd, ps, hm, hk, hb, hF⟩ := c.ex
  exact pe_imp (pe_call (E := E00) hF hr hg hm hk hb .nil (fun _ _ _ _ _ _ _ h => h.elim) (ha _ _ _ q) hdb he hpl) fun σ H Q h => h
theorem ex_ix (hu : X.A.units + 1 < cLine) (h : EXe X B E a x) (hn : noSlice b = true) : EXe X B E (.Subscript a b pos) x := fun ρ w ρ1 q =>
  pe_imp (pe_ix (ix_all hu) (h _ _ _ q) (pe_never (e := b)) (plainIx hn)) fun σ H Q h => h
theorem ex_set {i : Nat} {y : Str} {pos' : Pos} (hN : X.N.Nodup) (hi : X.N[i]? = some y) (hx : Loc X.env.scope y) (hf : X.fn y = true ∨ X.env.scope.names.lookup y = some .local) (h : EXe X B E e x) (hs : swapsWith e (some (.Name y pos')) pos.line X.env = pure false) :
    EXS X B E (.Assign [.Name y pos'] e pos) x := fun ρ w ρ1 q =>
  ps_imp (ps_set hN hi hx (h _ _ _ q) hs hf) fun D σ H ⟨om, R, t, k⟩ => ⟨om, R, fun H' om' s R' => k H' om' ρ1 σ s R'⟩
theorem ex_par {i j : Nat} {y z : Str} {px py pt : Pos} {kt k2 pt2} (hc : X.calm = true) (hN : X.N.Nodup) (hi : X.N[i]? = some y) (hj : X.N[j]? = some z) (hij : i ≠ j)
    (hx : X.env.scope.names.lookup y = some .local) (hy : X.env.scope.names.lookup z = some .local) (h : EXA X B E [a, b] x)
    (hw : swappedStores [.Tuple [.Name y px, .Name z py] kt pt] (.Tuple [a, b] k2 pt2) X.env = pure (some [y, z]))
    (hs : swapsWithSole [.Tuple [.Name y px, .Name z py] kt pt] (.Tuple [a, b] k2 pt2) pos.line X.env = pure false) :
    EXS X B E (.Assign [.Tuple [.Name y px, .Name z py] kt pt] (.Tuple [a, b] k2 pt2) pos) x := fun ρ w ρ1 q =>
  ps_imp (ps_par hc hN hi hj hij hx hy (h _ _ _ q) hw hs) fun D σ H ⟨om, R, t, k⟩ => ⟨om, R, fun H' om' s R' => k H' om' ρ1 σ s R'⟩
end
end Ev

set_option maxRecDepth 100000
set_option maxHeartbeats 4000000
namespace Ev
open PySem PySem.Spec PyProof.Rows L2
/-! ### a tuple times 0 or 1 -/
theorem tup_mul1 (l : Addr) (items : Array Value) (n : Nat) (dd : Option Addr) (sl : Array (Option Value)) (u : Tok) : Meets (Builtin.«tuple.__mul__» ⟨[.ref l, .int 1 u], []⟩) (fun _ R s => s.heap.get? l = some { cls := .type "tuple", dict := dd, data := .seq items n, slots := sl } ∧ R (.ok (.ret (.ref l))) s) :=
  .of_wp fun prog w A R s h => by
    obtain ⟨hp, g, d, tk, os⟩ := s
    obtain ⟨hl, h⟩ := h
    have f1 := AutoSeq1.idx_int
    wp_walk using wpAny_loadPart' hl
    repeat (first
      | (refine wpAny_ite_false (by decide) ?_; wp_walk using wpAny_loadPart' hl)
      | (refine wpAny_ite_true (by simp) ?_; wp_walk using wpAny_loadPart' hl))
    exact ⟨_, rfl, h⟩
theorem tup_mul0 (l : Addr) (items : Array Value) (n : Nat) (dd : Option Addr) (sl : Array (Option Value)) (u : Tok) (he : items.isEmpty = false) : Meets (Builtin.«tuple.__mul__» ⟨[.ref l, .int 0 u], []⟩) (fun _ R s => s.heap.get? l = some { cls := .type "tuple", dict := dd, data := .seq items n, slots := sl } ∧
      R (.ok (.ret (Value.ref s.heap.objs.size))) { s with heap := s.heap.push { cls := Value.type "tuple", data := Data.seq #[] }, toks := s.toks }) :=
  .of_wp fun prog w A R s h => by
    obtain ⟨hp, g, d, tk, os⟩ := s
    obtain ⟨hl, h⟩ := h
    have f1 := AutoSeq1.idx_int
    wp_walk using wpAny_loadPart' hl
    repeat (first
      | (refine wpAny_ite_false (by decide) ?_; wp_walk using wpAny_loadPart' hl)
      | (refine wpAny_ite_false (by rw [he]; decide) ?_; wp_walk using wpAny_loadPart' hl)
      | (refine wpAny_ite_true (by decide) ?_; wp_walk using wpAny_loadPart' hl))
    exact ⟨_, rfl, h⟩
def semRep01 : D → D → Option D
  | .tuple ds, .int k => if k = 1 then some (.tuple ds) else if k = 0 ∧ ds ≠ [] then some (.tuple []) else none
  | _, _ => none
section
variable {X : Cx} {B : Bx} {a b : Expr} {fa fb : FE} {pos : Pos}
theorem or_rep01 : OpR X (binaryOp .Mult) (r2 X.K semRep01) := by
  intro pins s σ H x y v u Q I rx ry h
  obtain ⟨Ex, d1, d2, d, fr, h1, h2, e, q⟩ := h
  unfold semRep01 at e
  split at e
  · rename_i ds k
    rcases h1 with h1 | ⟨_, _, h1⟩
    · cases h1 with
      | @tup l xs _ hl nl rs =>
        cases h2.int
        cases rx
        obtain ⟨t, rfl⟩ := ry
        have hT : SqT X.K H l xs := .inl (.inl hl)
        obtain ⟨its, r, ⟨⟨cls, dd, data, sl⟩, ho, hc, n, hd⟩, hs⟩ := I.tuple hT
        simp only at hc hd
        subst hc hd
        split at e
        · rename_i hk
          subst hk
          cases e
          exact wpAny_binaryOp_repeat_ref (T := "tuple") (U := "int") (by decide) ⟨_, ho, rfl⟩ (fun s2 => typeIs_int s2 1 t) noFill_tuple_mul F.fills_int_mul F.slot_int_rmul repeat_tuple F.slot_int_index.lookup
            (call_meets F.slot_int_rmul (typeIs_int s 1 t) F.entry_int_rmul (F.args_int_rmul_2 _ _) (int_rmul_tuple 1 t l its.toArray n dd sl)
              ⟨ho, rfl, ⟨_, ho, rfl⟩, call_meets F.slot_tuple_mul ⟨_, ho, rfl⟩ F.entry_tuple_mul (F.args_tuple_mul_2 _ _) (tup_mul1 l its.toArray n dd sl t) ⟨ho, .ref l, H, I, rfl, q _ _ (fun _ _ z => z) (.tup hl nl rs)⟩⟩)
        · split at e
          · rename_i hk
            obtain ⟨rfl, hne⟩ := hk
            cases e
            have hi : its.toArray.isEmpty = false := by
              cases its with
              | nil =>
                cases r
                cases rs
                exact absurd rfl hne
              | cons _ _ => rfl
            have hf : H s.heap.objs.size = none := I.hok.fresh (Nat.le_refl _)
            refine wpAny_binaryOp_repeat_ref (T := "tuple") (U := "int") (by decide) ⟨_, ho, rfl⟩ (fun s2 => typeIs_int s2 0 t) noFill_tuple_mul F.fills_int_mul F.slot_int_rmul repeat_tuple F.slot_int_index.lookup
              (call_meets F.slot_int_rmul (typeIs_int s 0 t) F.entry_int_rmul (F.args_int_rmul_2 _ _) (int_rmul_tuple 0 t l its.toArray n dd sl)
                ⟨ho, rfl, ⟨_, ho, rfl⟩, call_meets F.slot_tuple_mul ⟨_, ho, rfl⟩ F.entry_tuple_mul (F.args_tuple_mul_2 _ _) (tup_mul0 l its.toArray n dd sl t hi) ⟨ho, ?_⟩⟩)
            refine ⟨.ref s.heap.objs.size, _, I.laid (t' := s.toks) (o := .tup []) (fun b ob q => Heap.get?_push_of_some _ q) (Nat.le_refl _) ?_, rfl, q _ _ (same_upd hf) (.tup upd_same (fr.no hf) .nil)⟩
            exact ⟨Nat.zero_le _, [], .nil, ⟨_, Heap.get?_push_size _ rfl, rfl, _, rfl⟩⟩
          · cases e
    · cases h1
  · cases e
theorem ev_rep01 (ha : EV X B a fa) (hb : EV X B b fb) : EV X B (.BinOp a .Mult b pos) (fBin fa fb semRep01) := fun ρ h ρ' q =>
  bin_core (f := fa) (t := tC .non) ha hb q fun pa pb => pe_op or_rep01 pa pb
end
end Ev

set_option maxRecDepth 100000
set_option maxHeartbeats 4000000
namespace Ev
open PySem PySem.Spec PyProof.Rows L2
/-! ### o[i], p[j] = a, b -/
def tGp (X : Cx) (B : Bx) (d : D) (ρ ρ' : Er) : TG := fun v σ H Q => ∃ om, Rel X.K B ρ om σ H ∧ Rep X.K H (Exs B om) d v ∧ ∀ H' om', Stp B om H om' H' → Rel X.K B ρ' om' σ H' → Q σ H'
def gPut (fo fi : FE) : FG := fun d ρ => (fo ρ).bind fun po => match po.1 with
  | .l j => (fi po.2).bind fun pi => (res pi.1 pi.2).bind fun ix => (getO j pi.2).bind fun d0 => (semPut d0 ix d).bind fun d' => setO j d' pi.2
  | _ => none
def sPut2 (n : Nat) (fs : FA) (g1 g2 : FG) : FS := fun ρ => (fs ρ).bind fun p => (plain p.1).bind fun ds => match ds with
  | [d1, d2] => (g1 d1 p.2).bind fun ρ1 => (g2 d2 ρ1).map fun ρ2 => .nx (ρ2.take n)
  | _ => none
section
variable {X : Cx} {B : Bx} {n : Nat} {o i o2 i2 a b : Expr} {fo fi : FE} {g1 g2 : FG} {fs : FA} {pos tpos pt pt2 : Pos} {kt k2 : Nat}
theorem gp_sub (hu : X.A.units + 1 < cLine) (ho : EV X B o fo) (hi : EV X B i fi)
    (ha : ∀ v, assign (.Subscript o i tpos) X.env v = (do
      let ov ← holding [v] (eval o X.env)
      let iv ← holding [v, ov] (eval i X.env)
      standAt tpos
      holding [v, ov, iv] (setItem ov iv v)
      release [v, ov, iv] [])) {d : D} {ρ ρ' : Er} (q : gPut fo fi d ρ = some ρ') : PG X (.Subscript o i tpos) (tGp X B d ρ ρ') := by
  unfold gPut at q
  obtain ⟨⟨h2, ρ2⟩, e2, q⟩ := Option.bind_eq_some_iff.mp q
  split at q
  · rename_i j e0
    have e0 : h2 = .l j := e0
    subst e0
    obtain ⟨⟨h3, ρ3⟩, e3, q⟩ := Option.bind_eq_some_iff.mp q
    obtain ⟨ix, e4, q⟩ := Option.bind_eq_some_iff.mp q
    obtain ⟨d0, e5, q⟩ := Option.bind_eq_some_iff.mp q
    obtain ⟨d', e6, e7⟩ := Option.bind_eq_some_iff.mp q
    refine pg_impL (pg_sub (ho _ _ _ e2) (hi _ _ _ e3) (set_any hu) ha) fun v σ H Q ln ⟨om1, R1, r1, k⟩ => ⟨om1, R1, fun x H2 om2 s2 R2 r2 => ⟨om2, R2, fun y H3 om3 s3 R3 r3 => ?_⟩⟩
    have rv := (Rep.stp s2 r1).stp s3
    have rk := R3.resb r3 e4
    obtain ⟨a, rfl, ea, ro⟩ := R3.getO (r2.stp s3) e5
    have fin : ∀ {ob : HO}, RepC X.K H3 (Exs B om3) d' ob → Q σ (upd H3 a ob) := fun {ob} c => by
      have kk := kup (B := B) (H := H3) (o := ob) ea
      obtain ⟨R4, s4⟩ := R3.setO ea e7 ro (rc_put kk c)
      exact k _ _ ((s2.trans s3).trans s4) R4
    cases d0 with
    | list ds =>
      cases ix with
      | int i0 =>
        obtain ⟨jj, e8, e9⟩ := Option.map_eq_some_iff.mp e6
        subst e9
        cases rk.int
        cases ro with
        | lst g1 g2 => exact .inl ⟨a, _, i0, jj, rfl, rfl, g1, by rw [← g2.length]; exact e8, fin (.lst (g2.set rv jj))⟩
      | _ => cases e6
    | dict ps =>
      obtain ⟨ob, g, c⟩ := dput_of ro rk rv e6
      exact .inr ⟨a, _, rfl, g, fin c⟩
    | _ => cases e6
  · cases q
theorem es_put2 {t1 t2 : Expr} (hc : X.calm = true) (hn : X.N.length = n) (h : EA X B [a, b] fs) (p1 : ∀ d ρ ρ', g1 d ρ = some ρ' → PG X t1 (tGp X B d ρ ρ')) (p2 : ∀ d ρ ρ', g2 d ρ = some ρ' → PG X t2 (tGp X B d ρ ρ'))
    (hw : swappedStores [.Tuple [t1, t2] kt pt] (.Tuple [a, b] k2 pt2) X.env = pure none) (hs : swapsWithSole [.Tuple [t1, t2] kt pt] (.Tuple [a, b] k2 pt2) pos.line X.env = pure false)
    (h1 : (assignEach [.Tuple [t1, t2] kt pt] X.env).map (·.2) = [assign (.Tuple [t1, t2] kt pt) X.env])
    (c1 : (assignEach [t1, t2] X.env).map (·.2) = assign t1 X.env :: (assignEach [t2] X.env).map (·.2)) (c2 : (assignEach [t2] X.env).map (·.2) = assign t2 X.env :: (assignEach [] X.env).map (·.2))
    (c3 : (assignEach [t1, t2] X.env).length = 2) (c4 : (assignEach [t1, t2] X.env).findIdx? (·.1) = none) :
    ES X B (.Assign [.Tuple [t1, t2] kt pt] (.Tuple [a, b] k2 pt2) pos) (sPut2 n fs g1 g2) := fun ρ r q => by
  unfold sPut2 at q
  obtain ⟨⟨hs', ρ1⟩, e1, q⟩ := Option.bind_eq_some_iff.mp q
  obtain ⟨ds, e2, q⟩ := Option.bind_eq_some_iff.mp q
  split at q
  · rename_i d1 d2
    obtain ⟨ρ2, e3, q⟩ := Option.bind_eq_some_iff.mp q
    obtain ⟨ρ3, e4, q⟩ := Option.map_eq_some_iff.mp q
    cases q
    refine ps_impL (ps_asg (pe_tup (h _ _ _ e1)) (pg_tup hc (pgs_cons (p1 _ _ _ e3) (pgs_cons (p2 _ _ _ e4) pgs_nil c2) c1) c3 c4) hs hw h1) fun D σ H ln ⟨om, R, t, k⟩ => ⟨om, R, fun vs H' om' s R0 r => ?_⟩
    have rr := r.plain e2
    cases rr with
    | @cons _ _ v1 _ r1 rr =>
      cases rr with
      | @cons _ _ v2 _ r2 rr =>
        cases rr
        refine ⟨(by show 2 ≤ sizeLine; rw [sizeLine_eq]; omega), fun p hp => ⟨p, _, rfl, .inl (.inl upd_same), rfl, ?_⟩⟩
        have st := Stp.same (B := B) (om := om') (same_upd (o := .tup [v1, v2]) hp)
        have R' := R0.same (same_upd (o := .tup [v1, v2]) hp)
        refine ⟨v1, [v2], rfl, om', R', Rep.stp st r1, fun H2 om2 s2 R2 => ⟨v2, [], rfl, om2, R2, Rep.stp s2 (Rep.stp st r2), fun H3 om3 s3 R3 => ⟨rfl, ?_⟩⟩⟩
        obtain ⟨R4, x4⟩ := R3.cut (n := n) (ln.trans hn)
        exact k σ _ _ ((((s.trans st).trans s2).trans s3).less t rfl x4) R4 rfl
  · cases q
end
end Ev

set_option maxRecDepth 100000
set_option maxHeartbeats 4000000
namespace Ev
open PySem PySem.Spec PyProof.Rows L2
/-! ### a raise within a for -/
def xRunL (n : Nat) (g : FG) (f : FS) (x : FX) : List D → FX
  | [], _ => none
  | d :: r, ρ => (g d ρ).bind fun ρ1 => match x (ρ1.take n) with
    | some w => some w
    | none => (f (ρ1.take n)).bind fun y => match y with
      | .nx ρ2 => xRunL n g f x r ρ2
      | .ct ρ2 => xRunL n g f x r ρ2
      | _ => none
def xFor (n : Nat) (fi : FI) (g : FG) (f : FS) (x : FX) : FX := fun ρ => (fi ρ).bind fun p => xRunL n g f x p.1 (p.2.take n)
section
variable {X : Cx} {B : Bx} {E : XK} {n : Nat} {pos : Pos} {tg : Expr}
theorem ex_for {iter : Expr} {body : List Stmt} {fi : FI} {g : FG} {ts : List Nat} {f : FS} {x : FX} (hn : X.N.length = n) (hp : PassesOwn (model X.prog X.w) X.A X.env X.xe) (hc : X.calm = true) (hi : EI X B tg iter fi) (hg : EG X B tg g ts) (hb : ESs X B body f) (hx : EXSs X B E body x)
    (hs : ∀ x, foldedSetIterable iter X.env x = pure x) : EXS X B E (.For tg iter body [] pos) (xFor n fi g f x) := fun ρ w ρe q => by
  unfold xFor at q
  obtain ⟨⟨items, ρ1⟩, e1, q⟩ := Option.bind_eq_some_iff.mp q
  have q : xRunL n g f x items (ρ1.take n) = some (w, ρe) := q
  refine ⟨fun pins s σ H D I h => ?_⟩
  have ln := I.len.trans hn
  have gall : PG X tg (fun v σ H Q => ∃ d ρ ρ', g d ρ = some ρ' ∧ tG X B d ρ ρ' ts v σ H Q) := ⟨fun pins s σ H v u Q I r ⟨d, ρ, ρ', e, z⟩ => (hg.pg d ρ ρ' e).run pins s σ H v u Q I r z⟩
  have ball : PSs X body (fun D σ H => (∃ ρ r, f ρ = some r ∧ tSt X B ρ r D σ H) ∨ ∃ ρ w ρ1, x ρ = some (w, ρ1) ∧ ∃ om, Rel X.K B ρ om σ H ∧ om.τ = [] ∧ EndX X B E w om H) := ⟨fun pins s σ H D I z => by
    rcases z with ⟨ρ, r, e, z⟩ | ⟨ρ, w, ρ1, e, z⟩
    · exact (hb ρ r e).run pins s σ H D I z
    · exact (hx ρ w ρ1 e).run pins s σ H D I z⟩
  refine (ps_for hp hc (hi _ _ _ e1) gall (pss_len ball) hs).run pins s σ H D I ?_
  obtain ⟨om, R, t, k⟩ := h
  refine ⟨om, R, fun J H1 om1 s1 R1 ok => ?_⟩
  obtain ⟨R2, x2⟩ := R1.cut ln
  refine ⟨fun i m σ' H' => m = items.length - i ∧ i ≤ items.length ∧ ∃ ρi omi, σ'.length = n ∧ Rel X.K B ρi omi σ' H' ∧ omi.τ = [] ∧ Ste B om1 H1 omi H' ∧ xRunL n g f x (items.drop i) ρi = some (w, ρe), ⟨items.length, by simp, Nat.zero_le _, _, _, ln, R2, rfl, .sub x2, by simpa using q⟩, ?_⟩
  rintro i m σ' H' ⟨rfl, hi, ρi, omi, lni, Ri, ti, si, qi⟩
  by_cases hlt : i < items.length
  · refine .inr ?_
    rw [List.drop_eq_getElem_cons hlt] at qi
    obtain ⟨ρ3, g1, qi⟩ := Option.bind_eq_some_iff.mp qi
    obtain ⟨jg, jy⟩ := ok.go i items[i] omi H' Ri.exd si (List.getElem?_eq_getElem hlt)
    refine ⟨jg, fun σ5 H5 => ∃ ρ5 om5, σ5.length = n ∧ Rel X.K B ρ5 om5 σ5 H5 ∧ om5.τ = [] ∧ Ste B om1 H1 om5 H5 ∧ xRunL n g f x (items.drop (i + 1)) ρ5 = some (w, ρe), fun σ5 H5 ⟨ρ5, om5, z1, z2, z3, z4, z5⟩ => ⟨_, by omega, rfl, hlt, ρ5, om5, z1, z2, z3, z4, z5⟩, fun v H3 y => ?_⟩
    obtain ⟨sm, rv⟩ := jy v H3 y
    refine ⟨_, _, _, g1, omi, Ri.same sm, rv, fun σ4 om4 t4 x4 l4 _ R4 => ?_⟩
    obtain ⟨R5, x5⟩ := R4.cut (l4.trans lni)
    have s5 : Ste B om1 H1 (cutO om4 n) H3 := (si.trans (.same sm)).trans (.sub fun a z => x4 a (x5 a z))
    cases ex : x (ρ3.take n) with
    | some w' =>
      rw [ex] at qi
      cases qi
      exact .inr ⟨_, _, _, ex, _, R5, rfl, k.at ((s1.ste.trans s5).stp t rfl)⟩
    | none =>
      rw [ex] at qi
      obtain ⟨z, g2, qi⟩ := Option.bind_eq_some_iff.mp qi
      refine .inl ⟨_, _, g2, _, R5, rfl, ?_⟩
      cases z with
      | nx ρ6 => exact fun σ6 H6 om6 s6 R6 t6 l6 => ⟨ρ6, om6, l6.trans hn, R6, t6, s5.trans s6.ste, qi⟩
      | ct ρ6 => exact fun σ6 H6 om6 s6 R6 t6 l6 => ⟨ρ6, om6, l6.trans hn, R6, t6, s5.trans s6.ste, qi⟩
      | bk ρ6 => cases qi
      | ret d ρ6 => cases qi
  · have e : i = items.length := by omega
    subst e
    rw [List.drop_length] at qi
    cases qi
end
end Ev

set_option maxRecDepth 100000
set_option maxHeartbeats 4000000
namespace Ev
open PySem PySem.Spec PyProof.Rows L2
section
variable {P : Program} {w : World} {A : Around} {E : Value → Shared → Prop} {s : Shared}
set_option maxRecDepth 100000 in
set_option maxHeartbeats 3200000 in
/-- set(t), t a tuple of tuples of ints -/
theorem set_of_tup {l : Addr} {items : Array Value} (ks : List (Addr × List Int)) {Q : Value → Shared → Prop} (hh : A.handled = none) (hl : s.heap.IsTuple l items) (hit : items.toList = ks.map fun p => Value.ref p.1)
    (hk : ∀ p ∈ ks, IsT P w s.heap p.2 p.1) (hfew : ks.length < 64) (hu : A.units + 3 < cLine)
    (h : ∀ (h' : Heap) (tk : Nat) L es ep t, SetTR P w h' s.heap.objs.size L es ep t → Got ks ks.length L → (∀ b o, s.heap.get? b = some o → h'.get? b = some o) → Q (.ref s.heap.objs.size) { s with heap := h', toks := tk }) :
    wpAny (model P w) A (call (.type "set") [.ref l]) Q E s := by
  have hisz : items.size = ks.length := by
    have q := congrArg List.length hit
    rw [Array.length_toList, List.length_map] at q
    exact q
  obtain ⟨c, tl, hmro⟩ := F.called_set.mro
  have hmade := F.called_set.made
  have hsub := F.called_set.sub
  refine wpAny_call (codeAny_of_tree ?_)
  show wpAny _ _ (callAny (.type "set") _) _ _ _
  refine wpAny_pure ⟨Code.quiet_builtin _ (by decide +kernel), codeAny_builtin F.entry_type_call ?_⟩
  rw [Around.under_plain (weight_type_call_type "set" [.ref l] []) rfl]
  have h1 := F.called_set.notType
  have h2 := F.called_set.canCreate
  have hct := F.typeCall_set_1 (.ref l)
  repeat (any_goals (first | assumption | wp_step))

  refine codeAny_mono (code_set_led1 (.ref l) (E := E) (Q₁ := fun obj s₁ => obj = .ref s.heap.objs.size ∧ s₁ = { s with heap := s.heap.push { cls := .type "set", dict := none, data := .set #[] 0 (.fresh 0 0 (!w.params.followText "set-order")) } }) ⟨rfl, rfl⟩) fun r s₁ hr => ?_
  cases r with
  | error e => exact hr
  | ok fl =>
    cases fl with
    | ret obj =>
      obtain ⟨rfl, rfl⟩ := hr
      have hS : (s.heap.push { cls := .type "set", dict := none, data := .set #[] 0 (.fresh 0 0 (!w.params.followText "set-order")) }).get? s.heap.objs.size = some { cls := .type "set", dict := none, data := .set #[] 0 (.fresh 0 0 (!w.params.followText "set-order")) } := Heap.get?_push_size _ rfl
      have hT : Shared.TypeIs { s with heap := s.heap.push { cls := .type "set", dict := none, data := .set #[] 0 (.fresh 0 0 (!w.params.followText "set-order")) } } (.ref s.heap.objs.size) "set" := ⟨_, hS, rfl⟩
      have hli := F.called_set.init.lookup
      have hbi := F.called_set.init.bind (.ref s.heap.objs.size)
      repeat (any_goals (first | assumption | wp_step))

      refine codeAny_mono (codeAny_call_builtin (R := wants (fun r s₂ => r = .none ∧ ∃ h' tk L es ep t, s₂ = { s with heap := h', toks := tk } ∧ SetTR P w h' s.heap.objs.size L es ep t ∧ Got ks ks.length L ∧
          (∀ b o, s.heap.get? b = some o → h'.get? b = some o)) E) F.called_set.init.plain F.entry_set_init (check_set_init_1 hT ?_)) fun r₂ s₂ hr₂ => ?_
      · obtain ⟨ol, hol, hcl, nl, hdl⟩ := hl
        obtain ⟨ocls, odict, odata, oslots⟩ := ol
        simp only at hcl hdl
        subst hcl; subst hdl
        have hol' : (s.heap.push { cls := .type "set", dict := none, data := .set #[] 0 (.fresh 0 0 (!w.params.followText "set-order")) }).get? l = some { cls := .type "tuple", dict := odict, data := .seq items nl, slots := oslots } := Heap.get?_push_of_some _ hol
        have hsls := F.sub_tuple_set
        have hslf := F.sub_tuple_frozenset
        have hne : (Value.type "tuple" == Value.type "dict") = false := by decide
        have hl1 : (s.heap.push { cls := .type "set", dict := none, data := .set #[] 0 (.fresh 0 0 (!w.params.followText "set-order")) }).IsTuple l items := ⟨_, hol', rfl, nl, rfl⟩
        unfold Builtin.«set.__init__» noKeywords Builtin.Frozenset.updateFrom
        generalize hPI : pyIter = PI
        wp_walk
        subst hPI

        refine wpAny_pyIter_tuple hl1 ?_
        refine wpAny_bind (wpAny_runValue ?_)
        have hlS : l < s.heap.objs.size := Heap.lt_size hol
        have hh3 : A.in1.in1.in1.handled = none := by simp [hh]
        have hz1 : (s.heap.push { cls := .type "set", dict := none, data := .set #[] 0 (.fresh 0 0 (!w.params.followText "set-order")) }).objs.size = s.heap.objs.size + 1 := Heap.size_push ..
        have hneI : l ≠ (s.heap.push { cls := .type "set", dict := none, data := .set #[] 0 (.fresh 0 0 (!w.params.followText "set-order")) }).objs.size := by
          rw [Heap.size_push]; exact Nat.ne_of_lt (Nat.lt_succ_of_lt hlS)
        have hSf : s.heap.objs.size ∉ [(s.heap.push { cls := .type "set", dict := none, data := .set #[] 0 (.fresh 0 0 (!w.params.followText "set-order")) }).objs.size, l] := by
          rw [Heap.size_push]; simp only [List.mem_cons, List.mem_singleton, List.not_mem_nil, or_false, not_or]
          exact ⟨Nat.ne_of_lt (Nat.lt_succ_self _), Nat.ne_of_gt hlS⟩
        have hval : ∀ (i : Nat) (v : Value), items[i]? = some v → ∃ p, ks[i]? = some p ∧ v = .ref p.1 := fun i v hv => by
          have q : items.toList[i]? = some v := by rw [Array.getElem?_toList]; exact hv
          rw [hit, List.getElem?_map] at q
          cases hq : ks[i]? with
          | none => rw [hq] at q; cases q
          | some p =>
            rw [hq] at q
            exact ⟨p, rfl, (Option.some.inj q).symm⟩
        have none_of : ∀ b, s.heap.objs.size ≤ b → s.heap.get? b = none := fun b hb => by
          cases q : s.heap.get? b with
          | none => rfl
          | some o => exact absurd (Nat.lt_of_lt_of_le (Heap.lt_size q) hb) (Nat.lt_irrefl _)
        refine set_update_tups ((Walks.tuple hh3 _ l hneI items).toS) s.heap.objs.size
          hSf ks hisz hfew hval s.heap hk (none_of _ (Nat.le_refl _)) (fun b hb => none_of b (by
            rw [List.mem_singleton.mp hb, Heap.size_push]
            exact Nat.le_succ _)) hu (items.size - 0) 0 _ (by omega) (Nat.zero_le _)
          ⟨⟨_, Heap.get?_push_size _ rfl, rfl, rfl⟩, (hl1.push _)⟩ (fun b o e => Heap.get?_push_of_some _ (Heap.get?_push_of_some _ e)) ?hS0 ?hR
        case hS0 =>
          have hget : ((s.heap.push { cls := .type "set", dict := none, data := .set #[] 0 (.fresh 0 0 (!w.params.followText "set-order")) }).push { cls := .type "tuple_iterator", data := .fields #[.ref l, .int 0 0] }).get? s.heap.objs.size
              = some { cls := .type "set", dict := none, data := .set #[] 0 (.fresh 0 0 (!w.params.followText "set-order")) } := Heap.get?_push_of_some _ hS
          exact ⟨[], #[], 0, _, setTR_fresh hget, Got.zero ks⟩
        case hR =>
          intro s' L es ep t hm hS' g' hkp
          obtain ⟨h', g2, d', tk', os'⟩ := s'
          have eg : g2 = s.gens := hm.gens
          have ed : d' = s.drawn := hm.drawn
          have eo : os' = s.os := hm.os
          subst eg; subst ed; subst eo
          show wpAny _ _ _ _ _ _
          refine wpAny_pure ?_
          show wpAny _ _ (ret Value.none) _ _ _
          rw [hisz] at g'
          exact wpAny_pure ⟨rfl, h', tk', L, es, ep, t, rfl, hS', g', hkp⟩

      · cases r₂ with
        | error e => exact hr₂
        | ok fl₂ =>
          cases fl₂ with
          | ret r =>
            obtain ⟨rfl, h', tk, L, es, ep, t, rfl, hS', g', hk'⟩ := hr₂
            repeat (any_goals (first | assumption | wp_step))
            exact h _ _ _ _ _ _ hS' g' hk'
          | _ => exact hr₂.elim
    | _ => exact hr.elim

end
section
variable {X : Cx}
def rSetT2 (K : PySem.W.Frag) (P : Program) (w : World) : List V → Hp → VK → Prop := fun xs H Q => ∃ (l : Addr) (ks : List (Addr × List Int)), xs = [V.ref l] ∧ SqT K H l (ks.map fun p => V.ref p.1) ∧ (∀ p ∈ ks, SqT K H p.1 (p.2.map V.int)) ∧ ks.length < 64 ∧
  ∀ a L, H a = none → (∀ p ∈ L, p ∈ ks) → (∀ p ∈ ks, p.2 ∈ L.map (·.2)) → (L.map (·.2)).Nodup → Q (.ref a) (upd H a (SetTO P w a L))
theorem cr_setT2 (hc : X.calm = true) (hu : X.A.units + 64 < cLine) : CallR X (.type "set") (rSetT2 X.K X.prog X.w) := by
  intro pins s σ H xs us Q I r h
  obtain ⟨l, ks, rfl, sq, tk, few, q⟩ := h
  obtain ⟨u, rfl, ru⟩ := r.one
  cases ru
  obtain ⟨its, rv, pl, hz⟩ := I.tuple sq
  have fr : H s.heap.objs.size = none := I.hok.fresh (Nat.le_refl _)
  refine set_of_tup (P := X.prog) (w := X.w) ks (I.ok.hd hc) pl (by simpa using refs_of_vals rv) (fun p hp => I.isT (tk p hp)) few (by omega) fun h' tk L es ep t R g k => ?_
  have sub : ∀ p ∈ L, p ∈ ks := fun p hp => List.mem_of_mem_take (g.sub p hp)
  have all : ∀ p ∈ ks, p.2 ∈ L.map (·.2) := fun p hp => g.all p (by rw [List.take_length]; exact hp)
  exact ⟨.ref s.heap.objs.size, upd H s.heap.objs.size (SetTO X.prog X.w s.heap.objs.size L), I.laid (t' := tk) k (Nat.le_refl _) (setTO_new R.t0), rfl, q _ L fr sub all R.nd⟩
def rLenST (K : PySem.W.Frag) (P : Program) (w : World) : List V → Hp → VK → Prop := fun vs H Q => ∃ (a : Addr) (L : List (Addr × List Int)), vs = [V.ref a] ∧ H a = some (SetTO P w a L) ∧ (∀ p ∈ L, SqT K H p.1 (p.2.map V.int)) ∧ Q (.int L.length) H
theorem cr_lenST : CallR X (.builtin "len") (rLenST X.K X.prog X.w) := by
  intro pins s σ H vs us Q I r h
  obtain ⟨a, L, rfl, ha, hk, q⟩ := h
  have R0 : SetT0 X.prog X.w s.heap a L := (I.hok a _ ha).1
  obtain ⟨es, ep, t, R⟩ := R0.full fun p hp => I.isT (hk p hp)
  rw [Vals.ref1 r]
  obtain ⟨o, ho, hex, hd⟩ := R.ob
  have sz := R.size
  have few := R.few
  refine call_len_set ho hex hd R.fits (by omega) ⟨.int L.length, H, I.tok _, ⟨_, by rw [sz]⟩, q⟩
/-- tuples of ints as lists of ints -/
def tupsD : List D → Option (List (List Int))
  | [] => some []
  | .tuple xs :: r => (intsOf xs).bind fun ns => (tupsD r).map fun ks => ns :: ks
  | _ :: _ => none
theorem tupsD_eq : ∀ {ds : List D} {ks : List (List Int)}, tupsD ds = some ks → ds = ks.map fun ns => PyData.tuple (ns.map .int)
  | [], ks, h => by
    cases h
    rfl
  | d :: r, ks, h => by
    unfold tupsD at h
    split at h
    · rename_i heq
      cases heq
    · rename_i xs r' heq
      cases heq
      obtain ⟨ns, e1, h⟩ := Option.bind_eq_some_iff.mp h
      obtain ⟨ks', e2, h⟩ := Option.map_eq_some_iff.mp h
      subst h
      rw [intsOf_eq e1, tupsD_eq e2]
      rfl
    · cases h
theorem tupsD_map (ks : List (List Int)) : tupsD (ks.map fun ns => PyData.tuple (ns.map .int)) = some ks := by
  induction ks with
  | nil => rfl
  | cons ns r ih =>
    rw [List.map_cons]
    simp only [tupsD, intsOf_map, Option.bind_some, ih, Option.map_some]
theorem reps_tups {K : PySem.W.Frag} {H : Hp} {Ex : Addr → Prop} : ∀ {ks : List (List Int)} {vs : List V}, Reps K H Ex (ks.map fun ns => PyData.tuple (ns.map .int)) vs → ∃ ps : List (Addr × List Int), vs = ps.map (fun p => V.ref p.1) ∧ ps.map (·.2) = ks ∧ ∀ p ∈ ps, SqT K H p.1 (p.2.map V.int)
  | [], _, h => by
    cases h
    exact ⟨[], rfl, rfl, fun p hp => by cases hp⟩
  | ns :: r, _, h => by
    rw [List.map_cons] at h
    cases h with
    | cons h1 h2 =>
      obtain ⟨ps, e1, e2, e3⟩ := reps_tups h2
      cases h1 with
      | @tup a xs _ g1 g2 g3 =>
        have ex := reps_ints g3
        subst ex
        refine ⟨(a, ns) :: ps, by rw [e1]; rfl, by rw [List.map_cons, e2], fun p hp => ?_⟩
        rcases List.mem_cons.mp hp with e | hp
        · subst e
          exact .of g1
        · exact e3 p hp
theorem nodup_le {α : Type} [DecidableEq α] : ∀ (l m : List α), l.Nodup → (∀ x ∈ l, x ∈ m) → l.length ≤ m.length
  | [], _, _, _ => Nat.zero_le _
  | x :: l, m, hn, hs => by
    obtain ⟨h1, h2⟩ := List.nodup_cons.mp hn
    have hx : x ∈ m := hs x List.mem_cons_self
    have ih := nodup_le l (m.erase x) h2 fun y hy => (List.mem_erase_of_ne fun e : y = x => h1 (e ▸ hy)).2 (hs y (List.mem_cons_of_mem _ hy))
    have e := List.length_erase_of_mem hx
    have hp : 0 < m.length := List.length_pos_of_mem hx
    rw [List.length_cons]
    omega
def fLenSetT (fe : FE) : FE := fun ρ => (fe ρ).bind fun q => (res q.1 q.2).bind fun d => match d with
  | .tuple ds => (tupsD ds).bind fun ks => if ks.length < 64 ∧ ks.Nodup then some (.v (.int ks.length), q.2) else none
  | _ => none
variable {B : Bx} {e : Expr} {es : List Expr} {fe : FE} {fs : FA} {pos p p2 pos2 : Pos}
theorem ev_lensetT (hc : X.calm = true) (hu : X.A.units + 64 < cLine) (hg : Gl X "len") (hm : X.mg "len" = none) (hg2 : Gl X "set") (hm2 : X.mg "set" = none) (he : EV X B e fe)
    (h1 : starEach [e] X.env = (false, eval e X.env) :: starEach [] X.env) (h2 : starEach [.Call (.Name "set" p2) [e] [] pos2] X.env = (false, eval (.Call (.Name "set" p2) [e] [] pos2) X.env) :: starEach [] X.env)
    (hpl : (backTo pos (starEach [] X.env)).any (·.1) = false) (hpl2 : (backTo pos2 (starEach [] X.env)).any (·.1) = false) :
    EV X B (.Call (.Name "len" p) [.Call (.Name "set" p2) [e] [] pos2] [] pos) (fLenSetT fe) := fun ρ h ρ' q => by
  unfold fLenSetT at q
  obtain ⟨⟨h3, ρ1⟩, e1, q⟩ := Option.bind_eq_some_iff.mp q
  obtain ⟨d, e2, q⟩ := Option.bind_eq_some_iff.mp q
  cases d with
  | tuple ds =>
    obtain ⟨ks, e3, q⟩ := Option.bind_eq_some_iff.mp q
    split at q
    · rename_i hl
      cases q
      have hbt : bootBuiltins "set" = some (.type "set") := by decide +kernel
      have hbl : bootBuiltins "len" = some (.builtin "len") := by decide +kernel
      refine pe_imp (pe_callB cr_lenST hg hm hbl (pa_cons (pe_callTy (cr_setT2 hc hu) hg2 hm2 hbt (pa_cons (he _ _ _ e1) pa_nil h1) (by decide) (by decide) h1 hpl2) pa_nil h2) (by decide) (by decide) h2 hpl) fun σ H Q ⟨om, R, k⟩ => ⟨om, R, fun v H' om' s R' r => ?_⟩
      obtain ⟨a, xs, rfl, sq, _, rr⟩ := (R'.resb r e2).tup
      rw [tupsD_eq e3] at rr
      obtain ⟨ps, ex, ek, et⟩ := reps_tups rr
      subst ex
      have lk : ps.length = ks.length := by rw [← ek, List.length_map]
      refine ⟨a, ps, rfl, .of sq, et, by omega, fun p0 L hp0 sub all nd => ⟨p0, L, rfl, upd_same, fun p hp => ?_, ?_⟩⟩
      · have sm := same_upd (o := SetTO X.prog X.w p0 L) hp0
        have := et p (sub p hp)
        rcases this with (a1 | ⟨o, a1⟩) | a2
        · exact .inl (.inl (sm _ _ a1))
        · exact .inl (.inr ⟨o, sm _ _ a1⟩)
        · exact .inr a2
      · have sm := same_upd (o := SetTO X.prog X.w p0 L) hp0
        have len : L.length = ks.length := by
          have a1 := nodup_le (L.map (·.2)) ks nd fun x hx => by
            obtain ⟨p, hp, e⟩ := List.mem_map.mp hx
            rw [← e, ← ek]
            exact List.mem_map_of_mem (sub p hp)
          have a2 := nodup_le ks (L.map (·.2)) hl.2 fun x hx => by
            rw [← ek] at hx
            obtain ⟨p, hp, e⟩ := List.mem_map.mp hx
            rw [← e]
            exact all p hp
          rw [List.length_map] at a1 a2
          omega
        rw [len]
        exact k _ _ _ (s.trans (.same sm)) (R'.same sm) (.int _)
    · cases q
  | _ => cases q
end
theorem v_lensetT {fe : FE} {ρ ρ1 : Er} {h : Hd} {ks : List (List Int)} (e1 : fe ρ = some (h, ρ1)) (e2 : res h ρ1 = some (.tuple (ks.map fun ns => PyData.tuple (ns.map .int)))) (hl : ks.length < 64) (hn : ks.Nodup) : fLenSetT fe ρ = some (.v (.int ks.length), ρ1) := by
  simp only [fLenSetT, e1, e2, Option.bind_some, tupsD_map]
  rw [if_pos ⟨hl, hn⟩]
end Ev

set_option maxRecDepth 100000
set_option maxHeartbeats 400000
namespace LawX
open PySem PySem.Spec PyProof.Rows L2 Ev
def fb__law_taken : FS :=
  (sSeq (sIf 4 (ft (fBin (fBin (fVar 0) (fC (.int 3)) semIx) (fC (.int 0)) (semC .Gt))) (sSeq (sSet 4 2 (fBin (fCall (aCons (fBin (fVar 0) (fC (.int 3)) semIx) aNil) semInt) (fVar 1) (semBin .Mod)))
  (sSeq (sPut 4 (fBin (fBin (fVar 0) (fC (.int 3)) semIx) (fVar 1) (semBin .FloorDiv)) (fVar 0) (fC (.int 3)))
  (sRet (fVar 2)))) sNext)
  (sSeq (sPut 4 (fBin (fBin (fVar 0) (fC (.int 1)) semIx) (fC (.int 1)) (semBin .Add)) (fVar 0) (fC (.int 1)))
  (sSeq (sIf 4 (ft (fBin (fBin (fVar 0) (fC (.int 1)) semIx) (fCall (aCons (fBin (fVar 0) (fC (.int 0)) semIx) aNil) semLen) (semC .Gt))) (sSeq (sPut 4 (fBin (fCall (aCons (fBin (fBin (fBin (fVar 0) (fC (.int 2)) semIx) (fC (.int 48271)) (semBin .Mult)) (fC (.int 11)) (semBin .Add)) aNil) semInt) (fC (.int 2147483647)) (semBin .Mod)) (fVar 0) (fC (.int 2)))
  (sRet (fBin (fCall (aCons (fBin (fBin (fVar 0) (fC (.int 2)) semIx) (fC (.int 7)) (semBin .FloorDiv)) aNil) semInt) (fVar 1) (semBin .Mod)))) sNext)
  (sSeq (sSet 4 3 (fBin (fBin (fVar 0) (fC (.int 0)) semIx) (fBin (fBin (fVar 0) (fC (.int 1)) semIx) (fC (.int 1)) (semBin .Sub)) semIx))
  (sSeq (sPut 4 (fBin (fCall (aCons (fBin (fBin (fBin (fBin (fVar 0) (fC (.int 2)) semIx) (fC (.int 48271)) (semBin .Mult)) (fVar 3) (semBin .Add)) (fC (.int 11)) (semBin .Add)) aNil) semInt) (fC (.int 2147483647)) (semBin .Mod)) (fVar 0) (fC (.int 2)))
  (sSeq (sIf 4 (ft (fBin (fVar 3) (fBin (fC (.int 10)) (fC (.int 18)) (semBin .Pow)) (semC .GtE))) (sPut 4 (fBin (fVar 3) (fVar 1) (semBin .FloorDiv)) (fVar 0) (fC (.int 3))) sNext)
  (sRet (fBin (fCall (aCons (fVar 3) aNil) semInt) (fVar 1) (semBin .Mod)))))))))
def F__law_taken : Fn := ⟨[true, false], gDef 4 [true, false] fb__law_taken⟩
def fb__law_pick : FS :=
  (sRet (fBin (fVar 1) (fFn (aCons (fVar 0) (aCons (fCall (aCons (fVar 1) aNil) semLen) aNil)) F__law_taken) semIx))
def F__law_pick : Fn := ⟨[true, false], gDef 2 [true, false] fb__law_pick⟩
def lb__law_problem_1 : FS :=
  (sSeq (sSet 8 5 (fBin (fVar 3) (fFn (aCons (fVar 0) (aCons (fC (.int 20)) aNil)) F__law_taken) (semBin .Mult)))
  (sSeq (sSet 8 6 (fBin (fVar 3) (fFn (aCons (fVar 0) (aCons (fC (.int 20)) aNil)) F__law_taken) (semBin .Mult)))
  (sExp 8 (fMut (fVar 1) (fTup (aCons (aFz (fVar 5)) (aCons (aFz (fIf (ft (fBin (fVar 6) (fVar 5) (semC .NotEq))) (fVar 6) (fBin (fVar 5) (fVar 3) (semBin .Add)))) (aCons (fBin (fC (.int 1)) (fFn (aCons (fVar 0) (aCons (fFn (aCons (fVar 0) (aCons (aFz (fLst (aCons (fC (.int 3)) (aCons (fC (.int 10)) (aCons (fC (.int 100)) aNil))))) aNil)) F__law_pick) aNil)) F__law_taken) (semBin .Add)) aNil)))) semApp))))
def lb__law_problem_2 : FS :=
  (sSeq (sSet 8 7 (fFn (aCons (fVar 0) (aCons (aFz (fLst (aCons (fC (.int 1)) (aCons (fC (.int 20)) (aCons (fC (.int 100)) (aCons (fC (.int 10000)) (aCons (fBin (fC (.int 1)) (fFn (aCons (fVar 0) (aCons (fC (.int 500)) aNil)) F__law_taken) (semBin .Add)) aNil))))))) aNil)) F__law_pick))
  (sExp 8 (fMut (fVar 2) (fTup (aCons (fBin (fVar 3) (fFn (aCons (fVar 0) (aCons (fC (.int 20)) aNil)) F__law_taken) (semBin .Mult)) (aCons (aFz (fIf (ft (fBin (fFn (aCons (fVar 0) (aCons (fC (.int 2)) aNil)) F__law_taken) (fC (.int 0)) (semC .Eq))) (fVar 7) (fBin (fC (.int 0)) (fVar 7) (semBin .Sub)))) aNil))) semApp)))
def fb__law_problem : FS :=
  (sSeq (sPar 8 1 2 (aCons (fLst aNil) (aCons (fLst aNil) aNil)))
  (sSeq (sSet 8 3 (fFn (aCons (fVar 0) (aCons (aFz (fLst (aCons (fC (.int 1)) (aCons (fC (.int 10)) (aCons (fC (.int 10)) (aCons (fC (.int 50)) aNil)))))) aNil)) F__law_pick))
  (sSeq (sFor 8 (iRg1 (aCons (fFn (aCons (fVar 0) (aCons (fC (.int 5)) aNil)) F__law_taken) aNil)) (gN 4) lb__law_problem_1)
  (sSeq (sFor 8 (iRg1 (aCons (fFn (aCons (fVar 0) (aCons (aFz (fLst (aCons (fC (.int 0)) (aCons (fC (.int 0)) (aCons (fC (.int 1)) (aCons (fC (.int 2)) aNil)))))) aNil)) F__law_pick) aNil)) (gN 4) lb__law_problem_2)
  (sSeq (sIf 8 (tAndB (ft (fBin (fVar 1) (fLst aNil) (semC .Eq))) (ft (fBin (fVar 2) (fLst aNil) (semC .Eq)))) (sSet 8 1 (fLst (aCons (fTup (aCons (fC (.int 0)) (aCons (aFz (fVar 3)) (aCons (fC (.int 1)) aNil)))) aNil))) sNext)
  (sRet (fTup (aCons (fCall (aCons (fVar 1) aNil) semTuple) (aCons (fCall (aCons (fVar 2) aNil) semTuple) (aCons (fFn (aCons (fVar 0) (aCons (aFz (fLst (aCons (fC (.int 0)) (aCons (aFz (fVar 3)) (aCons (aFz (fVar 3)) (aCons (fBin (fC (.int 2)) (fVar 3) (semBin .Mult)) (aCons (fFn (aCons (fVar 0) (aCons (fC (.int 30)) aNil)) F__law_taken) aNil))))))) aNil)) F__law_pick) aNil))))))))))
def F__law_problem : Fn := ⟨[true], gDef 8 [true] fb__law_problem⟩
def fb_is_in : FS :=
  (sRet (fAnd (fIsi (fVar 0) "int") (fAnd (fNot (fIsi (fVar 0) "bool")) (fChain (fVar 1) (fVar 0) (fVar 2) (semC .LtE) (semC .LtE)))))
def F_is_in : Fn := ⟨[false, false, false], gDef 3 [false, false, false] fb_is_in⟩
def fb_is_stream : FS :=
  (sSeq (sIf 2 (tOrB (tNotB (ft (fIsi (fVar 0) "tuple"))) (tOrB (ft (fBin (fCall (aCons (fVar 0) aNil) semLen) (fC (.int 3)) (semC .NotEq))) (tNotB (ft (fFn (aCons (fBin (fVar 0) (fC (.int 2)) semIx) (aCons (fC (.int 1)) (aCons (aFz (fC (.int 100))) aNil))) F_is_in))))) (sRet (fC (.bool false))) sNext)
  (sRet (fAnd (fAll false [1] (iSeq (fSl (fVar 0) oNone (oSome (fC (.int 2))))) (gN 1) tYesF (fFn (aCons (aFz (fVar 1)) (aCons (fC (.int 0)) (aCons (aFz (fC (.int 1000))) aNil))) F_is_in)) (fBin (fBin (fVar 0) (fC (.int 0)) semIx) (fBin (fVar 0) (fC (.int 1)) semIx) (semC .NotEq)))))
def F_is_stream : Fn := ⟨[false], gDef 2 [false] fb_is_stream⟩
def fb_is_box : FS :=
  (sSeq (sIf 1 (tOrB (tNotB (ft (fIsi (fVar 0) "tuple"))) (tOrB (ft (fBin (fCall (aCons (fVar 0) aNil) semLen) (fC (.int 2)) (semC .NotEq))) (tNotB (ft (fFn (aCons (fBin (fVar 0) (fC (.int 0)) semIx) (aCons (fC (.int 0)) (aCons (aFz (fC (.int 1000))) aNil))) F_is_in))))) (sRet (fC (.bool false))) sNext)
  (sRet (fAnd (fFn (aCons (fBin (fVar 0) (fC (.int 1)) semIx) (aCons (fBin (fC (.int 0)) (fC (.int 10000)) (semBin .Sub)) (aCons (aFz (fC (.int 10000))) aNil))) F_is_in) (fBin (fBin (fVar 0) (fC (.int 1)) semIx) (fC (.int 0)) (semC .NotEq)))))
def F_is_box : Fn := ⟨[false], gDef 1 [false] fb_is_box⟩
def lb_need_problem_1 : FS :=
  (sIf 6 (tNotB (ft (fFn (aCons (aFz (fVar 5)) aNil) F_is_stream))) (fun _ => none) sNext)
def lb_need_problem_2 : FS :=
  (sIf 6 (tNotB (ft (fFn (aCons (aFz (fVar 5)) aNil) F_is_box))) (fun _ => none) sNext)
def fb_need_problem : FS :=
  (sSeq (sIf 6 (tOrB (tNotB (ft (fIsi (fVar 0) "tuple"))) (ft (fBin (fCall (aCons (fVar 0) aNil) semLen) (fC (.int 3)) (semC .NotEq)))) (fun _ => none) sNext)
  (sSeq (sAsg 6 (fVar 0) (gT (gsCons (gN 1) (gsCons (gN 2) (gsCons (gN 3) gsNil))) 3))
  (sSeq (sIf 6 (tOrB (tNotB (ft (fIsi (fVar 1) "tuple"))) (ft (fBin (fCall (aCons (fVar 1) aNil) semLen) (fC (.int 6)) (semC .Gt)))) (fun _ => none) sNext)
  (sSeq (sFor 6 (iEnumF (fVar 1)) (gT (gsCons (gN 4) (gsCons (gN 5) gsNil)) 2) lb_need_problem_1)
  (sSeq (sIf 6 (tOrB (tNotB (ft (fIsi (fVar 2) "tuple"))) (ft (fBin (fCall (aCons (fVar 2) aNil) semLen) (fC (.int 4)) (semC .Gt)))) (fun _ => none) sNext)
  (sSeq (sFor 6 (iEnumF (fVar 2)) (gT (gsCons (gN 4) (gsCons (gN 5) gsNil)) 2) lb_need_problem_2)
  (sSeq (sIf 6 (tNotB (ft (fFn (aCons (aFz (fVar 3)) (aCons (fC (.int 0)) (aCons (aFz (fC (.int 100))) aNil))) F_is_in))) (fun _ => none) sNext)
  (sIf 6 (tAndB (tNotB (ft (fVar 1))) (tNotB (ft (fVar 2)))) (fun _ => none) sNext))))))))
def F_need_problem : Fn := ⟨[false], gDef 6 [false] fb_need_problem⟩
def fb_is_giver : FS :=
  (sSeq (sAsg 5 (fVar 0) (gT (gsCons (gN 2) (gsCons (gN 3) (gsCons (gN 4) gsNil))) 3))
  (sSeq (sIf 5 (ft (fBin (fVar 1) (fCall (aCons (fVar 2) aNil) semLen) (semC .Lt))) (sRet (fBin (fBin (fBin (fVar 2) (fVar 1) semIx) (fC (.int 0)) semIx) (fBin (fBin (fVar 2) (fVar 1) semIx) (fC (.int 1)) semIx) (semC .Gt))) sNext)
  (sRet (fBin (fBin (fBin (fVar 3) (fBin (fVar 1) (fCall (aCons (fVar 2) aNil) semLen) (semBin .Sub)) semIx) (fC (.int 1)) semIx) (fC (.int 0)) (semC .Gt)))))
def F_is_giver : Fn := ⟨[false, false], gDef 5 [false, false] fb_is_giver⟩
def fb_span_of : FS :=
  (sSeq (sAsg 11 (fVar 0) (gT (gsCons (gN 2) (gsCons (gN 3) (gsCons (gN 4) gsNil))) 3))
  (sSeq (sSet 11 5 (fIf (ft (fFn (aCons (aFz (fVar 0)) (aCons (aFz (fVar 1)) aNil)) F_is_giver)) (fVar 4) (fC (.int 0))))
  (sSeq (sIf 11 (ft (fBin (fVar 1) (fCall (aCons (fVar 2) aNil) semLen) (semC .Lt))) (sSeq (sAsg 11 (fBin (fVar 2) (fVar 1) semIx) (gT (gsCons (gN 6) (gsCons (gN 7) (gsCons (gN 8) gsNil))) 3))
  (sRet (fTup (aCons (fBin (fCall (aCons (fVar 6) (aCons (fVar 7) aNil)) semMax2) (fVar 5) (semBin .Sub)) (aCons (fBin (fCall (aCons (fVar 6) (aCons (fVar 7) aNil)) semMin2) (fVar 5) (semBin .Sub)) (aCons (aFz (fVar 8)) (aCons (fC (.int 0)) aNil))))))) sNext)
  (sSeq (sAsg 11 (fBin (fVar 3) (fBin (fVar 1) (fCall (aCons (fVar 2) aNil) semLen) (semBin .Sub)) semIx) (gT (gsCons (gN 9) (gsCons (gN 10) gsNil)) 2))
  (sRet (fTup (aCons (fBin (fVar 9) (fVar 5) (semBin .Sub)) (aCons (fBin (fVar 9) (fVar 5) (semBin .Sub)) (aCons (fC (.int 0)) (aCons (fCall (aCons (fVar 10) aNil) semAbs) aNil))))))))))
def F_span_of : Fn := ⟨[false, false], gDef 11 [false, false] fb_span_of⟩
def lb_levels_of_1 : FS :=
  (sSeq (sAsg 7 (fFn (aCons (aFz (fVar 0)) (aCons (aFz (fVar 2)) aNil)) F_span_of) (gT (gsCons (gN 3) (gsCons (gN 4) (gsCons (gN 5) (gsCons (gN 6) gsNil)))) 4))
  (sSeq (sPut 7 (fC (.bool true)) (fVar 1) (fVar 3))
  (sPut 7 (fC (.bool true)) (fVar 1) (fVar 4))))
def fb_levels_of : FS :=
  (sSeq (sSet 7 1 (fNewD (.dict [])))
  (sSeq (sFor 7 (iRg1 (aCons (fBin (fCall (aCons (fBin (fVar 0) (fC (.int 0)) semIx) aNil) semLen) (fCall (aCons (fBin (fVar 0) (fC (.int 1)) semIx) aNil) semLen) (semBin .Add)) aNil)) (gN 2) lb_levels_of_1)
  (sRet (fUn (fNew (aCons (fNew (aCons (fVar 1) aNil) semListD) aNil) semSort) semRevA))))
def F_levels_of : Fn := ⟨[false], gDef 7 [false] fb_levels_of⟩
def fb_numbers_of : FS :=
  (sSeq (sSet 4 2 (fBin (fCall (aCons (fBin (fVar 0) (fC (.int 0)) semIx) aNil) semLen) (fCall (aCons (fBin (fVar 0) (fC (.int 1)) semIx) aNil) semLen) (semBin .Add)))
  (sRet (fLc [3] (iRg1 (aCons (aFz (fVar 2)) aNil)) (gN 3) (ft (fBin (fFn (aCons (aFz (fVar 0)) (aCons (aFz (fVar 3)) aNil)) F_is_giver) (fVar 1) (semC .Eq))) (fVar 3))))
def F_numbers_of : Fn := ⟨[false, false], gDef 4 [false, false] fb_numbers_of⟩
def fb_heat_above : FS :=
  (sSeq (sAsg 8 (fFn (aCons (aFz (fVar 0)) (aCons (aFz (fVar 1)) aNil)) F_span_of) (gT (gsCons (gN 4) (gsCons (gN 5) (gsCons (gN 6) (gsCons (gN 7) gsNil)))) 4))
  (sSeq (sIf 8 (ft (fBin (fVar 6) (fC (.int 0)) (semC .Eq))) (sRet (fIf (tOrB (ft (fBin (fVar 4) (fVar 2) (semC .Gt))) (tAndB (ft (fBin (fVar 4) (fVar 2) (semC .Eq))) (tNotB (ft (fVar 3))))) (fVar 7) (fC (.int 0)))) sNext)
  (sRet (fBin (fVar 6) (fCall (aCons (fC (.int 0)) (aCons (fBin (fVar 4) (fCall (aCons (fVar 2) (aCons (fVar 5) aNil)) semMax2) (semBin .Sub)) aNil)) semMax2) (semBin .Mult)))))
def F_heat_above : Fn := ⟨[false, false, false, false], gDef 8 [false, false, false, false] fb_heat_above⟩
def fb_need_above : FS :=
  (sSeq (sSet 5 3 (fSum [4] (iSeq (fFn (aCons (aFz (fVar 0)) (aCons (fC (.bool false)) aNil)) F_numbers_of)) (gN 4) tYesF (fFn (aCons (aFz (fVar 0)) (aCons (aFz (fVar 4)) (aCons (aFz (fVar 1)) (aCons (aFz (fVar 2)) aNil)))) F_heat_above)))
  (sRet (fBin (fVar 3) (fSum [4] (iSeq (fFn (aCons (aFz (fVar 0)) (aCons (fC (.bool true)) aNil)) F_numbers_of)) (gN 4) tYesF (fFn (aCons (aFz (fVar 0)) (aCons (aFz (fVar 4)) (aCons (aFz (fVar 1)) (aCons (aFz (fVar 2)) aNil)))) F_heat_above)) (semBin .Sub))))
def F_need_above : Fn := ⟨[false, false, false], gDef 5 [false, false, false] fb_need_above⟩
def lb_heating_of_1 : FS :=
  (sSet 3 1 (fCall (aCons (fVar 1) (aCons (fFn (aCons (aFz (fVar 0)) (aCons (aFz (fVar 2)) (aCons (fC (.bool true)) aNil))) F_need_above) (aCons (fFn (aCons (aFz (fVar 0)) (aCons (aFz (fVar 2)) (aCons (fC (.bool false)) aNil))) F_need_above) aNil))) semMax3))
def fb_heating_of : FS :=
  (sSeq (sSet 3 1 (fC (.int 0)))
  (sSeq (sFor 3 (iSeq (fFn (aCons (aFz (fVar 0)) aNil) F_levels_of)) (gN 2) lb_heating_of_1)
  (sRet (fVar 1))))
def F_heating_of : Fn := ⟨[false], gDef 3 [false] fb_heating_of⟩
def lb_corners_of_1 : FS :=
  (sIf 18 (ft (fBin (fVar 5) (fCall (aCons (fVar 16) aNil) semLen) (semC .Lt))) (sSeq (sPut 18 (fC (.bool true)) (fVar 4) (fBin (fBin (fVar 16) (fVar 5) semIx) (fC (.int 0)) semIx))
  (sPut 18 (fC (.bool true)) (fVar 4) (fBin (fBin (fVar 16) (fVar 5) semIx) (fC (.int 1)) semIx))) (sPut 18 (fC (.bool true)) (fVar 4) (fBin (fBin (fVar 14) (fBin (fVar 5) (fCall (aCons (fVar 16) aNil) semLen) (semBin .Sub)) semIx) (fC (.int 0)) semIx)))
def lb_corners_of_2 : FS :=
  (sSeq (sAsg 18 (fBin (fVar 16) (fVar 5) semIx) (gT (gsCons (gN 10) (gsCons (gN 11) (gsCons (gN 12) gsNil))) 3))
  (sIf 18 (tAndB (ft (fBin (fCall (aCons (fVar 10) (aCons (fVar 11) aNil)) semMin2) (fBin (fVar 8) (fBin (fVar 9) (fC (.int 1)) (semBin .Sub)) semIx) (semC .LtE))) (ft (fBin (fCall (aCons (fVar 10) (aCons (fVar 11) aNil)) semMax2) (fVar 15) (semC .GtE)))) (sSet 18 7 (fBin (fVar 7) (fBin (fVar 12) (fBin (fVar 15) (fBin (fVar 8) (fBin (fVar 9) (fC (.int 1)) (semBin .Sub)) semIx) (semBin .Sub)) (semBin .Mult)) (semBin .Add))) sNext))
def lb_corners_of_3 : FS :=
  (sSeq (sIf 18 (ft (fBin (fVar 9) (fC (.int 0)) (semC .Gt))) (sFor 18 (iSeq (fLc [17] (iSeq (fVar 3)) (gN 17) (ft (fBin (fVar 17) (fCall (aCons (fVar 16) aNil) semLen) (semC .Lt))) (fVar 17))) (gN 5) lb_corners_of_2) sNext)
  (sSeq (sExp 18 (fMut (fVar 6) (fTup (aCons (aFz (fVar 7)) (aCons (aFz (fVar 15)) aNil))) semApp))
  (sSeq (sSet 18 13 (fSum [17] (iSeq (fVar 3)) (gN 17) (tAndB (ft (fBin (fVar 17) (fCall (aCons (fVar 16) aNil) semLen) (semC .GtE))) (ft (fBin (fBin (fBin (fVar 14) (fBin (fVar 17) (fCall (aCons (fVar 16) aNil) semLen) (semBin .Sub)) semIx) (fC (.int 0)) semIx) (fVar 15) (semC .Eq)))) (fCall (aCons (fBin (fBin (fVar 14) (fBin (fVar 17) (fCall (aCons (fVar 16) aNil) semLen) (semBin .Sub)) semIx) (fC (.int 1)) semIx) aNil) semAbs)))
  (sIf 18 (ft (fBin (fVar 13) (fC (.int 0)) (semC .Gt))) (sSeq (sSet 18 7 (fBin (fVar 7) (fVar 13) (semBin .Add)))
  (sExp 18 (fMut (fVar 6) (fTup (aCons (aFz (fVar 7)) (aCons (aFz (fVar 15)) aNil))) semApp))) sNext))))
def fb_corners_of : FS :=
  (sSeq (sAsg 18 (fVar 0) (gT (gsCons (gN 16) (gsCons (gN 14) (gsCons (gN 2) gsNil))) 3))
  (sSeq (sSet 18 3 (fFn (aCons (aFz (fVar 0)) (aCons (aFz (fVar 1)) aNil)) F_numbers_of))
  (sSeq (sSet 18 4 (fNewD (.dict [])))
  (sSeq (sFor 18 (iSeq (fVar 3)) (gN 5) lb_corners_of_1)
  (sSeq (sPar3 18 6 7 8 (aCons (fLst aNil) (aCons (fC (.int 0)) (aCons (fNew (aCons (fNew (aCons (fVar 4) aNil) semListD) aNil) semSort) aNil))))
  (sSeq (sFor 18 (iEnumL (fVar 8)) (gT (gsCons (gN 9) (gsCons (gN 15) gsNil)) 2) lb_corners_of_3)
  (sRet (fVar 6))))))))
def F_corners_of : Fn := ⟨[false, false], gDef 18 [false, false] fb_corners_of⟩
def fb_curve : FS :=
  (sSeq (sExp 2 (fFn (aCons (aFz (fVar 0)) aNil) F_need_problem))
  (sSeq (sIf 2 (tNotB (ft (fIsi (fVar 1) "bool"))) (fun _ => none) sNext)
  (sRet (fCall (aCons (fFn (aCons (aFz (fVar 0)) (aCons (aFz (fVar 1)) aNil)) F_corners_of) aNil) semTuple))))
def F_curve : Fn := ⟨[false, false], gDef 2 [false, false] fb_curve⟩
def fb_gap_curve : FS :=
  (sSeq (sExp 3 (fFn (aCons (aFz (fVar 0)) aNil) F_need_problem))
  (sSeq (sIf 3 (tNotB (ft (fFn (aCons (aFz (fVar 1)) (aCons (fC (.int 0)) (aCons (aFz (fC (.int 100))) aNil))) F_is_in))) (fun _ => none) sNext)
  (sRet (fCall (aCons (fLc [2] (iRg1 (aCons (fBin (fVar 1) (fC (.int 1)) (semBin .Add)) aNil)) (gN 2) tYesF (fFn (aCons (fTup (aCons (fBin (fVar 0) (fC (.int 0)) semIx) (aCons (fBin (fVar 0) (fC (.int 1)) semIx) (aCons (aFz (fVar 2)) aNil)))) aNil) F_heating_of)) aNil) semTuple))))
def F_gap_curve : Fn := ⟨[false, false], gDef 3 [false, false] fb_gap_curve⟩
def lb_given_above_1 : FS :=
  (sExp 5 (fMut (fVar 2) (fSum [4] (iSeq (fFn (aCons (aFz (fVar 0)) (aCons (aFz (fVar 3)) aNil)) F_numbers_of)) (gN 4) tYesF (fFn (aCons (aFz (fVar 0)) (aCons (aFz (fVar 4)) (aCons (aFz (fVar 1)) (aCons (fC (.bool true)) aNil)))) F_heat_above)) semApp))
def fb_given_above : FS :=
  (sSeq (sExp 5 (fFn (aCons (aFz (fVar 0)) aNil) F_need_problem))
  (sSeq (sIf 5 (tOrB (tNotB (ft (fIsi (fVar 1) "int"))) (ft (fIsi (fVar 1) "bool"))) (fun _ => none) sNext)
  (sSeq (sSet 5 2 (fLst aNil))
  (sSeq (sFor 5 (iSeq (fTup (aCons (fC (.bool true)) (aCons (fC (.bool false)) aNil)))) (gN 3) lb_given_above_1)
  (sRet (fTup (aCons (fBin (fVar 2) (fC (.int 0)) semIx) (aCons (fBin (fVar 2) (fC (.int 1)) semIx) aNil))))))))
def F_given_above : Fn := ⟨[false, false], gDef 5 [false, false] fb_given_above⟩
def ib_law_1 : FS :=
  (sIf 12 (tAndB (ft (fBin (fVar 4) (fTup aNil) (semC .NotEq))) (tOrB (ft (fBin (fBin (fBin (fVar 4) (fC (.int 0)) semIx) (fC (.int 0)) semIx) (fC (.int 0)) (semC .NotEq))) (tOrB (ft (fBin (fNew (aCons (fNew (aCons (fVar 4) aNil) semList) aNil) semSort) (fNew (aCons (fVar 4) aNil) semList) (semC .NotEq))) (ft (fBin (fLenSetT (fVar 4)) (fCall (aCons (fVar 4) aNil) semLen) (semC .Lt)))))) (sRet (fC (.bool false))) sNext)
def lb_law_1 : FS :=
  (sSeq (sSet 12 8 (fIf (ft (fVar 3)) (fBin (fVar 7) (fBin (fVar 2) (fC (.int 2)) semIx) (semBin .Sub)) (fVar 7)))
  (sSeq (sSet 12 9 (fBin (fFn (aCons (aFz (fVar 2)) (aCons (aFz (fVar 8)) aNil)) F_given_above) (fIf (ft (fVar 3)) (fC (.int 0)) (fC (.int 1))) semIx))
  (sSeq (sSet 12 10 (fCall (aCons (fLc [11] (iSeq (fVar 4)) (gN 11) (ft (fBin (fBin (fVar 11) (fC (.int 1)) semIx) (fVar 7) (semC .Eq))) (fBin (fVar 11) (fC (.int 0)) semIx)) aNil) semMaxL))
  (sIf 12 (ft (fBin (fBin (fVar 5) (fVar 10) (semBin .Sub)) (fVar 9) (semC .NotEq))) (sRet (fC (.bool false))) sNext))))
def lb_law_2 : FS :=
  (sSeq (sSet 12 4 (fFn (aCons (aFz (fVar 2)) (aCons (aFz (fVar 3)) aNil)) F_curve))
  (sSeq ib_law_1
  (sSeq (sSet 12 5 (fIf (ft (fBin (fVar 4) (fTup aNil) (semC .NotEq))) (fBin (fBin (fVar 4) (fUn (fC (.int 1)) semNeg) semIx) (fC (.int 0)) semIx) (fC (.int 0))))
  (sSeq (sIf 12 (ft (fBin (fVar 5) (fBin (fFn (aCons (aFz (fVar 2)) (aCons (fUn (fC (.int 2000)) semNeg) aNil)) F_given_above) (fIf (ft (fVar 3)) (fC (.int 0)) (fC (.int 1))) semIx) (semC .NotEq))) (sRet (fC (.bool false))) sNext)
  (sFor 12 (iKill [6, 7, 8, 9, 10, 11] (iFz [1] (iSeq (fVar 4)))) (gT (gsCons (gN 6) (gsCons (gN 7) gsNil)) 2) (fKill [6, 7, 8, 9, 10, 11] lb_law_1))))))
def fb_law : FS :=
  (sSeq (sSet 12 1 (fLst (aCons (aFz (fVar 0)) (aCons (fC (.int 0)) (aCons (fC (.int 4078)) (aCons (fC (.int 0)) aNil))))))
  (sSeq (sSet 12 2 (fFn (aCons (fVar 1) aNil) F__law_problem))
  (sSeq (sFor 12 (iKill [3, 4, 5, 6, 7, 8, 9, 10, 11] (iFz [1] (iSeq (fLst (aCons (fC (.bool true)) (aCons (fC (.bool false)) aNil)))))) (gN 3) (fKill [3, 4, 5, 6, 7, 8, 9, 10, 11] lb_law_2))
  (sRet (fBin (fBin (fCall (aCons (fFn (aCons (aFz (fVar 2)) (aCons (fC (.bool true)) aNil)) F_curve) aNil) semLen) (fCall (aCons (fFn (aCons (aFz (fVar 2)) (aCons (fC (.bool false)) aNil)) F_curve) aNil) semLen) (semBin .Add)) (fC (.int 2)) (semC .GtE))))))
def F_law : Fn := ⟨[false], gDef 12 [false] fb_law⟩
abbrev prg : Program := PySem.Challenge.pw_pinchworks_k78_across_curves
def top (i : Nat) : Stmt := prg.main.body.getD i (.Pass ⟨0, 0, 0, 0⟩)
abbrev st__law_taken : Stmt := top 29
theorem sc__law_taken : FnScope ["_law_row", "_law_many", "_law_found", "_law_cell"] ["_law_row", "_law_many"] (defScope st__law_taken) := ⟨rfl, rfl, rfl, by decide +kernel, rfl, by decide +kernel, by decide +kernel⟩
def d__law_taken : He.DefD := ⟨("_law_taken", none), "_law_taken", "_law_taken", defArgs st__law_taken, defBody st__law_taken, defScope st__law_taken, [], []⟩
abbrev st__law_pick : Stmt := top 30
theorem sc__law_pick : FnScope ["_law_row", "_law_things"] ["_law_row", "_law_things"] (defScope st__law_pick) := ⟨rfl, rfl, rfl, by decide +kernel, rfl, by decide +kernel, by decide +kernel⟩
def d__law_pick : He.DefD := ⟨("_law_pick", none), "_law_pick", "_law_pick", defArgs st__law_pick, defBody st__law_pick, defScope st__law_pick, [], []⟩
abbrev st__law_problem : Stmt := top 32
theorem sc__law_problem : FnScope ["_law_row", "_law_streams", "_law_boxes", "_law_scale", "_law_k", "_law_start", "_law_goal", "_law_heat_here"] ["_law_row"] (defScope st__law_problem) := ⟨rfl, rfl, rfl, by decide +kernel, rfl, by decide +kernel, by decide +kernel⟩
def d__law_problem : He.DefD := ⟨("_law_problem", none), "_law_problem", "_law_problem", defArgs st__law_problem, defBody st__law_problem, defScope st__law_problem, [], []⟩
abbrev st_is_in : Stmt := top 15
theorem sc_is_in : FnScope ["value", "least", "most"] ["value", "least", "most"] (defScope st_is_in) := ⟨rfl, rfl, rfl, by decide +kernel, rfl, by decide +kernel, by decide +kernel⟩
def d_is_in : He.DefD := ⟨("is_in", none), "is_in", "is_in", defArgs st_is_in, defBody st_is_in, defScope st_is_in, [], []⟩
abbrev st_is_stream : Stmt := top 16
theorem sc_is_stream : FnScope ["value", "one"] ["value"] (defScope st_is_stream) := ⟨rfl, rfl, rfl, by decide +kernel, rfl, by decide +kernel, by decide +kernel⟩
def d_is_stream : He.DefD := ⟨("is_stream", none), "is_stream", "is_stream", defArgs st_is_stream, defBody st_is_stream, defScope st_is_stream, [], []⟩
abbrev st_is_box : Stmt := top 17
theorem sc_is_box : FnScope ["value"] ["value"] (defScope st_is_box) := ⟨rfl, rfl, rfl, by decide +kernel, rfl, by decide +kernel, by decide +kernel⟩
def d_is_box : He.DefD := ⟨("is_box", none), "is_box", "is_box", defArgs st_is_box, defBody st_is_box, defScope st_is_box, [], []⟩
abbrev st_need_problem : Stmt := top 18
theorem sc_need_problem : FnScope ["problem", "streams", "boxes", "gap", "index", "one"] ["problem"] (defScope st_need_problem) := ⟨rfl, rfl, rfl, by decide +kernel, rfl, by decide +kernel, by decide +kernel⟩
def d_need_problem : He.DefD := ⟨("need_problem", none), "need_problem", "need_problem", defArgs st_need_problem, defBody st_need_problem, defScope st_need_problem, [], []⟩
abbrev st_is_giver : Stmt := top 19
theorem sc_is_giver : FnScope ["problem", "number", "streams", "boxes", "gap"] ["problem", "number"] (defScope st_is_giver) := ⟨rfl, rfl, rfl, by decide +kernel, rfl, by decide +kernel, by decide +kernel⟩
def d_is_giver : He.DefD := ⟨("is_giver", none), "is_giver", "is_giver", defArgs st_is_giver, defBody st_is_giver, defScope st_is_giver, [], []⟩
abbrev st_numbers_of : Stmt := top 21
theorem sc_numbers_of : FnScope ["problem", "are_givers", "many", "number"] ["problem", "are_givers"] (defScope st_numbers_of) := ⟨rfl, rfl, rfl, by decide +kernel, rfl, by decide +kernel, by decide +kernel⟩
def d_numbers_of : He.DefD := ⟨("numbers_of", none), "numbers_of", "numbers_of", defArgs st_numbers_of, defBody st_numbers_of, defScope st_numbers_of, [], []⟩
abbrev st_corners_of : Stmt := top 24
theorem sc_corners_of : FnScope ["problem", "gives", "gap", "numbers", "places", "number", "found", "heat", "some", "at", "start", "goal", "rate", "step", "boxes", "here", "streams", "one"] ["problem", "gives"] (defScope st_corners_of) := ⟨rfl, rfl, rfl, by decide +kernel, rfl, by decide +kernel, by decide +kernel⟩
def d_corners_of : He.DefD := ⟨("corners_of", none), "corners_of", "corners_of", defArgs st_corners_of, defBody st_corners_of, defScope st_corners_of, [], []⟩
abbrev st_curve : Stmt := top 25
theorem sc_curve : FnScope ["problem", "gives"] ["problem", "gives"] (defScope st_curve) := ⟨rfl, rfl, rfl, by decide +kernel, rfl, by decide +kernel, by decide +kernel⟩
def d_curve : He.DefD := ⟨("curve", none), "curve", "curve", defArgs st_curve, defBody st_curve, defScope st_curve, [], []⟩
abbrev st_span_of : Stmt := top 20
theorem sc_span_of : FnScope ["problem", "number", "streams", "boxes", "gap", "down", "start", "goal", "rate", "temperature", "heat"] ["problem", "number"] (defScope st_span_of) := ⟨rfl, rfl, rfl, by decide +kernel, rfl, by decide +kernel, by decide +kernel⟩
def d_span_of : He.DefD := ⟨("span_of", none), "span_of", "span_of", defArgs st_span_of, defBody st_span_of, defScope st_span_of, [], []⟩
abbrev st_heat_above : Stmt := top 22
theorem sc_heat_above : FnScope ["problem", "number", "level", "is_open", "upper", "lower", "rate", "heat"] ["problem", "number", "level", "is_open"] (defScope st_heat_above) := ⟨rfl, rfl, rfl, by decide +kernel, rfl, by decide +kernel, by decide +kernel⟩
def d_heat_above : He.DefD := ⟨("heat_above", none), "heat_above", "heat_above", defArgs st_heat_above, defBody st_heat_above, defScope st_heat_above, [], []⟩
abbrev st_given_above : Stmt := top 27
theorem sc_given_above : FnScope ["problem", "level", "sums", "are_givers", "number"] ["problem", "level"] (defScope st_given_above) := ⟨rfl, rfl, rfl, by decide +kernel, rfl, by decide +kernel, by decide +kernel⟩
def d_given_above : He.DefD := ⟨("given_above", none), "given_above", "given_above", defArgs st_given_above, defBody st_given_above, defScope st_given_above, [], []⟩
abbrev st_law : Stmt := top 38
theorem sc_law : FnScope ["_law_script", "_law_row", "_law_problem_here", "_law_gives", "_law_corners", "_law_whole", "_law_heat_here", "_law_temperature", "_law_level", "_law_above", "_law_highest", "_law_one"] ["_law_script"] (defScope st_law) := ⟨rfl, rfl, rfl, by decide +kernel, rfl, by decide +kernel, by decide +kernel⟩
def d_law : He.DefD := ⟨("law", none), "law", "law", defArgs st_law, defBody st_law, defScope st_law, [], []⟩
def fn : List He.DefD := [d__law_taken, d__law_pick, d__law_problem, d_is_in, d_is_stream, d_is_box, d_need_problem, d_is_giver, d_numbers_of, d_corners_of, d_curve, d_span_of, d_heat_above, d_given_above, d_law]
def fa : List He.Fa := [.glo "_law_taken", .glo "_law_pick", .glo "_law_problem", .glo "is_in", .glo "is_stream", .glo "is_box", .glo "need_problem", .glo "is_giver", .glo "numbers_of", .glo "corners_of", .glo "curve", .glo "span_of", .glo "heat_above", .glo "given_above", .glo "law", .free "abs", .free "all", .free "bool", .free "enumerate", .free "int", .free "isinstance", .free "len", .free "list", .free "max", .free "min", .free "range", .free "set", .free "sorted", .free "sum", .free "tuple", .int "MOST_BOXES" 4, .int "MOST_GAP" 100, .int "MOST_HEAT" 10000, .int "MOST_RATE" 100, .int "MOST_STREAMS" 6, .int "MOST_TEMPERATURE" 1000]
def tf : List He.Defn := [("is_stream", none), ("corners_of", none), ("given_above", none)]
section
variable {P : Program} {w : World} {K : PySem.W.Frag} {mg : Str → Option Value} {base : Heap} {T : List Addr}
theorem c__law_taken (L : LC K mg base T fa fn tf) : Ctr P w K mg base CX0 1 T "_law_taken" F__law_taken := by
  obtain ⟨fd, Fd⟩ := L.c.def_ 0 (d := d__law_taken) rfl
  have m_int := L.free 19 (x := "int") rfl
  have m_len := L.free 21 (x := "len") rfl
  refine ctr_of L 0 rfl Fd (Fd.bindsN (ps := ["_law_row", "_law_many"]) fun _ _ _ _ _ _ us hl => match us, hl with | [_, _], _ => by kernel_rfl) ?_
  refine fn_okC (N := ["_law_row", "_law_many", "_law_found", "_law_cell"]) (k := 0) (ios := [true, false]) (fb := fb__law_taken) Fd sc__law_taken rfl (by decide) fun A outer s H E Ex0 H0 I0 hr0 => ?_
  exact (ess_cons (es_if rfl (et_cmp (semC_bool .Gt) (or_c (Room.u65 hr0) .Gt) (ev_ix (Room.u1 hr0) (ev_var (i := 0) (by first | kernel_rfl | (unfold Gl; kernel_rfl)) (.inl (by first | kernel_rfl | (unfold Gl; kernel_rfl))) (by first | kernel_rfl | (unfold Gl; kernel_rfl)) (by first | kernel_rfl | (unfold Gl; kernel_rfl))) (ev_cst rfl) (by first | kernel_rfl | (unfold Gl; kernel_rfl))) (ev_cst rfl) (by first | kernel_rfl | (unfold Gl; kernel_rfl))) (ess_cons (es_set (i := 2) sc__law_taken.nd rfl (by first | kernel_rfl | (unfold Gl; kernel_rfl)) (.inl (by first | kernel_rfl | (unfold Gl; kernel_rfl))) (.inr (by first | kernel_rfl | (unfold Gl; kernel_rfl))) (ev_bin (ev_bltT cr_int (by first | kernel_rfl | (unfold Gl; kernel_rfl)) m_int PyProof.Rows.boot_int (ea_cons (ev_ix (Room.u1 hr0) (ev_var (i := 0) (by first | kernel_rfl | (unfold Gl; kernel_rfl)) (.inl (by first | kernel_rfl | (unfold Gl; kernel_rfl))) (by first | kernel_rfl | (unfold Gl; kernel_rfl)) (by first | kernel_rfl | (unfold Gl; kernel_rfl))) (ev_cst rfl) (by first | kernel_rfl | (unfold Gl; kernel_rfl))) ea_nil (by first | kernel_rfl | (unfold Gl; kernel_rfl))) (by decide +kernel) (by first | kernel_rfl | (unfold Gl; kernel_rfl)) (by first | kernel_rfl | (unfold Gl; kernel_rfl)) (by first | kernel_rfl | (unfold Gl; kernel_rfl))) (ev_var (i := 1) (by first | kernel_rfl | (unfold Gl; kernel_rfl)) (.inl (by first | kernel_rfl | (unfold Gl; kernel_rfl))) (by first | kernel_rfl | (unfold Gl; kernel_rfl)) (by first | kernel_rfl | (unfold Gl; kernel_rfl)))) (by first | kernel_rfl | (unfold Gl; kernel_rfl)))
  (ess_cons (es_put rfl (Room.u1 hr0) (ev_bin (ev_ix (Room.u1 hr0) (ev_var (i := 0) (by first | kernel_rfl | (unfold Gl; kernel_rfl)) (.inl (by first | kernel_rfl | (unfold Gl; kernel_rfl))) (by first | kernel_rfl | (unfold Gl; kernel_rfl)) (by first | kernel_rfl | (unfold Gl; kernel_rfl))) (ev_cst rfl) (by first | kernel_rfl | (unfold Gl; kernel_rfl))) (ev_var (i := 1) (by first | kernel_rfl | (unfold Gl; kernel_rfl)) (.inl (by first | kernel_rfl | (unfold Gl; kernel_rfl))) (by first | kernel_rfl | (unfold Gl; kernel_rfl)) (by first | kernel_rfl | (unfold Gl; kernel_rfl)))) (ev_var (i := 0) (by first | kernel_rfl | (unfold Gl; kernel_rfl)) (.inl (by first | kernel_rfl | (unfold Gl; kernel_rfl))) (by first | kernel_rfl | (unfold Gl; kernel_rfl)) (by first | kernel_rfl | (unfold Gl; kernel_rfl))) (ev_cst rfl) (by first | kernel_rfl | (unfold Gl; kernel_rfl)) (by first | kernel_rfl | (unfold Gl; kernel_rfl)) (by first | kernel_rfl | (unfold Gl; kernel_rfl)) (fun _ => (by first | kernel_rfl | (unfold Gl; kernel_rfl))))
  (ess_one (es_ret (ev_var (i := 2) (by first | kernel_rfl | (unfold Gl; kernel_rfl)) (.inl (by first | kernel_rfl | (unfold Gl; kernel_rfl))) (by first | kernel_rfl | (unfold Gl; kernel_rfl)) (by first | kernel_rfl | (unfold Gl; kernel_rfl))))))) ess_nil)
  (ess_cons (es_put rfl (Room.u1 hr0) (ev_bin (ev_ix (Room.u1 hr0) (ev_var (i := 0) (by first | kernel_rfl | (unfold Gl; kernel_rfl)) (.inl (by first | kernel_rfl | (unfold Gl; kernel_rfl))) (by first | kernel_rfl | (unfold Gl; kernel_rfl)) (by first | kernel_rfl | (unfold Gl; kernel_rfl))) (ev_cst rfl) (by first | kernel_rfl | (unfold Gl; kernel_rfl))) (ev_cst rfl)) (ev_var (i := 0) (by first | kernel_rfl | (unfold Gl; kernel_rfl)) (.inl (by first | kernel_rfl | (unfold Gl; kernel_rfl))) (by first | kernel_rfl | (unfold Gl; kernel_rfl)) (by first | kernel_rfl | (unfold Gl; kernel_rfl))) (ev_cst rfl) (by first | kernel_rfl | (unfold Gl; kernel_rfl)) (by first | kernel_rfl | (unfold Gl; kernel_rfl)) (by first | kernel_rfl | (unfold Gl; kernel_rfl)) (fun _ => (by first | kernel_rfl | (unfold Gl; kernel_rfl))))
  (ess_cons (es_if rfl (et_cmp (semC_bool .Gt) (or_c (Room.u65 hr0) .Gt) (ev_ix (Room.u1 hr0) (ev_var (i := 0) (by first | kernel_rfl | (unfold Gl; kernel_rfl)) (.inl (by first | kernel_rfl | (unfold Gl; kernel_rfl))) (by first | kernel_rfl | (unfold Gl; kernel_rfl)) (by first | kernel_rfl | (unfold Gl; kernel_rfl))) (ev_cst rfl) (by first | kernel_rfl | (unfold Gl; kernel_rfl))) (ev_blt cr_len (by first | kernel_rfl | (unfold Gl; kernel_rfl)) m_len boot_len (ea_cons (ev_ix (Room.u1 hr0) (ev_var (i := 0) (by first | kernel_rfl | (unfold Gl; kernel_rfl)) (.inl (by first | kernel_rfl | (unfold Gl; kernel_rfl))) (by first | kernel_rfl | (unfold Gl; kernel_rfl)) (by first | kernel_rfl | (unfold Gl; kernel_rfl))) (ev_cst rfl) (by first | kernel_rfl | (unfold Gl; kernel_rfl))) ea_nil (by first | kernel_rfl | (unfold Gl; kernel_rfl))) (by decide +kernel) (by first | kernel_rfl | (unfold Gl; kernel_rfl)) (by first | kernel_rfl | (unfold Gl; kernel_rfl)) (by first | kernel_rfl | (unfold Gl; kernel_rfl))) (by first | kernel_rfl | (unfold Gl; kernel_rfl))) (ess_cons (es_put rfl (Room.u1 hr0) (ev_bin (ev_bltT cr_int (by first | kernel_rfl | (unfold Gl; kernel_rfl)) m_int PyProof.Rows.boot_int (ea_cons (ev_bin (ev_bin (ev_ix (Room.u1 hr0) (ev_var (i := 0) (by first | kernel_rfl | (unfold Gl; kernel_rfl)) (.inl (by first | kernel_rfl | (unfold Gl; kernel_rfl))) (by first | kernel_rfl | (unfold Gl; kernel_rfl)) (by first | kernel_rfl | (unfold Gl; kernel_rfl))) (ev_cst rfl) (by first | kernel_rfl | (unfold Gl; kernel_rfl))) (ev_cst rfl)) (ev_cst rfl)) ea_nil (by first | kernel_rfl | (unfold Gl; kernel_rfl))) (by decide +kernel) (by first | kernel_rfl | (unfold Gl; kernel_rfl)) (by first | kernel_rfl | (unfold Gl; kernel_rfl)) (by first | kernel_rfl | (unfold Gl; kernel_rfl))) (ev_cst rfl)) (ev_var (i := 0) (by first | kernel_rfl | (unfold Gl; kernel_rfl)) (.inl (by first | kernel_rfl | (unfold Gl; kernel_rfl))) (by first | kernel_rfl | (unfold Gl; kernel_rfl)) (by first | kernel_rfl | (unfold Gl; kernel_rfl))) (ev_cst rfl) (by first | kernel_rfl | (unfold Gl; kernel_rfl)) (by first | kernel_rfl | (unfold Gl; kernel_rfl)) (by first | kernel_rfl | (unfold Gl; kernel_rfl)) (fun _ => (by first | kernel_rfl | (unfold Gl; kernel_rfl))))
  (ess_one (es_ret (ev_bin (ev_bltT cr_int (by first | kernel_rfl | (unfold Gl; kernel_rfl)) m_int PyProof.Rows.boot_int (ea_cons (ev_bin (ev_ix (Room.u1 hr0) (ev_var (i := 0) (by first | kernel_rfl | (unfold Gl; kernel_rfl)) (.inl (by first | kernel_rfl | (unfold Gl; kernel_rfl))) (by first | kernel_rfl | (unfold Gl; kernel_rfl)) (by first | kernel_rfl | (unfold Gl; kernel_rfl))) (ev_cst rfl) (by first | kernel_rfl | (unfold Gl; kernel_rfl))) (ev_cst rfl)) ea_nil (by first | kernel_rfl | (unfold Gl; kernel_rfl))) (by decide +kernel) (by first | kernel_rfl | (unfold Gl; kernel_rfl)) (by first | kernel_rfl | (unfold Gl; kernel_rfl)) (by first | kernel_rfl | (unfold Gl; kernel_rfl))) (ev_var (i := 1) (by first | kernel_rfl | (unfold Gl; kernel_rfl)) (.inl (by first | kernel_rfl | (unfold Gl; kernel_rfl))) (by first | kernel_rfl | (unfold Gl; kernel_rfl)) (by first | kernel_rfl | (unfold Gl; kernel_rfl))))))) ess_nil)
  (ess_cons (es_set (i := 3) sc__law_taken.nd rfl (by first | kernel_rfl | (unfold Gl; kernel_rfl)) (.inl (by first | kernel_rfl | (unfold Gl; kernel_rfl))) (.inr (by first | kernel_rfl | (unfold Gl; kernel_rfl))) (ev_ix (Room.u1 hr0) (ev_ix (Room.u1 hr0) (ev_var (i := 0) (by first | kernel_rfl | (unfold Gl; kernel_rfl)) (.inl (by first | kernel_rfl | (unfold Gl; kernel_rfl))) (by first | kernel_rfl | (unfold Gl; kernel_rfl)) (by first | kernel_rfl | (unfold Gl; kernel_rfl))) (ev_cst rfl) (by first | kernel_rfl | (unfold Gl; kernel_rfl))) (ev_bin (ev_ix (Room.u1 hr0) (ev_var (i := 0) (by first | kernel_rfl | (unfold Gl; kernel_rfl)) (.inl (by first | kernel_rfl | (unfold Gl; kernel_rfl))) (by first | kernel_rfl | (unfold Gl; kernel_rfl)) (by first | kernel_rfl | (unfold Gl; kernel_rfl))) (ev_cst rfl) (by first | kernel_rfl | (unfold Gl; kernel_rfl))) (ev_cst rfl)) (by first | kernel_rfl | (unfold Gl; kernel_rfl))) (by first | kernel_rfl | (unfold Gl; kernel_rfl)))
  (ess_cons (es_put rfl (Room.u1 hr0) (ev_bin (ev_bltT cr_int (by first | kernel_rfl | (unfold Gl; kernel_rfl)) m_int PyProof.Rows.boot_int (ea_cons (ev_bin (ev_bin (ev_bin (ev_ix (Room.u1 hr0) (ev_var (i := 0) (by first | kernel_rfl | (unfold Gl; kernel_rfl)) (.inl (by first | kernel_rfl | (unfold Gl; kernel_rfl))) (by first | kernel_rfl | (unfold Gl; kernel_rfl)) (by first | kernel_rfl | (unfold Gl; kernel_rfl))) (ev_cst rfl) (by first | kernel_rfl | (unfold Gl; kernel_rfl))) (ev_cst rfl)) (ev_var (i := 3) (by first | kernel_rfl | (unfold Gl; kernel_rfl)) (.inl (by first | kernel_rfl | (unfold Gl; kernel_rfl))) (by first | kernel_rfl | (unfold Gl; kernel_rfl)) (by first | kernel_rfl | (unfold Gl; kernel_rfl)))) (ev_cst rfl)) ea_nil (by first | kernel_rfl | (unfold Gl; kernel_rfl))) (by decide +kernel) (by first | kernel_rfl | (unfold Gl; kernel_rfl)) (by first | kernel_rfl | (unfold Gl; kernel_rfl)) (by first | kernel_rfl | (unfold Gl; kernel_rfl))) (ev_cst rfl)) (ev_var (i := 0) (by first | kernel_rfl | (unfold Gl; kernel_rfl)) (.inl (by first | kernel_rfl | (unfold Gl; kernel_rfl))) (by first | kernel_rfl | (unfold Gl; kernel_rfl)) (by first | kernel_rfl | (unfold Gl; kernel_rfl))) (ev_cst rfl) (by first | kernel_rfl | (unfold Gl; kernel_rfl)) (by first | kernel_rfl | (unfold Gl; kernel_rfl)) (by first | kernel_rfl | (unfold Gl; kernel_rfl)) (fun _ => (by first | kernel_rfl | (unfold Gl; kernel_rfl))))
  (ess_cons (es_if rfl (et_cmp (semC_bool .GtE) (or_c (Room.u65 hr0) .GtE) (ev_var (i := 3) (by first | kernel_rfl | (unfold Gl; kernel_rfl)) (.inl (by first | kernel_rfl | (unfold Gl; kernel_rfl))) (by first | kernel_rfl | (unfold Gl; kernel_rfl)) (by first | kernel_rfl | (unfold Gl; kernel_rfl))) (ev_bin (ev_cst rfl) (ev_cst rfl)) (by first | kernel_rfl | (unfold Gl; kernel_rfl))) (ess_one (es_put rfl (Room.u1 hr0) (ev_bin (ev_var (i := 3) (by first | kernel_rfl | (unfold Gl; kernel_rfl)) (.inl (by first | kernel_rfl | (unfold Gl; kernel_rfl))) (by first | kernel_rfl | (unfold Gl; kernel_rfl)) (by first | kernel_rfl | (unfold Gl; kernel_rfl))) (ev_var (i := 1) (by first | kernel_rfl | (unfold Gl; kernel_rfl)) (.inl (by first | kernel_rfl | (unfold Gl; kernel_rfl))) (by first | kernel_rfl | (unfold Gl; kernel_rfl)) (by first | kernel_rfl | (unfold Gl; kernel_rfl)))) (ev_var (i := 0) (by first | kernel_rfl | (unfold Gl; kernel_rfl)) (.inl (by first | kernel_rfl | (unfold Gl; kernel_rfl))) (by first | kernel_rfl | (unfold Gl; kernel_rfl)) (by first | kernel_rfl | (unfold Gl; kernel_rfl))) (ev_cst rfl) (by first | kernel_rfl | (unfold Gl; kernel_rfl)) (by first | kernel_rfl | (unfold Gl; kernel_rfl)) (by first | kernel_rfl | (unfold Gl; kernel_rfl)) (fun _ => (by first | kernel_rfl | (unfold Gl; kernel_rfl))))) ess_nil)
  (ess_one (es_ret (ev_bin (ev_bltT cr_int (by first | kernel_rfl | (unfold Gl; kernel_rfl)) m_int PyProof.Rows.boot_int (ea_cons (ev_var (i := 3) (by first | kernel_rfl | (unfold Gl; kernel_rfl)) (.inl (by first | kernel_rfl | (unfold Gl; kernel_rfl))) (by first | kernel_rfl | (unfold Gl; kernel_rfl)) (by first | kernel_rfl | (unfold Gl; kernel_rfl))) ea_nil (by first | kernel_rfl | (unfold Gl; kernel_rfl))) (by decide +kernel) (by first | kernel_rfl | (unfold Gl; kernel_rfl)) (by first | kernel_rfl | (unfold Gl; kernel_rfl)) (by first | kernel_rfl | (unfold Gl; kernel_rfl))) (ev_var (i := 1) (by first | kernel_rfl | (unfold Gl; kernel_rfl)) (.inl (by first | kernel_rfl | (unfold Gl; kernel_rfl))) (by first | kernel_rfl | (unfold Gl; kernel_rfl)) (by first | kernel_rfl | (unfold Gl; kernel_rfl))))))))))))
theorem c__law_pick (L : LC K mg base T fa fn tf) : Ctr P w K mg base CX0 2 T "_law_pick" F__law_pick := by
  obtain ⟨fd, Fd⟩ := L.c.def_ 1 (d := d__law_pick) rfl
  have m_len := L.free 21 (x := "len") rfl
  refine ctr_of L 1 rfl Fd (Fd.bindsN (ps := ["_law_row", "_law_things"]) fun _ _ _ _ _ _ us hl => match us, hl with | [_, _], _ => by kernel_rfl) ?_
  refine fn_okC (N := ["_law_row", "_law_things"]) (k := 1) (ios := [true, false]) (fb := fb__law_pick) Fd sc__law_pick rfl (by decide) fun A outer s H E Ex0 H0 I0 hr0 => ?_
  exact (ess_one (es_ret (ev_ix (Room.u1 hr0) (ev_var (i := 1) (by first | kernel_rfl | (unfold Gl; kernel_rfl)) (.inl (by first | kernel_rfl | (unfold Gl; kernel_rfl))) (by first | kernel_rfl | (unfold Gl; kernel_rfl)) (by first | kernel_rfl | (unfold Gl; kernel_rfl))) (ev_call (((c__law_taken L).mono (by omega))) hr0 (by first | kernel_rfl | (unfold Gl; kernel_rfl)) (fun _ _ _ _ _ _ _ h => h.elim) (ea_cons (ev_var (i := 0) (by first | kernel_rfl | (unfold Gl; kernel_rfl)) (.inl (by first | kernel_rfl | (unfold Gl; kernel_rfl))) (by first | kernel_rfl | (unfold Gl; kernel_rfl)) (by first | kernel_rfl | (unfold Gl; kernel_rfl))) (ea_cons (ev_blt cr_len (by first | kernel_rfl | (unfold Gl; kernel_rfl)) m_len boot_len (ea_cons (ev_var (i := 1) (by first | kernel_rfl | (unfold Gl; kernel_rfl)) (.inl (by first | kernel_rfl | (unfold Gl; kernel_rfl))) (by first | kernel_rfl | (unfold Gl; kernel_rfl)) (by first | kernel_rfl | (unfold Gl; kernel_rfl))) ea_nil (by first | kernel_rfl | (unfold Gl; kernel_rfl))) (by decide +kernel) (by first | kernel_rfl | (unfold Gl; kernel_rfl)) (by first | kernel_rfl | (unfold Gl; kernel_rfl)) (by first | kernel_rfl | (unfold Gl; kernel_rfl))) ea_nil (by first | kernel_rfl | (unfold Gl; kernel_rfl))) (by first | kernel_rfl | (unfold Gl; kernel_rfl))) (by first | kernel_rfl | (unfold Gl; kernel_rfl)) (by first | kernel_rfl | (unfold Gl; kernel_rfl)) (by first | kernel_rfl | (unfold Gl; kernel_rfl))) (by first | kernel_rfl | (unfold Gl; kernel_rfl)))))
theorem c__law_problem (L : LC K mg base T fa fn tf) : Ctr P w K mg base CX0 3 T "_law_problem" F__law_problem := by
  obtain ⟨fd, Fd⟩ := L.c.def_ 2 (d := d__law_problem) rfl
  have m_range := L.free 25 (x := "range") rfl
  have m_tuple := L.free 29 (x := "tuple") rfl
  refine ctr_of L 2 rfl Fd (Fd.bindsN (ps := ["_law_row"]) fun _ _ _ _ _ _ us hl => match us, hl with | [_], _ => by kernel_rfl) ?_
  refine fn_okC (N := ["_law_row", "_law_streams", "_law_boxes", "_law_scale", "_law_k", "_law_start", "_law_goal", "_law_heat_here"]) (k := 2) (ios := [true]) (fb := fb__law_problem) Fd sc__law_problem rfl (by decide) fun A outer s H E Ex0 H0 I0 hr0 => ?_
  exact (ess_cons (es_par (i := 1) (j := 2) rfl sc__law_problem.nd rfl (by first | kernel_rfl | (unfold Gl; kernel_rfl)) (by first | kernel_rfl | (unfold Gl; kernel_rfl)) (by decide) (by first | kernel_rfl | (unfold Gl; kernel_rfl)) (by first | kernel_rfl | (unfold Gl; kernel_rfl)) (ea_cons (ev_lst ea_nil) (ea_cons (ev_lst ea_nil) ea_nil (by first | kernel_rfl | (unfold Gl; kernel_rfl))) (by first | kernel_rfl | (unfold Gl; kernel_rfl))) (by first | kernel_rfl | (unfold Gl; kernel_rfl)) (by first | kernel_rfl | (unfold Gl; kernel_rfl)))
  (ess_cons (es_set (i := 3) sc__law_problem.nd rfl (by first | kernel_rfl | (unfold Gl; kernel_rfl)) (.inl (by first | kernel_rfl | (unfold Gl; kernel_rfl))) (.inr (by first | kernel_rfl | (unfold Gl; kernel_rfl))) (ev_call (((c__law_pick L).mono (by omega))) hr0 (by first | kernel_rfl | (unfold Gl; kernel_rfl)) (fun _ _ _ _ _ _ _ h => h.elim) (ea_cons (ev_var (i := 0) (by first | kernel_rfl | (unfold Gl; kernel_rfl)) (.inl (by first | kernel_rfl | (unfold Gl; kernel_rfl))) (by first | kernel_rfl | (unfold Gl; kernel_rfl)) (by first | kernel_rfl | (unfold Gl; kernel_rfl))) (ea_cons (ev_fz (ev_lst (ea_cons (ev_cst rfl) (ea_cons (ev_cst rfl) (ea_cons (ev_cst rfl) (ea_cons (ev_cst rfl) ea_nil (by first | kernel_rfl | (unfold Gl; kernel_rfl))) (by first | kernel_rfl | (unfold Gl; kernel_rfl))) (by first | kernel_rfl | (unfold Gl; kernel_rfl))) (by first | kernel_rfl | (unfold Gl; kernel_rfl))))) ea_nil (by first | kernel_rfl | (unfold Gl; kernel_rfl))) (by first | kernel_rfl | (unfold Gl; kernel_rfl))) (by first | kernel_rfl | (unfold Gl; kernel_rfl)) (by first | kernel_rfl | (unfold Gl; kernel_rfl)) (by first | kernel_rfl | (unfold Gl; kernel_rfl))) (by first | kernel_rfl | (unfold Gl; kernel_rfl)))
  (ess_cons (es_for rfl PassesOwn.never rfl (ei_range1 (by first | kernel_rfl | (unfold Gl; kernel_rfl)) m_range (ea_cons (ev_call (((c__law_taken L).mono (by omega))) hr0 (by first | kernel_rfl | (unfold Gl; kernel_rfl)) (fun _ _ _ _ _ _ _ h => h.elim) (ea_cons (ev_var (i := 0) (by first | kernel_rfl | (unfold Gl; kernel_rfl)) (.inl (by first | kernel_rfl | (unfold Gl; kernel_rfl))) (by first | kernel_rfl | (unfold Gl; kernel_rfl)) (by first | kernel_rfl | (unfold Gl; kernel_rfl))) (ea_cons (ev_cst rfl) ea_nil (by first | kernel_rfl | (unfold Gl; kernel_rfl))) (by first | kernel_rfl | (unfold Gl; kernel_rfl))) (by first | kernel_rfl | (unfold Gl; kernel_rfl)) (by first | kernel_rfl | (unfold Gl; kernel_rfl)) (by first | kernel_rfl | (unfold Gl; kernel_rfl))) ea_nil (by first | kernel_rfl | (unfold Gl; kernel_rfl))) (by first | kernel_rfl | (unfold Gl; kernel_rfl))) (eg_name (i := 4) sc__law_problem.nd (by first | kernel_rfl | (unfold Gl; kernel_rfl)) (.inl (by first | kernel_rfl | (unfold Gl; kernel_rfl))) (.inr (by first | kernel_rfl | (unfold Gl; kernel_rfl)))) (ess_cons (es_set (i := 5) sc__law_problem.nd rfl (by first | kernel_rfl | (unfold Gl; kernel_rfl)) (.inl (by first | kernel_rfl | (unfold Gl; kernel_rfl))) (.inr (by first | kernel_rfl | (unfold Gl; kernel_rfl))) (ev_bin (ev_var (i := 3) (by first | kernel_rfl | (unfold Gl; kernel_rfl)) (.inl (by first | kernel_rfl | (unfold Gl; kernel_rfl))) (by first | kernel_rfl | (unfold Gl; kernel_rfl)) (by first | kernel_rfl | (unfold Gl; kernel_rfl))) (ev_call (((c__law_taken L).mono (by omega))) hr0 (by first | kernel_rfl | (unfold Gl; kernel_rfl)) (fun _ _ _ _ _ _ _ h => h.elim) (ea_cons (ev_var (i := 0) (by first | kernel_rfl | (unfold Gl; kernel_rfl)) (.inl (by first | kernel_rfl | (unfold Gl; kernel_rfl))) (by first | kernel_rfl | (unfold Gl; kernel_rfl)) (by first | kernel_rfl | (unfold Gl; kernel_rfl))) (ea_cons (ev_cst rfl) ea_nil (by first | kernel_rfl | (unfold Gl; kernel_rfl))) (by first | kernel_rfl | (unfold Gl; kernel_rfl))) (by first | kernel_rfl | (unfold Gl; kernel_rfl)) (by first | kernel_rfl | (unfold Gl; kernel_rfl)) (by first | kernel_rfl | (unfold Gl; kernel_rfl)))) (by first | kernel_rfl | (unfold Gl; kernel_rfl)))
  (ess_cons (es_set (i := 6) sc__law_problem.nd rfl (by first | kernel_rfl | (unfold Gl; kernel_rfl)) (.inl (by first | kernel_rfl | (unfold Gl; kernel_rfl))) (.inr (by first | kernel_rfl | (unfold Gl; kernel_rfl))) (ev_bin (ev_var (i := 3) (by first | kernel_rfl | (unfold Gl; kernel_rfl)) (.inl (by first | kernel_rfl | (unfold Gl; kernel_rfl))) (by first | kernel_rfl | (unfold Gl; kernel_rfl)) (by first | kernel_rfl | (unfold Gl; kernel_rfl))) (ev_call (((c__law_taken L).mono (by omega))) hr0 (by first | kernel_rfl | (unfold Gl; kernel_rfl)) (fun _ _ _ _ _ _ _ h => h.elim) (ea_cons (ev_var (i := 0) (by first | kernel_rfl | (unfold Gl; kernel_rfl)) (.inl (by first | kernel_rfl | (unfold Gl; kernel_rfl))) (by first | kernel_rfl | (unfold Gl; kernel_rfl)) (by first | kernel_rfl | (unfold Gl; kernel_rfl))) (ea_cons (ev_cst rfl) ea_nil (by first | kernel_rfl | (unfold Gl; kernel_rfl))) (by first | kernel_rfl | (unfold Gl; kernel_rfl))) (by first | kernel_rfl | (unfold Gl; kernel_rfl)) (by first | kernel_rfl | (unfold Gl; kernel_rfl)) (by first | kernel_rfl | (unfold Gl; kernel_rfl)))) (by first | kernel_rfl | (unfold Gl; kernel_rfl)))
  (ess_one (es_expr rfl (ev_append (ev_var (i := 1) (by first | kernel_rfl | (unfold Gl; kernel_rfl)) (.inl (by first | kernel_rfl | (unfold Gl; kernel_rfl))) (by first | kernel_rfl | (unfold Gl; kernel_rfl)) (by first | kernel_rfl | (unfold Gl; kernel_rfl))) (ev_tup (ea_cons (ev_fz (ev_var (i := 5) (by first | kernel_rfl | (unfold Gl; kernel_rfl)) (.inl (by first | kernel_rfl | (unfold Gl; kernel_rfl))) (by first | kernel_rfl | (unfold Gl; kernel_rfl)) (by first | kernel_rfl | (unfold Gl; kernel_rfl)))) (ea_cons (ev_fz (ev_if (et_cmp (semC_bool .NotEq) (or_c (Room.u65 hr0) .NotEq) (ev_var (i := 6) (by first | kernel_rfl | (unfold Gl; kernel_rfl)) (.inl (by first | kernel_rfl | (unfold Gl; kernel_rfl))) (by first | kernel_rfl | (unfold Gl; kernel_rfl)) (by first | kernel_rfl | (unfold Gl; kernel_rfl))) (ev_var (i := 5) (by first | kernel_rfl | (unfold Gl; kernel_rfl)) (.inl (by first | kernel_rfl | (unfold Gl; kernel_rfl))) (by first | kernel_rfl | (unfold Gl; kernel_rfl)) (by first | kernel_rfl | (unfold Gl; kernel_rfl))) (by first | kernel_rfl | (unfold Gl; kernel_rfl))) (ev_var (i := 6) (by first | kernel_rfl | (unfold Gl; kernel_rfl)) (.inl (by first | kernel_rfl | (unfold Gl; kernel_rfl))) (by first | kernel_rfl | (unfold Gl; kernel_rfl)) (by first | kernel_rfl | (unfold Gl; kernel_rfl))) (ev_bin (ev_var (i := 5) (by first | kernel_rfl | (unfold Gl; kernel_rfl)) (.inl (by first | kernel_rfl | (unfold Gl; kernel_rfl))) (by first | kernel_rfl | (unfold Gl; kernel_rfl)) (by first | kernel_rfl | (unfold Gl; kernel_rfl))) (ev_var (i := 3) (by first | kernel_rfl | (unfold Gl; kernel_rfl)) (.inl (by first | kernel_rfl | (unfold Gl; kernel_rfl))) (by first | kernel_rfl | (unfold Gl; kernel_rfl)) (by first | kernel_rfl | (unfold Gl; kernel_rfl)))))) (ea_cons (ev_bin (ev_cst rfl) (ev_call (((c__law_taken L).mono (by omega))) hr0 (by first | kernel_rfl | (unfold Gl; kernel_rfl)) (fun _ _ _ _ _ _ _ h => h.elim) (ea_cons (ev_var (i := 0) (by first | kernel_rfl | (unfold Gl; kernel_rfl)) (.inl (by first | kernel_rfl | (unfold Gl; kernel_rfl))) (by first | kernel_rfl | (unfold Gl; kernel_rfl)) (by first | kernel_rfl | (unfold Gl; kernel_rfl))) (ea_cons (ev_call (((c__law_pick L).mono (by omega))) hr0 (by first | kernel_rfl | (unfold Gl; kernel_rfl)) (fun _ _ _ _ _ _ _ h => h.elim) (ea_cons (ev_var (i := 0) (by first | kernel_rfl | (unfold Gl; kernel_rfl)) (.inl (by first | kernel_rfl | (unfold Gl; kernel_rfl))) (by first | kernel_rfl | (unfold Gl; kernel_rfl)) (by first | kernel_rfl | (unfold Gl; kernel_rfl))) (ea_cons (ev_fz (ev_lst (ea_cons (ev_cst rfl) (ea_cons (ev_cst rfl) (ea_cons (ev_cst rfl) ea_nil (by first | kernel_rfl | (unfold Gl; kernel_rfl))) (by first | kernel_rfl | (unfold Gl; kernel_rfl))) (by first | kernel_rfl | (unfold Gl; kernel_rfl))))) ea_nil (by first | kernel_rfl | (unfold Gl; kernel_rfl))) (by first | kernel_rfl | (unfold Gl; kernel_rfl))) (by first | kernel_rfl | (unfold Gl; kernel_rfl)) (by first | kernel_rfl | (unfold Gl; kernel_rfl)) (by first | kernel_rfl | (unfold Gl; kernel_rfl))) ea_nil (by first | kernel_rfl | (unfold Gl; kernel_rfl))) (by first | kernel_rfl | (unfold Gl; kernel_rfl))) (by first | kernel_rfl | (unfold Gl; kernel_rfl)) (by first | kernel_rfl | (unfold Gl; kernel_rfl)) (by first | kernel_rfl | (unfold Gl; kernel_rfl)))) ea_nil (by first | kernel_rfl | (unfold Gl; kernel_rfl))) (by first | kernel_rfl | (unfold Gl; kernel_rfl))) (by first | kernel_rfl | (unfold Gl; kernel_rfl)))) (by first | kernel_rfl | (unfold Gl; kernel_rfl)) (by first | kernel_rfl | (unfold Gl; kernel_rfl)) (by first | kernel_rfl | (unfold Gl; kernel_rfl)) (by first | kernel_rfl | (unfold Gl; kernel_rfl)) (by first | kernel_rfl | (unfold Gl; kernel_rfl))) (by first | kernel_rfl | (unfold Gl; kernel_rfl)))))) (fun _ => (by first | kernel_rfl | (unfold Gl; kernel_rfl))))
  (ess_cons (es_for rfl PassesOwn.never rfl (ei_range1 (by first | kernel_rfl | (unfold Gl; kernel_rfl)) m_range (ea_cons (ev_call (((c__law_pick L).mono (by omega))) hr0 (by first | kernel_rfl | (unfold Gl; kernel_rfl)) (fun _ _ _ _ _ _ _ h => h.elim) (ea_cons (ev_var (i := 0) (by first | kernel_rfl | (unfold Gl; kernel_rfl)) (.inl (by first | kernel_rfl | (unfold Gl; kernel_rfl))) (by first | kernel_rfl | (unfold Gl; kernel_rfl)) (by first | kernel_rfl | (unfold Gl; kernel_rfl))) (ea_cons (ev_fz (ev_lst (ea_cons (ev_cst rfl) (ea_cons (ev_cst rfl) (ea_cons (ev_cst rfl) (ea_cons (ev_cst rfl) ea_nil (by first | kernel_rfl | (unfold Gl; kernel_rfl))) (by first | kernel_rfl | (unfold Gl; kernel_rfl))) (by first | kernel_rfl | (unfold Gl; kernel_rfl))) (by first | kernel_rfl | (unfold Gl; kernel_rfl))))) ea_nil (by first | kernel_rfl | (unfold Gl; kernel_rfl))) (by first | kernel_rfl | (unfold Gl; kernel_rfl))) (by first | kernel_rfl | (unfold Gl; kernel_rfl)) (by first | kernel_rfl | (unfold Gl; kernel_rfl)) (by first | kernel_rfl | (unfold Gl; kernel_rfl))) ea_nil (by first | kernel_rfl | (unfold Gl; kernel_rfl))) (by first | kernel_rfl | (unfold Gl; kernel_rfl))) (eg_name (i := 4) sc__law_problem.nd (by first | kernel_rfl | (unfold Gl; kernel_rfl)) (.inl (by first | kernel_rfl | (unfold Gl; kernel_rfl))) (.inr (by first | kernel_rfl | (unfold Gl; kernel_rfl)))) (ess_cons (es_set (i := 7) sc__law_problem.nd rfl (by first | kernel_rfl | (unfold Gl; kernel_rfl)) (.inl (by first | kernel_rfl | (unfold Gl; kernel_rfl))) (.inr (by first | kernel_rfl | (unfold Gl; kernel_rfl))) (ev_call (((c__law_pick L).mono (by omega))) hr0 (by first | kernel_rfl | (unfold Gl; kernel_rfl)) (fun _ _ _ _ _ _ _ h => h.elim) (ea_cons (ev_var (i := 0) (by first | kernel_rfl | (unfold Gl; kernel_rfl)) (.inl (by first | kernel_rfl | (unfold Gl; kernel_rfl))) (by first | kernel_rfl | (unfold Gl; kernel_rfl)) (by first | kernel_rfl | (unfold Gl; kernel_rfl))) (ea_cons (ev_fz (ev_lst (ea_cons (ev_cst rfl) (ea_cons (ev_cst rfl) (ea_cons (ev_cst rfl) (ea_cons (ev_cst rfl) (ea_cons (ev_bin (ev_cst rfl) (ev_call (((c__law_taken L).mono (by omega))) hr0 (by first | kernel_rfl | (unfold Gl; kernel_rfl)) (fun _ _ _ _ _ _ _ h => h.elim) (ea_cons (ev_var (i := 0) (by first | kernel_rfl | (unfold Gl; kernel_rfl)) (.inl (by first | kernel_rfl | (unfold Gl; kernel_rfl))) (by first | kernel_rfl | (unfold Gl; kernel_rfl)) (by first | kernel_rfl | (unfold Gl; kernel_rfl))) (ea_cons (ev_cst rfl) ea_nil (by first | kernel_rfl | (unfold Gl; kernel_rfl))) (by first | kernel_rfl | (unfold Gl; kernel_rfl))) (by first | kernel_rfl | (unfold Gl; kernel_rfl)) (by first | kernel_rfl | (unfold Gl; kernel_rfl)) (by first | kernel_rfl | (unfold Gl; kernel_rfl)))) ea_nil (by first | kernel_rfl | (unfold Gl; kernel_rfl))) (by first | kernel_rfl | (unfold Gl; kernel_rfl))) (by first | kernel_rfl | (unfold Gl; kernel_rfl))) (by first | kernel_rfl | (unfold Gl; kernel_rfl))) (by first | kernel_rfl | (unfold Gl; kernel_rfl))))) ea_nil (by first | kernel_rfl | (unfold Gl; kernel_rfl))) (by first | kernel_rfl | (unfold Gl; kernel_rfl))) (by first | kernel_rfl | (unfold Gl; kernel_rfl)) (by first | kernel_rfl | (unfold Gl; kernel_rfl)) (by first | kernel_rfl | (unfold Gl; kernel_rfl))) (by first | kernel_rfl | (unfold Gl; kernel_rfl)))
  (ess_one (es_expr rfl (ev_append (ev_var (i := 2) (by first | kernel_rfl | (unfold Gl; kernel_rfl)) (.inl (by first | kernel_rfl | (unfold Gl; kernel_rfl))) (by first | kernel_rfl | (unfold Gl; kernel_rfl)) (by first | kernel_rfl | (unfold Gl; kernel_rfl))) (ev_tup (ea_cons (ev_bin (ev_var (i := 3) (by first | kernel_rfl | (unfold Gl; kernel_rfl)) (.inl (by first | kernel_rfl | (unfold Gl; kernel_rfl))) (by first | kernel_rfl | (unfold Gl; kernel_rfl)) (by first | kernel_rfl | (unfold Gl; kernel_rfl))) (ev_call (((c__law_taken L).mono (by omega))) hr0 (by first | kernel_rfl | (unfold Gl; kernel_rfl)) (fun _ _ _ _ _ _ _ h => h.elim) (ea_cons (ev_var (i := 0) (by first | kernel_rfl | (unfold Gl; kernel_rfl)) (.inl (by first | kernel_rfl | (unfold Gl; kernel_rfl))) (by first | kernel_rfl | (unfold Gl; kernel_rfl)) (by first | kernel_rfl | (unfold Gl; kernel_rfl))) (ea_cons (ev_cst rfl) ea_nil (by first | kernel_rfl | (unfold Gl; kernel_rfl))) (by first | kernel_rfl | (unfold Gl; kernel_rfl))) (by first | kernel_rfl | (unfold Gl; kernel_rfl)) (by first | kernel_rfl | (unfold Gl; kernel_rfl)) (by first | kernel_rfl | (unfold Gl; kernel_rfl)))) (ea_cons (ev_fz (ev_if (et_cmp (semC_bool .Eq) (or_c (Room.u65 hr0) .Eq) (ev_call (((c__law_taken L).mono (by omega))) hr0 (by first | kernel_rfl | (unfold Gl; kernel_rfl)) (fun _ _ _ _ _ _ _ h => h.elim) (ea_cons (ev_var (i := 0) (by first | kernel_rfl | (unfold Gl; kernel_rfl)) (.inl (by first | kernel_rfl | (unfold Gl; kernel_rfl))) (by first | kernel_rfl | (unfold Gl; kernel_rfl)) (by first | kernel_rfl | (unfold Gl; kernel_rfl))) (ea_cons (ev_cst rfl) ea_nil (by first | kernel_rfl | (unfold Gl; kernel_rfl))) (by first | kernel_rfl | (unfold Gl; kernel_rfl))) (by first | kernel_rfl | (unfold Gl; kernel_rfl)) (by first | kernel_rfl | (unfold Gl; kernel_rfl)) (by first | kernel_rfl | (unfold Gl; kernel_rfl))) (ev_cst rfl) (by first | kernel_rfl | (unfold Gl; kernel_rfl))) (ev_var (i := 7) (by first | kernel_rfl | (unfold Gl; kernel_rfl)) (.inl (by first | kernel_rfl | (unfold Gl; kernel_rfl))) (by first | kernel_rfl | (unfold Gl; kernel_rfl)) (by first | kernel_rfl | (unfold Gl; kernel_rfl))) (ev_bin (ev_cst rfl) (ev_var (i := 7) (by first | kernel_rfl | (unfold Gl; kernel_rfl)) (.inl (by first | kernel_rfl | (unfold Gl; kernel_rfl))) (by first | kernel_rfl | (unfold Gl; kernel_rfl)) (by first | kernel_rfl | (unfold Gl; kernel_rfl)))))) ea_nil (by first | kernel_rfl | (unfold Gl; kernel_rfl))) (by first | kernel_rfl | (unfold Gl; kernel_rfl)))) (by first | kernel_rfl | (unfold Gl; kernel_rfl)) (by first | kernel_rfl | (unfold Gl; kernel_rfl)) (by first | kernel_rfl | (unfold Gl; kernel_rfl)) (by first | kernel_rfl | (unfold Gl; kernel_rfl)) (by first | kernel_rfl | (unfold Gl; kernel_rfl))) (by first | kernel_rfl | (unfold Gl; kernel_rfl))))) (fun _ => (by first | kernel_rfl | (unfold Gl; kernel_rfl))))
  (ess_cons (es_if rfl (ew_et (ew_and (et_cmp (semC_bool .Eq) (or_c (Room.u65 hr0) .Eq) (ev_var (i := 1) (by first | kernel_rfl | (unfold Gl; kernel_rfl)) (.inl (by first | kernel_rfl | (unfold Gl; kernel_rfl))) (by first | kernel_rfl | (unfold Gl; kernel_rfl)) (by first | kernel_rfl | (unfold Gl; kernel_rfl))) (ev_lst ea_nil) (by first | kernel_rfl | (unfold Gl; kernel_rfl))) (ew_and1 (et_cmp (semC_bool .Eq) (or_c (Room.u65 hr0) .Eq) (ev_var (i := 2) (by first | kernel_rfl | (unfold Gl; kernel_rfl)) (.inl (by first | kernel_rfl | (unfold Gl; kernel_rfl))) (by first | kernel_rfl | (unfold Gl; kernel_rfl)) (by first | kernel_rfl | (unfold Gl; kernel_rfl))) (ev_lst ea_nil) (by first | kernel_rfl | (unfold Gl; kernel_rfl)))))) (ess_one (es_set (i := 1) sc__law_problem.nd rfl (by first | kernel_rfl | (unfold Gl; kernel_rfl)) (.inl (by first | kernel_rfl | (unfold Gl; kernel_rfl))) (.inr (by first | kernel_rfl | (unfold Gl; kernel_rfl))) (ev_lst (ea_cons (ev_tup (ea_cons (ev_cst rfl) (ea_cons (ev_fz (ev_var (i := 3) (by first | kernel_rfl | (unfold Gl; kernel_rfl)) (.inl (by first | kernel_rfl | (unfold Gl; kernel_rfl))) (by first | kernel_rfl | (unfold Gl; kernel_rfl)) (by first | kernel_rfl | (unfold Gl; kernel_rfl)))) (ea_cons (ev_cst rfl) ea_nil (by first | kernel_rfl | (unfold Gl; kernel_rfl))) (by first | kernel_rfl | (unfold Gl; kernel_rfl))) (by first | kernel_rfl | (unfold Gl; kernel_rfl)))) ea_nil (by first | kernel_rfl | (unfold Gl; kernel_rfl)))) (by first | kernel_rfl | (unfold Gl; kernel_rfl)))) ess_nil)
  (ess_one (es_ret (ev_tup (ea_cons (ev_bltT cr_tuple (by first | kernel_rfl | (unfold Gl; kernel_rfl)) m_tuple PyProof.Rows.boot_tuple (ea_cons (ev_var (i := 1) (by first | kernel_rfl | (unfold Gl; kernel_rfl)) (.inl (by first | kernel_rfl | (unfold Gl; kernel_rfl))) (by first | kernel_rfl | (unfold Gl; kernel_rfl)) (by first | kernel_rfl | (unfold Gl; kernel_rfl))) ea_nil (by first | kernel_rfl | (unfold Gl; kernel_rfl))) (by decide +kernel) (by first | kernel_rfl | (unfold Gl; kernel_rfl)) (by first | kernel_rfl | (unfold Gl; kernel_rfl)) (by first | kernel_rfl | (unfold Gl; kernel_rfl))) (ea_cons (ev_bltT cr_tuple (by first | kernel_rfl | (unfold Gl; kernel_rfl)) m_tuple PyProof.Rows.boot_tuple (ea_cons (ev_var (i := 2) (by first | kernel_rfl | (unfold Gl; kernel_rfl)) (.inl (by first | kernel_rfl | (unfold Gl; kernel_rfl))) (by first | kernel_rfl | (unfold Gl; kernel_rfl)) (by first | kernel_rfl | (unfold Gl; kernel_rfl))) ea_nil (by first | kernel_rfl | (unfold Gl; kernel_rfl))) (by decide +kernel) (by first | kernel_rfl | (unfold Gl; kernel_rfl)) (by first | kernel_rfl | (unfold Gl; kernel_rfl)) (by first | kernel_rfl | (unfold Gl; kernel_rfl))) (ea_cons (ev_call (((c__law_pick L).mono (by omega))) hr0 (by first | kernel_rfl | (unfold Gl; kernel_rfl)) (fun _ _ _ _ _ _ _ h => h.elim) (ea_cons (ev_var (i := 0) (by first | kernel_rfl | (unfold Gl; kernel_rfl)) (.inl (by first | kernel_rfl | (unfold Gl; kernel_rfl))) (by first | kernel_rfl | (unfold Gl; kernel_rfl)) (by first | kernel_rfl | (unfold Gl; kernel_rfl))) (ea_cons (ev_fz (ev_lst (ea_cons (ev_cst rfl) (ea_cons (ev_fz (ev_var (i := 3) (by first | kernel_rfl | (unfold Gl; kernel_rfl)) (.inl (by first | kernel_rfl | (unfold Gl; kernel_rfl))) (by first | kernel_rfl | (unfold Gl; kernel_rfl)) (by first | kernel_rfl | (unfold Gl; kernel_rfl)))) (ea_cons (ev_fz (ev_var (i := 3) (by first | kernel_rfl | (unfold Gl; kernel_rfl)) (.inl (by first | kernel_rfl | (unfold Gl; kernel_rfl))) (by first | kernel_rfl | (unfold Gl; kernel_rfl)) (by first | kernel_rfl | (unfold Gl; kernel_rfl)))) (ea_cons (ev_bin (ev_cst rfl) (ev_var (i := 3) (by first | kernel_rfl | (unfold Gl; kernel_rfl)) (.inl (by first | kernel_rfl | (unfold Gl; kernel_rfl))) (by first | kernel_rfl | (unfold Gl; kernel_rfl)) (by first | kernel_rfl | (unfold Gl; kernel_rfl)))) (ea_cons (ev_call (((c__law_taken L).mono (by omega))) hr0 (by first | kernel_rfl | (unfold Gl; kernel_rfl)) (fun _ _ _ _ _ _ _ h => h.elim) (ea_cons (ev_var (i := 0) (by first | kernel_rfl | (unfold Gl; kernel_rfl)) (.inl (by first | kernel_rfl | (unfold Gl; kernel_rfl))) (by first | kernel_rfl | (unfold Gl; kernel_rfl)) (by first | kernel_rfl | (unfold Gl; kernel_rfl))) (ea_cons (ev_cst rfl) ea_nil (by first | kernel_rfl | (unfold Gl; kernel_rfl))) (by first | kernel_rfl | (unfold Gl; kernel_rfl))) (by first | kernel_rfl | (unfold Gl; kernel_rfl)) (by first | kernel_rfl | (unfold Gl; kernel_rfl)) (by first | kernel_rfl | (unfold Gl; kernel_rfl))) ea_nil (by first | kernel_rfl | (unfold Gl; kernel_rfl))) (by first | kernel_rfl | (unfold Gl; kernel_rfl))) (by first | kernel_rfl | (unfold Gl; kernel_rfl))) (by first | kernel_rfl | (unfold Gl; kernel_rfl))) (by first | kernel_rfl | (unfold Gl; kernel_rfl))))) ea_nil (by first | kernel_rfl | (unfold Gl; kernel_rfl))) (by first | kernel_rfl | (unfold Gl; kernel_rfl))) (by first | kernel_rfl | (unfold Gl; kernel_rfl)) (by first | kernel_rfl | (unfold Gl; kernel_rfl)) (by first | kernel_rfl | (unfold Gl; kernel_rfl))) ea_nil (by first | kernel_rfl | (unfold Gl; kernel_rfl))) (by first | kernel_rfl | (unfold Gl; kernel_rfl))) (by first | kernel_rfl | (unfold Gl; kernel_rfl)))))))))))
theorem c_is_in (L : LC K mg base T fa fn tf) : Ctr P w K mg base CX0 1 T "is_in" F_is_in := by
  obtain ⟨fd, Fd⟩ := L.c.def_ 3 (d := d_is_in) rfl
  have m_bool := L.free 17 (x := "bool") rfl
  have m_int := L.free 19 (x := "int") rfl
  have m_isinstance := L.free 20 (x := "isinstance") rfl
  refine ctr_of L 3 rfl Fd (Fd.bindsN (ps := ["value", "least", "most"]) fun _ _ _ _ _ _ us hl => match us, hl with | [_, _, _], _ => by kernel_rfl) ?_
  refine fn_okC (N := ["value", "least", "most"]) (k := 0) (ios := [false, false, false]) (fb := fb_is_in) Fd sc_is_in rfl (by decide) fun A outer s H E Ex0 H0 I0 hr0 => ?_
  exact (ess_one (es_ret (ev_and (ev_isi (by decide +kernel) (by first | kernel_rfl | (unfold Gl; kernel_rfl)) m_isinstance (by first | kernel_rfl | (unfold Gl; kernel_rfl)) m_int (by decide +kernel) (by decide +kernel) (by first | kernel_rfl | (unfold Gl; kernel_rfl)) (ev_var (i := 0) (by first | kernel_rfl | (unfold Gl; kernel_rfl)) (.inl (by first | kernel_rfl | (unfold Gl; kernel_rfl))) (by first | kernel_rfl | (unfold Gl; kernel_rfl)) (by first | kernel_rfl | (unfold Gl; kernel_rfl))) (by first | kernel_rfl | (unfold Gl; kernel_rfl)) (by first | kernel_rfl | (unfold Gl; kernel_rfl)) (by first | kernel_rfl | (unfold Gl; kernel_rfl))) (ev_and (ev_not (ev_isi (by decide +kernel) (by first | kernel_rfl | (unfold Gl; kernel_rfl)) m_isinstance (by first | kernel_rfl | (unfold Gl; kernel_rfl)) m_bool (by decide +kernel) (by decide +kernel) (by first | kernel_rfl | (unfold Gl; kernel_rfl)) (ev_var (i := 0) (by first | kernel_rfl | (unfold Gl; kernel_rfl)) (.inl (by first | kernel_rfl | (unfold Gl; kernel_rfl))) (by first | kernel_rfl | (unfold Gl; kernel_rfl)) (by first | kernel_rfl | (unfold Gl; kernel_rfl))) (by first | kernel_rfl | (unfold Gl; kernel_rfl)) (by first | kernel_rfl | (unfold Gl; kernel_rfl)) (by first | kernel_rfl | (unfold Gl; kernel_rfl)))) (ev_one (ev_chain (or_c (Room.u65 hr0) .LtE) (or_c (Room.u65 hr0) .LtE) (ev_var (i := 1) (by first | kernel_rfl | (unfold Gl; kernel_rfl)) (.inl (by first | kernel_rfl | (unfold Gl; kernel_rfl))) (by first | kernel_rfl | (unfold Gl; kernel_rfl)) (by first | kernel_rfl | (unfold Gl; kernel_rfl))) (ev_var (i := 0) (by first | kernel_rfl | (unfold Gl; kernel_rfl)) (.inl (by first | kernel_rfl | (unfold Gl; kernel_rfl))) (by first | kernel_rfl | (unfold Gl; kernel_rfl)) (by first | kernel_rfl | (unfold Gl; kernel_rfl))) (ev_var (i := 2) (by first | kernel_rfl | (unfold Gl; kernel_rfl)) (.inl (by first | kernel_rfl | (unfold Gl; kernel_rfl))) (by first | kernel_rfl | (unfold Gl; kernel_rfl)) (by first | kernel_rfl | (unfold Gl; kernel_rfl))) (by first | kernel_rfl | (unfold Gl; kernel_rfl))))))))
theorem c_is_stream (L : LC K mg base T fa fn tf) : Ctr P w K mg base CX0 5 T "is_stream" F_is_stream := by
  obtain ⟨fd, Fd⟩ := L.c.def_ 4 (d := d_is_stream) rfl
  obtain ⟨t_MOST_RATE, hi_MOST_RATE⟩ := L.int 33 (x := "MOST_RATE") (n := 100) rfl
  obtain ⟨t_MOST_TEMPERATURE, hi_MOST_TEMPERATURE⟩ := L.int 35 (x := "MOST_TEMPERATURE") (n := 1000) rfl
  have m_all := L.free 16 (x := "all") rfl
  have m_isinstance := L.free 20 (x := "isinstance") rfl
  have m_len := L.free 21 (x := "len") rfl
  have m_tuple := L.free 29 (x := "tuple") rfl
  refine ctr_of L 4 rfl Fd (Fd.bindsN (ps := ["value"]) fun _ _ _ _ _ _ us hl => match us, hl with | [_], _ => by kernel_rfl) ?_
  refine fn_okC (N := ["value", "one"]) (k := 4) (ios := [false]) (fb := fb_is_stream) Fd sc_is_stream rfl (by decide) fun A outer s H E Ex0 H0 I0 hr0 => ?_
  exact (ess_cons (es_if rfl (ew_et (ew_or (et_not (et_val (ev_isi (by decide +kernel) (by first | kernel_rfl | (unfold Gl; kernel_rfl)) m_isinstance (by first | kernel_rfl | (unfold Gl; kernel_rfl)) m_tuple (by decide +kernel) (by decide +kernel) (by first | kernel_rfl | (unfold Gl; kernel_rfl)) (ev_var (i := 0) (by first | kernel_rfl | (unfold Gl; kernel_rfl)) (.inl (by first | kernel_rfl | (unfold Gl; kernel_rfl))) (by first | kernel_rfl | (unfold Gl; kernel_rfl)) (by first | kernel_rfl | (unfold Gl; kernel_rfl))) (by first | kernel_rfl | (unfold Gl; kernel_rfl)) (by first | kernel_rfl | (unfold Gl; kernel_rfl)) (by first | kernel_rfl | (unfold Gl; kernel_rfl))) (fun _ => (by first | kernel_rfl | (unfold Gl; kernel_rfl))))) (ew_or (et_cmp (semC_bool .NotEq) (or_c (Room.u65 hr0) .NotEq) (ev_blt cr_len (by first | kernel_rfl | (unfold Gl; kernel_rfl)) m_len boot_len (ea_cons (ev_var (i := 0) (by first | kernel_rfl | (unfold Gl; kernel_rfl)) (.inl (by first | kernel_rfl | (unfold Gl; kernel_rfl))) (by first | kernel_rfl | (unfold Gl; kernel_rfl)) (by first | kernel_rfl | (unfold Gl; kernel_rfl))) ea_nil (by first | kernel_rfl | (unfold Gl; kernel_rfl))) (by decide +kernel) (by first | kernel_rfl | (unfold Gl; kernel_rfl)) (by first | kernel_rfl | (unfold Gl; kernel_rfl)) (by first | kernel_rfl | (unfold Gl; kernel_rfl))) (ev_cst rfl) (by first | kernel_rfl | (unfold Gl; kernel_rfl))) (ew_or1 (et_not (et_val (ev_call (((c_is_in L).mono (by omega))) hr0 (by first | kernel_rfl | (unfold Gl; kernel_rfl)) (fun _ _ _ _ _ _ _ h => h.elim) (ea_cons (ev_ix (Room.u1 hr0) (ev_var (i := 0) (by first | kernel_rfl | (unfold Gl; kernel_rfl)) (.inl (by first | kernel_rfl | (unfold Gl; kernel_rfl))) (by first | kernel_rfl | (unfold Gl; kernel_rfl)) (by first | kernel_rfl | (unfold Gl; kernel_rfl))) (ev_cst rfl) (by first | kernel_rfl | (unfold Gl; kernel_rfl))) (ea_cons (ev_cst rfl) (ea_cons (ev_fz (ev_glob (by first | kernel_rfl | (unfold Gl; kernel_rfl)) hi_MOST_RATE (by first | kernel_rfl | (unfold Gl; kernel_rfl)))) ea_nil (by first | kernel_rfl | (unfold Gl; kernel_rfl))) (by first | kernel_rfl | (unfold Gl; kernel_rfl))) (by first | kernel_rfl | (unfold Gl; kernel_rfl))) (by first | kernel_rfl | (unfold Gl; kernel_rfl)) (by first | kernel_rfl | (unfold Gl; kernel_rfl)) (by first | kernel_rfl | (unfold Gl; kernel_rfl))) (fun _ => (by first | kernel_rfl | (unfold Gl; kernel_rfl))))))))) (ess_one (es_ret (ev_cst rfl))) ess_nil)
  (ess_one (es_ret (ev_and (ev_all hr0 (by first | kernel_rfl | (unfold Gl; kernel_rfl)) m_all (L.tb ("is_stream", none) (by decide +kernel)) (by first | kernel_rfl | (unfold Gl; kernel_rfl)) (L.tT ("is_stream", none) (by decide +kernel)) sc_is_stream.nd (ei_seq (ev_sl (ev_var (i := 0) (by first | kernel_rfl | (unfold Gl; kernel_rfl)) (.inl (by first | kernel_rfl | (unfold Gl; kernel_rfl))) (by first | kernel_rfl | (unfold Gl; kernel_rfl)) (by first | kernel_rfl | (unfold Gl; kernel_rfl))) eo_none (eo_some (ev_cst rfl)))) (own := [("one", 1)]) (blkOk_by (by first | kernel_rfl | (unfold Gl; kernel_rfl))) (by first | kernel_rfl | (unfold Gl; kernel_rfl)) (by decide +kernel) (by first | kernel_rfl | (unfold Gl; kernel_rfl)) (by decide) (fun _ _ _ _ _ _ => (eg_name (i := 1) sc_is_stream.nd (by first | kernel_rfl | (unfold Gl; kernel_rfl)) (.inl (by first | kernel_rfl | (unfold Gl; kernel_rfl))) (.inr (by first | kernel_rfl | (unfold Gl; kernel_rfl))))) (fun _ _ _ _ _ _ => ets_nil) (fun _ _ _ _ _ _ => (ev_call (((c_is_in L).mono (by omega))) (Room.gen hr0 _) (by first | kernel_rfl | (unfold Gl; kernel_rfl)) (fun _ _ _ _ _ _ _ h => h.elim) (ea_cons (ev_fz (ev_var (i := 1) (by first | kernel_rfl | (unfold Gl; kernel_rfl)) (.inl (by first | kernel_rfl | (unfold Gl; kernel_rfl))) (by first | kernel_rfl | (unfold Gl; kernel_rfl)) (by first | kernel_rfl | (unfold Gl; kernel_rfl)))) (ea_cons (ev_cst rfl) (ea_cons (ev_fz (ev_glob (by first | kernel_rfl | (unfold Gl; kernel_rfl)) hi_MOST_TEMPERATURE (by first | kernel_rfl | (unfold Gl; kernel_rfl)))) ea_nil (by first | kernel_rfl | (unfold Gl; kernel_rfl))) (by first | kernel_rfl | (unfold Gl; kernel_rfl))) (by first | kernel_rfl | (unfold Gl; kernel_rfl))) (by first | kernel_rfl | (unfold Gl; kernel_rfl)) (by first | kernel_rfl | (unfold Gl; kernel_rfl)) (by first | kernel_rfl | (unfold Gl; kernel_rfl)))) (fun _ => (by first | kernel_rfl | (unfold Gl; kernel_rfl))) (by first | kernel_rfl | (unfold Gl; kernel_rfl))) (ev_one (ev_cmp (or_c (Room.u65 hr0) .NotEq) (ev_ix (Room.u1 hr0) (ev_var (i := 0) (by first | kernel_rfl | (unfold Gl; kernel_rfl)) (.inl (by first | kernel_rfl | (unfold Gl; kernel_rfl))) (by first | kernel_rfl | (unfold Gl; kernel_rfl)) (by first | kernel_rfl | (unfold Gl; kernel_rfl))) (ev_cst rfl) (by first | kernel_rfl | (unfold Gl; kernel_rfl))) (ev_ix (Room.u1 hr0) (ev_var (i := 0) (by first | kernel_rfl | (unfold Gl; kernel_rfl)) (.inl (by first | kernel_rfl | (unfold Gl; kernel_rfl))) (by first | kernel_rfl | (unfold Gl; kernel_rfl)) (by first | kernel_rfl | (unfold Gl; kernel_rfl))) (ev_cst rfl) (by first | kernel_rfl | (unfold Gl; kernel_rfl))) (by first | kernel_rfl | (unfold Gl; kernel_rfl))))))))
theorem c_is_box (L : LC K mg base T fa fn tf) : Ctr P w K mg base CX0 2 T "is_box" F_is_box := by
  obtain ⟨fd, Fd⟩ := L.c.def_ 5 (d := d_is_box) rfl
  obtain ⟨t_MOST_HEAT, hi_MOST_HEAT⟩ := L.int 32 (x := "MOST_HEAT") (n := 10000) rfl
  obtain ⟨t_MOST_TEMPERATURE, hi_MOST_TEMPERATURE⟩ := L.int 35 (x := "MOST_TEMPERATURE") (n := 1000) rfl
  have m_isinstance := L.free 20 (x := "isinstance") rfl
  have m_len := L.free 21 (x := "len") rfl
  have m_tuple := L.free 29 (x := "tuple") rfl
  refine ctr_of L 5 rfl Fd (Fd.bindsN (ps := ["value"]) fun _ _ _ _ _ _ us hl => match us, hl with | [_], _ => by kernel_rfl) ?_
  refine fn_okC (N := ["value"]) (k := 1) (ios := [false]) (fb := fb_is_box) Fd sc_is_box rfl (by decide) fun A outer s H E Ex0 H0 I0 hr0 => ?_
  exact (ess_cons (es_if rfl (ew_et (ew_or (et_not (et_val (ev_isi (by decide +kernel) (by first | kernel_rfl | (unfold Gl; kernel_rfl)) m_isinstance (by first | kernel_rfl | (unfold Gl; kernel_rfl)) m_tuple (by decide +kernel) (by decide +kernel) (by first | kernel_rfl | (unfold Gl; kernel_rfl)) (ev_var (i := 0) (by first | kernel_rfl | (unfold Gl; kernel_rfl)) (.inl (by first | kernel_rfl | (unfold Gl; kernel_rfl))) (by first | kernel_rfl | (unfold Gl; kernel_rfl)) (by first | kernel_rfl | (unfold Gl; kernel_rfl))) (by first | kernel_rfl | (unfold Gl; kernel_rfl)) (by first | kernel_rfl | (unfold Gl; kernel_rfl)) (by first | kernel_rfl | (unfold Gl; kernel_rfl))) (fun _ => (by first | kernel_rfl | (unfold Gl; kernel_rfl))))) (ew_or (et_cmp (semC_bool .NotEq) (or_c (Room.u65 hr0) .NotEq) (ev_blt cr_len (by first | kernel_rfl | (unfold Gl; kernel_rfl)) m_len boot_len (ea_cons (ev_var (i := 0) (by first | kernel_rfl | (unfold Gl; kernel_rfl)) (.inl (by first | kernel_rfl | (unfold Gl; kernel_rfl))) (by first | kernel_rfl | (unfold Gl; kernel_rfl)) (by first | kernel_rfl | (unfold Gl; kernel_rfl))) ea_nil (by first | kernel_rfl | (unfold Gl; kernel_rfl))) (by decide +kernel) (by first | kernel_rfl | (unfold Gl; kernel_rfl)) (by first | kernel_rfl | (unfold Gl; kernel_rfl)) (by first | kernel_rfl | (unfold Gl; kernel_rfl))) (ev_cst rfl) (by first | kernel_rfl | (unfold Gl; kernel_rfl))) (ew_or1 (et_not (et_val (ev_call (((c_is_in L).mono (by omega))) hr0 (by first | kernel_rfl | (unfold Gl; kernel_rfl)) (fun _ _ _ _ _ _ _ h => h.elim) (ea_cons (ev_ix (Room.u1 hr0) (ev_var (i := 0) (by first | kernel_rfl | (unfold Gl; kernel_rfl)) (.inl (by first | kernel_rfl | (unfold Gl; kernel_rfl))) (by first | kernel_rfl | (unfold Gl; kernel_rfl)) (by first | kernel_rfl | (unfold Gl; kernel_rfl))) (ev_cst rfl) (by first | kernel_rfl | (unfold Gl; kernel_rfl))) (ea_cons (ev_cst rfl) (ea_cons (ev_fz (ev_glob (by first | kernel_rfl | (unfold Gl; kernel_rfl)) hi_MOST_TEMPERATURE (by first | kernel_rfl | (unfold Gl; kernel_rfl)))) ea_nil (by first | kernel_rfl | (unfold Gl; kernel_rfl))) (by first | kernel_rfl | (unfold Gl; kernel_rfl))) (by first | kernel_rfl | (unfold Gl; kernel_rfl))) (by first | kernel_rfl | (unfold Gl; kernel_rfl)) (by first | kernel_rfl | (unfold Gl; kernel_rfl)) (by first | kernel_rfl | (unfold Gl; kernel_rfl))) (fun _ => (by first | kernel_rfl | (unfold Gl; kernel_rfl))))))))) (ess_one (es_ret (ev_cst rfl))) ess_nil)
  (ess_one (es_ret (ev_and (ev_call (((c_is_in L).mono (by omega))) hr0 (by first | kernel_rfl | (unfold Gl; kernel_rfl)) (fun _ _ _ _ _ _ _ h => h.elim) (ea_cons (ev_ix (Room.u1 hr0) (ev_var (i := 0) (by first | kernel_rfl | (unfold Gl; kernel_rfl)) (.inl (by first | kernel_rfl | (unfold Gl; kernel_rfl))) (by first | kernel_rfl | (unfold Gl; kernel_rfl)) (by first | kernel_rfl | (unfold Gl; kernel_rfl))) (ev_cst rfl) (by first | kernel_rfl | (unfold Gl; kernel_rfl))) (ea_cons (ev_bin (ev_cst rfl) (ev_glob (by first | kernel_rfl | (unfold Gl; kernel_rfl)) hi_MOST_HEAT (by first | kernel_rfl | (unfold Gl; kernel_rfl)))) (ea_cons (ev_fz (ev_glob (by first | kernel_rfl | (unfold Gl; kernel_rfl)) hi_MOST_HEAT (by first | kernel_rfl | (unfold Gl; kernel_rfl)))) ea_nil (by first | kernel_rfl | (unfold Gl; kernel_rfl))) (by first | kernel_rfl | (unfold Gl; kernel_rfl))) (by first | kernel_rfl | (unfold Gl; kernel_rfl))) (by first | kernel_rfl | (unfold Gl; kernel_rfl)) (by first | kernel_rfl | (unfold Gl; kernel_rfl)) (by first | kernel_rfl | (unfold Gl; kernel_rfl))) (ev_one (ev_cmp (or_c (Room.u65 hr0) .NotEq) (ev_ix (Room.u1 hr0) (ev_var (i := 0) (by first | kernel_rfl | (unfold Gl; kernel_rfl)) (.inl (by first | kernel_rfl | (unfold Gl; kernel_rfl))) (by first | kernel_rfl | (unfold Gl; kernel_rfl)) (by first | kernel_rfl | (unfold Gl; kernel_rfl))) (ev_cst rfl) (by first | kernel_rfl | (unfold Gl; kernel_rfl))) (ev_cst rfl) (by first | kernel_rfl | (unfold Gl; kernel_rfl))))))))
theorem c_need_problem (L : LC K mg base T fa fn tf) : Ctr P w K mg base CX0 6 T "need_problem" F_need_problem := by
  obtain ⟨fd, Fd⟩ := L.c.def_ 6 (d := d_need_problem) rfl
  obtain ⟨t_MOST_BOXES, hi_MOST_BOXES⟩ := L.int 30 (x := "MOST_BOXES") (n := 4) rfl
  obtain ⟨t_MOST_GAP, hi_MOST_GAP⟩ := L.int 31 (x := "MOST_GAP") (n := 100) rfl
  obtain ⟨t_MOST_STREAMS, hi_MOST_STREAMS⟩ := L.int 34 (x := "MOST_STREAMS") (n := 6) rfl
  have m_enumerate := L.free 18 (x := "enumerate") rfl
  have m_isinstance := L.free 20 (x := "isinstance") rfl
  have m_len := L.free 21 (x := "len") rfl
  have m_tuple := L.free 29 (x := "tuple") rfl
  refine ctr_of L 6 rfl Fd (Fd.bindsN (ps := ["problem"]) fun _ _ _ _ _ _ us hl => match us, hl with | [_], _ => by kernel_rfl) ?_
  refine fn_okC (N := ["problem", "streams", "boxes", "gap", "index", "one"]) (k := 5) (ios := [false]) (fb := fb_need_problem) Fd sc_need_problem rfl (by decide) fun A outer s H E Ex0 H0 I0 hr0 => ?_
  exact (ess_cons (es_if rfl (ew_et (ew_or (et_not (et_val (ev_isi (by decide +kernel) (by first | kernel_rfl | (unfold Gl; kernel_rfl)) m_isinstance (by first | kernel_rfl | (unfold Gl; kernel_rfl)) m_tuple (by decide +kernel) (by decide +kernel) (by first | kernel_rfl | (unfold Gl; kernel_rfl)) (ev_var (i := 0) (by first | kernel_rfl | (unfold Gl; kernel_rfl)) (.inl (by first | kernel_rfl | (unfold Gl; kernel_rfl))) (by first | kernel_rfl | (unfold Gl; kernel_rfl)) (by first | kernel_rfl | (unfold Gl; kernel_rfl))) (by first | kernel_rfl | (unfold Gl; kernel_rfl)) (by first | kernel_rfl | (unfold Gl; kernel_rfl)) (by first | kernel_rfl | (unfold Gl; kernel_rfl))) (fun _ => (by first | kernel_rfl | (unfold Gl; kernel_rfl))))) (ew_or1 (et_cmp (semC_bool .NotEq) (or_c (Room.u65 hr0) .NotEq) (ev_blt cr_len (by first | kernel_rfl | (unfold Gl; kernel_rfl)) m_len boot_len (ea_cons (ev_var (i := 0) (by first | kernel_rfl | (unfold Gl; kernel_rfl)) (.inl (by first | kernel_rfl | (unfold Gl; kernel_rfl))) (by first | kernel_rfl | (unfold Gl; kernel_rfl)) (by first | kernel_rfl | (unfold Gl; kernel_rfl))) ea_nil (by first | kernel_rfl | (unfold Gl; kernel_rfl))) (by decide +kernel) (by first | kernel_rfl | (unfold Gl; kernel_rfl)) (by first | kernel_rfl | (unfold Gl; kernel_rfl)) (by first | kernel_rfl | (unfold Gl; kernel_rfl))) (ev_cst rfl) (by first | kernel_rfl | (unfold Gl; kernel_rfl)))))) (ess_one es_never) ess_nil)
  (ess_cons (es_asg rfl (ev_var (i := 0) (by first | kernel_rfl | (unfold Gl; kernel_rfl)) (.inl (by first | kernel_rfl | (unfold Gl; kernel_rfl))) (by first | kernel_rfl | (unfold Gl; kernel_rfl)) (by first | kernel_rfl | (unfold Gl; kernel_rfl))) (eg_tup rfl (egs_cons (eg_name (i := 1) sc_need_problem.nd (by first | kernel_rfl | (unfold Gl; kernel_rfl)) (.inl (by first | kernel_rfl | (unfold Gl; kernel_rfl))) (.inr (by first | kernel_rfl | (unfold Gl; kernel_rfl)))) (egs_cons (eg_name (i := 2) sc_need_problem.nd (by first | kernel_rfl | (unfold Gl; kernel_rfl)) (.inl (by first | kernel_rfl | (unfold Gl; kernel_rfl))) (.inr (by first | kernel_rfl | (unfold Gl; kernel_rfl)))) (egs_cons (eg_name (i := 3) sc_need_problem.nd (by first | kernel_rfl | (unfold Gl; kernel_rfl)) (.inl (by first | kernel_rfl | (unfold Gl; kernel_rfl))) (.inr (by first | kernel_rfl | (unfold Gl; kernel_rfl)))) egs_nil (by first | kernel_rfl | (unfold Gl; kernel_rfl))) (by first | kernel_rfl | (unfold Gl; kernel_rfl))) (by first | kernel_rfl | (unfold Gl; kernel_rfl))) (by first | kernel_rfl | (unfold Gl; kernel_rfl)) (by first | kernel_rfl | (unfold Gl; kernel_rfl))) (by first | kernel_rfl | (unfold Gl; kernel_rfl)) (by first | kernel_rfl | (unfold Gl; kernel_rfl)) (by first | kernel_rfl | (unfold Gl; kernel_rfl)))
  (ess_cons (es_if rfl (ew_et (ew_or (et_not (et_val (ev_isi (by decide +kernel) (by first | kernel_rfl | (unfold Gl; kernel_rfl)) m_isinstance (by first | kernel_rfl | (unfold Gl; kernel_rfl)) m_tuple (by decide +kernel) (by decide +kernel) (by first | kernel_rfl | (unfold Gl; kernel_rfl)) (ev_var (i := 1) (by first | kernel_rfl | (unfold Gl; kernel_rfl)) (.inl (by first | kernel_rfl | (unfold Gl; kernel_rfl))) (by first | kernel_rfl | (unfold Gl; kernel_rfl)) (by first | kernel_rfl | (unfold Gl; kernel_rfl))) (by first | kernel_rfl | (unfold Gl; kernel_rfl)) (by first | kernel_rfl | (unfold Gl; kernel_rfl)) (by first | kernel_rfl | (unfold Gl; kernel_rfl))) (fun _ => (by first | kernel_rfl | (unfold Gl; kernel_rfl))))) (ew_or1 (et_cmp (semC_bool .Gt) (or_c (Room.u65 hr0) .Gt) (ev_blt cr_len (by first | kernel_rfl | (unfold Gl; kernel_rfl)) m_len boot_len (ea_cons (ev_var (i := 1) (by first | kernel_rfl | (unfold Gl; kernel_rfl)) (.inl (by first | kernel_rfl | (unfold Gl; kernel_rfl))) (by first | kernel_rfl | (unfold Gl; kernel_rfl)) (by first | kernel_rfl | (unfold Gl; kernel_rfl))) ea_nil (by first | kernel_rfl | (unfold Gl; kernel_rfl))) (by decide +kernel) (by first | kernel_rfl | (unfold Gl; kernel_rfl)) (by first | kernel_rfl | (unfold Gl; kernel_rfl)) (by first | kernel_rfl | (unfold Gl; kernel_rfl))) (ev_glob (by first | kernel_rfl | (unfold Gl; kernel_rfl)) hi_MOST_STREAMS (by first | kernel_rfl | (unfold Gl; kernel_rfl))) (by first | kernel_rfl | (unfold Gl; kernel_rfl)))))) (ess_one es_never) ess_nil)
  (ess_cons (es_for rfl PassesOwn.never rfl (ei_enum (by first | kernel_rfl | (unfold Gl; kernel_rfl)) m_enumerate (ev_var (i := 1) (by first | kernel_rfl | (unfold Gl; kernel_rfl)) (.inl (by first | kernel_rfl | (unfold Gl; kernel_rfl))) (by first | kernel_rfl | (unfold Gl; kernel_rfl)) (by first | kernel_rfl | (unfold Gl; kernel_rfl))) (by first | kernel_rfl | (unfold Gl; kernel_rfl)) (by first | kernel_rfl | (unfold Gl; kernel_rfl))) (eg_tup rfl (egs_cons (eg_name (i := 4) sc_need_problem.nd (by first | kernel_rfl | (unfold Gl; kernel_rfl)) (.inl (by first | kernel_rfl | (unfold Gl; kernel_rfl))) (.inr (by first | kernel_rfl | (unfold Gl; kernel_rfl)))) (egs_cons (eg_name (i := 5) sc_need_problem.nd (by first | kernel_rfl | (unfold Gl; kernel_rfl)) (.inl (by first | kernel_rfl | (unfold Gl; kernel_rfl))) (.inr (by first | kernel_rfl | (unfold Gl; kernel_rfl)))) egs_nil (by first | kernel_rfl | (unfold Gl; kernel_rfl))) (by first | kernel_rfl | (unfold Gl; kernel_rfl))) (by first | kernel_rfl | (unfold Gl; kernel_rfl)) (by first | kernel_rfl | (unfold Gl; kernel_rfl))) (ess_one (es_if rfl (et_not (et_val (ev_call (((c_is_stream L).mono (by omega))) hr0 (by first | kernel_rfl | (unfold Gl; kernel_rfl)) (fun _ _ _ _ _ _ _ h => h.elim) (ea_cons (ev_fz (ev_var (i := 5) (by first | kernel_rfl | (unfold Gl; kernel_rfl)) (.inl (by first | kernel_rfl | (unfold Gl; kernel_rfl))) (by first | kernel_rfl | (unfold Gl; kernel_rfl)) (by first | kernel_rfl | (unfold Gl; kernel_rfl)))) ea_nil (by first | kernel_rfl | (unfold Gl; kernel_rfl))) (by first | kernel_rfl | (unfold Gl; kernel_rfl)) (by first | kernel_rfl | (unfold Gl; kernel_rfl)) (by first | kernel_rfl | (unfold Gl; kernel_rfl))) (fun _ => (by first | kernel_rfl | (unfold Gl; kernel_rfl))))) (ess_one es_never) ess_nil)) (fun _ => (by first | kernel_rfl | (unfold Gl; kernel_rfl))))
  (ess_cons (es_if rfl (ew_et (ew_or (et_not (et_val (ev_isi (by decide +kernel) (by first | kernel_rfl | (unfold Gl; kernel_rfl)) m_isinstance (by first | kernel_rfl | (unfold Gl; kernel_rfl)) m_tuple (by decide +kernel) (by decide +kernel) (by first | kernel_rfl | (unfold Gl; kernel_rfl)) (ev_var (i := 2) (by first | kernel_rfl | (unfold Gl; kernel_rfl)) (.inl (by first | kernel_rfl | (unfold Gl; kernel_rfl))) (by first | kernel_rfl | (unfold Gl; kernel_rfl)) (by first | kernel_rfl | (unfold Gl; kernel_rfl))) (by first | kernel_rfl | (unfold Gl; kernel_rfl)) (by first | kernel_rfl | (unfold Gl; kernel_rfl)) (by first | kernel_rfl | (unfold Gl; kernel_rfl))) (fun _ => (by first | kernel_rfl | (unfold Gl; kernel_rfl))))) (ew_or1 (et_cmp (semC_bool .Gt) (or_c (Room.u65 hr0) .Gt) (ev_blt cr_len (by first | kernel_rfl | (unfold Gl; kernel_rfl)) m_len boot_len (ea_cons (ev_var (i := 2) (by first | kernel_rfl | (unfold Gl; kernel_rfl)) (.inl (by first | kernel_rfl | (unfold Gl; kernel_rfl))) (by first | kernel_rfl | (unfold Gl; kernel_rfl)) (by first | kernel_rfl | (unfold Gl; kernel_rfl))) ea_nil (by first | kernel_rfl | (unfold Gl; kernel_rfl))) (by decide +kernel) (by first | kernel_rfl | (unfold Gl; kernel_rfl)) (by first | kernel_rfl | (unfold Gl; kernel_rfl)) (by first | kernel_rfl | (unfold Gl; kernel_rfl))) (ev_glob (by first | kernel_rfl | (unfold Gl; kernel_rfl)) hi_MOST_BOXES (by first | kernel_rfl | (unfold Gl; kernel_rfl))) (by first | kernel_rfl | (unfold Gl; kernel_rfl)))))) (ess_one es_never) ess_nil)
  (ess_cons (es_for rfl PassesOwn.never rfl (ei_enum (by first | kernel_rfl | (unfold Gl; kernel_rfl)) m_enumerate (ev_var (i := 2) (by first | kernel_rfl | (unfold Gl; kernel_rfl)) (.inl (by first | kernel_rfl | (unfold Gl; kernel_rfl))) (by first | kernel_rfl | (unfold Gl; kernel_rfl)) (by first | kernel_rfl | (unfold Gl; kernel_rfl))) (by first | kernel_rfl | (unfold Gl; kernel_rfl)) (by first | kernel_rfl | (unfold Gl; kernel_rfl))) (eg_tup rfl (egs_cons (eg_name (i := 4) sc_need_problem.nd (by first | kernel_rfl | (unfold Gl; kernel_rfl)) (.inl (by first | kernel_rfl | (unfold Gl; kernel_rfl))) (.inr (by first | kernel_rfl | (unfold Gl; kernel_rfl)))) (egs_cons (eg_name (i := 5) sc_need_problem.nd (by first | kernel_rfl | (unfold Gl; kernel_rfl)) (.inl (by first | kernel_rfl | (unfold Gl; kernel_rfl))) (.inr (by first | kernel_rfl | (unfold Gl; kernel_rfl)))) egs_nil (by first | kernel_rfl | (unfold Gl; kernel_rfl))) (by first | kernel_rfl | (unfold Gl; kernel_rfl))) (by first | kernel_rfl | (unfold Gl; kernel_rfl)) (by first | kernel_rfl | (unfold Gl; kernel_rfl))) (ess_one (es_if rfl (et_not (et_val (ev_call (((c_is_box L).mono (by omega))) hr0 (by first | kernel_rfl | (unfold Gl; kernel_rfl)) (fun _ _ _ _ _ _ _ h => h.elim) (ea_cons (ev_fz (ev_var (i := 5) (by first | kernel_rfl | (unfold Gl; kernel_rfl)) (.inl (by first | kernel_rfl | (unfold Gl; kernel_rfl))) (by first | kernel_rfl | (unfold Gl; kernel_rfl)) (by first | kernel_rfl | (unfold Gl; kernel_rfl)))) ea_nil (by first | kernel_rfl | (unfold Gl; kernel_rfl))) (by first | kernel_rfl | (unfold Gl; kernel_rfl)) (by first | kernel_rfl | (unfold Gl; kernel_rfl)) (by first | kernel_rfl | (unfold Gl; kernel_rfl))) (fun _ => (by first | kernel_rfl | (unfold Gl; kernel_rfl))))) (ess_one es_never) ess_nil)) (fun _ => (by first | kernel_rfl | (unfold Gl; kernel_rfl))))
  (ess_cons (es_if rfl (et_not (et_val (ev_call (((c_is_in L).mono (by omega))) hr0 (by first | kernel_rfl | (unfold Gl; kernel_rfl)) (fun _ _ _ _ _ _ _ h => h.elim) (ea_cons (ev_fz (ev_var (i := 3) (by first | kernel_rfl | (unfold Gl; kernel_rfl)) (.inl (by first | kernel_rfl | (unfold Gl; kernel_rfl))) (by first | kernel_rfl | (unfold Gl; kernel_rfl)) (by first | kernel_rfl | (unfold Gl; kernel_rfl)))) (ea_cons (ev_cst rfl) (ea_cons (ev_fz (ev_glob (by first | kernel_rfl | (unfold Gl; kernel_rfl)) hi_MOST_GAP (by first | kernel_rfl | (unfold Gl; kernel_rfl)))) ea_nil (by first | kernel_rfl | (unfold Gl; kernel_rfl))) (by first | kernel_rfl | (unfold Gl; kernel_rfl))) (by first | kernel_rfl | (unfold Gl; kernel_rfl))) (by first | kernel_rfl | (unfold Gl; kernel_rfl)) (by first | kernel_rfl | (unfold Gl; kernel_rfl)) (by first | kernel_rfl | (unfold Gl; kernel_rfl))) (fun _ => (by first | kernel_rfl | (unfold Gl; kernel_rfl))))) (ess_one es_never) ess_nil)
  (ess_one (es_if rfl (ew_et (ew_and (et_not (et_val (ev_var (i := 1) (by first | kernel_rfl | (unfold Gl; kernel_rfl)) (.inl (by first | kernel_rfl | (unfold Gl; kernel_rfl))) (by first | kernel_rfl | (unfold Gl; kernel_rfl)) (by first | kernel_rfl | (unfold Gl; kernel_rfl))) (fun _ => (by first | kernel_rfl | (unfold Gl; kernel_rfl))))) (ew_and1 (et_not (et_val (ev_var (i := 2) (by first | kernel_rfl | (unfold Gl; kernel_rfl)) (.inl (by first | kernel_rfl | (unfold Gl; kernel_rfl))) (by first | kernel_rfl | (unfold Gl; kernel_rfl)) (by first | kernel_rfl | (unfold Gl; kernel_rfl))) (fun _ => (by first | kernel_rfl | (unfold Gl; kernel_rfl)))))))) (ess_one es_never) ess_nil)))))))))
theorem c_is_giver (L : LC K mg base T fa fn tf) : Ctr P w K mg base CX0 1 T "is_giver" F_is_giver := by
  obtain ⟨fd, Fd⟩ := L.c.def_ 7 (d := d_is_giver) rfl
  have m_len := L.free 21 (x := "len") rfl
  refine ctr_of L 7 rfl Fd (Fd.bindsN (ps := ["problem", "number"]) fun _ _ _ _ _ _ us hl => match us, hl with | [_, _], _ => by kernel_rfl) ?_
  refine fn_okC (N := ["problem", "number", "streams", "boxes", "gap"]) (k := 0) (ios := [false, false]) (fb := fb_is_giver) Fd sc_is_giver rfl (by decide) fun A outer s H E Ex0 H0 I0 hr0 => ?_
  exact (ess_cons (es_asg rfl (ev_var (i := 0) (by first | kernel_rfl | (unfold Gl; kernel_rfl)) (.inl (by first | kernel_rfl | (unfold Gl; kernel_rfl))) (by first | kernel_rfl | (unfold Gl; kernel_rfl)) (by first | kernel_rfl | (unfold Gl; kernel_rfl))) (eg_tup rfl (egs_cons (eg_name (i := 2) sc_is_giver.nd (by first | kernel_rfl | (unfold Gl; kernel_rfl)) (.inl (by first | kernel_rfl | (unfold Gl; kernel_rfl))) (.inr (by first | kernel_rfl | (unfold Gl; kernel_rfl)))) (egs_cons (eg_name (i := 3) sc_is_giver.nd (by first | kernel_rfl | (unfold Gl; kernel_rfl)) (.inl (by first | kernel_rfl | (unfold Gl; kernel_rfl))) (.inr (by first | kernel_rfl | (unfold Gl; kernel_rfl)))) (egs_cons (eg_name (i := 4) sc_is_giver.nd (by first | kernel_rfl | (unfold Gl; kernel_rfl)) (.inl (by first | kernel_rfl | (unfold Gl; kernel_rfl))) (.inr (by first | kernel_rfl | (unfold Gl; kernel_rfl)))) egs_nil (by first | kernel_rfl | (unfold Gl; kernel_rfl))) (by first | kernel_rfl | (unfold Gl; kernel_rfl))) (by first | kernel_rfl | (unfold Gl; kernel_rfl))) (by first | kernel_rfl | (unfold Gl; kernel_rfl)) (by first | kernel_rfl | (unfold Gl; kernel_rfl))) (by first | kernel_rfl | (unfold Gl; kernel_rfl)) (by first | kernel_rfl | (unfold Gl; kernel_rfl)) (by first | kernel_rfl | (unfold Gl; kernel_rfl)))
  (ess_cons (es_if rfl (et_cmp (semC_bool .Lt) (or_c (Room.u65 hr0) .Lt) (ev_var (i := 1) (by first | kernel_rfl | (unfold Gl; kernel_rfl)) (.inl (by first | kernel_rfl | (unfold Gl; kernel_rfl))) (by first | kernel_rfl | (unfold Gl; kernel_rfl)) (by first | kernel_rfl | (unfold Gl; kernel_rfl))) (ev_blt cr_len (by first | kernel_rfl | (unfold Gl; kernel_rfl)) m_len boot_len (ea_cons (ev_var (i := 2) (by first | kernel_rfl | (unfold Gl; kernel_rfl)) (.inl (by first | kernel_rfl | (unfold Gl; kernel_rfl))) (by first | kernel_rfl | (unfold Gl; kernel_rfl)) (by first | kernel_rfl | (unfold Gl; kernel_rfl))) ea_nil (by first | kernel_rfl | (unfold Gl; kernel_rfl))) (by decide +kernel) (by first | kernel_rfl | (unfold Gl; kernel_rfl)) (by first | kernel_rfl | (unfold Gl; kernel_rfl)) (by first | kernel_rfl | (unfold Gl; kernel_rfl))) (by first | kernel_rfl | (unfold Gl; kernel_rfl))) (ess_one (es_ret (ev_cmp (or_c (Room.u65 hr0) .Gt) (ev_ix (Room.u1 hr0) (ev_ix (Room.u1 hr0) (ev_var (i := 2) (by first | kernel_rfl | (unfold Gl; kernel_rfl)) (.inl (by first | kernel_rfl | (unfold Gl; kernel_rfl))) (by first | kernel_rfl | (unfold Gl; kernel_rfl)) (by first | kernel_rfl | (unfold Gl; kernel_rfl))) (ev_var (i := 1) (by first | kernel_rfl | (unfold Gl; kernel_rfl)) (.inl (by first | kernel_rfl | (unfold Gl; kernel_rfl))) (by first | kernel_rfl | (unfold Gl; kernel_rfl)) (by first | kernel_rfl | (unfold Gl; kernel_rfl))) (by first | kernel_rfl | (unfold Gl; kernel_rfl))) (ev_cst rfl) (by first | kernel_rfl | (unfold Gl; kernel_rfl))) (ev_ix (Room.u1 hr0) (ev_ix (Room.u1 hr0) (ev_var (i := 2) (by first | kernel_rfl | (unfold Gl; kernel_rfl)) (.inl (by first | kernel_rfl | (unfold Gl; kernel_rfl))) (by first | kernel_rfl | (unfold Gl; kernel_rfl)) (by first | kernel_rfl | (unfold Gl; kernel_rfl))) (ev_var (i := 1) (by first | kernel_rfl | (unfold Gl; kernel_rfl)) (.inl (by first | kernel_rfl | (unfold Gl; kernel_rfl))) (by first | kernel_rfl | (unfold Gl; kernel_rfl)) (by first | kernel_rfl | (unfold Gl; kernel_rfl))) (by first | kernel_rfl | (unfold Gl; kernel_rfl))) (ev_cst rfl) (by first | kernel_rfl | (unfold Gl; kernel_rfl))) (by first | kernel_rfl | (unfold Gl; kernel_rfl))))) ess_nil)
  (ess_one (es_ret (ev_cmp (or_c (Room.u65 hr0) .Gt) (ev_ix (Room.u1 hr0) (ev_ix (Room.u1 hr0) (ev_var (i := 3) (by first | kernel_rfl | (unfold Gl; kernel_rfl)) (.inl (by first | kernel_rfl | (unfold Gl; kernel_rfl))) (by first | kernel_rfl | (unfold Gl; kernel_rfl)) (by first | kernel_rfl | (unfold Gl; kernel_rfl))) (ev_bin (ev_var (i := 1) (by first | kernel_rfl | (unfold Gl; kernel_rfl)) (.inl (by first | kernel_rfl | (unfold Gl; kernel_rfl))) (by first | kernel_rfl | (unfold Gl; kernel_rfl)) (by first | kernel_rfl | (unfold Gl; kernel_rfl))) (ev_blt cr_len (by first | kernel_rfl | (unfold Gl; kernel_rfl)) m_len boot_len (ea_cons (ev_var (i := 2) (by first | kernel_rfl | (unfold Gl; kernel_rfl)) (.inl (by first | kernel_rfl | (unfold Gl; kernel_rfl))) (by first | kernel_rfl | (unfold Gl; kernel_rfl)) (by first | kernel_rfl | (unfold Gl; kernel_rfl))) ea_nil (by first | kernel_rfl | (unfold Gl; kernel_rfl))) (by decide +kernel) (by first | kernel_rfl | (unfold Gl; kernel_rfl)) (by first | kernel_rfl | (unfold Gl; kernel_rfl)) (by first | kernel_rfl | (unfold Gl; kernel_rfl)))) (by first | kernel_rfl | (unfold Gl; kernel_rfl))) (ev_cst rfl) (by first | kernel_rfl | (unfold Gl; kernel_rfl))) (ev_cst rfl) (by first | kernel_rfl | (unfold Gl; kernel_rfl)))))))
theorem c_numbers_of (L : LC K mg base T fa fn tf) : Ctr P w K mg base CX0 2 T "numbers_of" F_numbers_of := by
  obtain ⟨fd, Fd⟩ := L.c.def_ 8 (d := d_numbers_of) rfl
  have m_len := L.free 21 (x := "len") rfl
  have m_range := L.free 25 (x := "range") rfl
  refine ctr_of L 8 rfl Fd (Fd.bindsN (ps := ["problem", "are_givers"]) fun _ _ _ _ _ _ us hl => match us, hl with | [_, _], _ => by kernel_rfl) ?_
  refine fn_okC (N := ["problem", "are_givers", "many", "number"]) (k := 1) (ios := [false, false]) (fb := fb_numbers_of) Fd sc_numbers_of rfl (by decide) fun A outer s H E Ex0 H0 I0 hr0 => ?_
  exact (ess_cons (es_set (i := 2) sc_numbers_of.nd rfl (by first | kernel_rfl | (unfold Gl; kernel_rfl)) (.inl (by first | kernel_rfl | (unfold Gl; kernel_rfl))) (.inr (by first | kernel_rfl | (unfold Gl; kernel_rfl))) (ev_bin (ev_blt cr_len (by first | kernel_rfl | (unfold Gl; kernel_rfl)) m_len boot_len (ea_cons (ev_ix (Room.u1 hr0) (ev_var (i := 0) (by first | kernel_rfl | (unfold Gl; kernel_rfl)) (.inr (.inl (by first | kernel_rfl | (unfold Gl; kernel_rfl)))) (by first | kernel_rfl | (unfold Gl; kernel_rfl)) (by first | kernel_rfl | (unfold Gl; kernel_rfl))) (ev_cst rfl) (by first | kernel_rfl | (unfold Gl; kernel_rfl))) ea_nil (by first | kernel_rfl | (unfold Gl; kernel_rfl))) (by decide +kernel) (by first | kernel_rfl | (unfold Gl; kernel_rfl)) (by first | kernel_rfl | (unfold Gl; kernel_rfl)) (by first | kernel_rfl | (unfold Gl; kernel_rfl))) (ev_blt cr_len (by first | kernel_rfl | (unfold Gl; kernel_rfl)) m_len boot_len (ea_cons (ev_ix (Room.u1 hr0) (ev_var (i := 0) (by first | kernel_rfl | (unfold Gl; kernel_rfl)) (.inr (.inl (by first | kernel_rfl | (unfold Gl; kernel_rfl)))) (by first | kernel_rfl | (unfold Gl; kernel_rfl)) (by first | kernel_rfl | (unfold Gl; kernel_rfl))) (ev_cst rfl) (by first | kernel_rfl | (unfold Gl; kernel_rfl))) ea_nil (by first | kernel_rfl | (unfold Gl; kernel_rfl))) (by decide +kernel) (by first | kernel_rfl | (unfold Gl; kernel_rfl)) (by first | kernel_rfl | (unfold Gl; kernel_rfl)) (by first | kernel_rfl | (unfold Gl; kernel_rfl)))) (by first | kernel_rfl | (unfold Gl; kernel_rfl)))
  (ess_one (es_ret (ev_lc rfl sc_numbers_of.nd (ei_range1 (by first | kernel_rfl | (unfold Gl; kernel_rfl)) m_range (ea_cons (ev_fz (ev_var (i := 2) (by first | kernel_rfl | (unfold Gl; kernel_rfl)) (.inl (by first | kernel_rfl | (unfold Gl; kernel_rfl))) (by first | kernel_rfl | (unfold Gl; kernel_rfl)) (by first | kernel_rfl | (unfold Gl; kernel_rfl)))) ea_nil (by first | kernel_rfl | (unfold Gl; kernel_rfl))) (by first | kernel_rfl | (unfold Gl; kernel_rfl))) (own := [("number", 3)]) (blkOk_by (by first | kernel_rfl | (unfold Gl; kernel_rfl))) (by decide) (fun _ _ _ _ _ => (eg_name (i := 3) sc_numbers_of.nd (by first | kernel_rfl | (unfold Gl; kernel_rfl)) (.inl (by first | kernel_rfl | (unfold Gl; kernel_rfl))) (.inr (by first | kernel_rfl | (unfold Gl; kernel_rfl))))) (fun _ _ _ _ _ => (ets_one (et_cmp (semC_bool .Eq) (or_c (Room.u65 hr0) .Eq) (ev_call (((c_is_giver L).mono (by omega))) hr0 (by first | kernel_rfl | (unfold Gl; kernel_rfl)) (fun _ _ _ _ _ _ _ h => h.elim) (ea_cons (ev_fz (ev_var (i := 0) (by first | kernel_rfl | (unfold Gl; kernel_rfl)) (.inr (.inl (by first | kernel_rfl | (unfold Gl; kernel_rfl)))) (by first | kernel_rfl | (unfold Gl; kernel_rfl)) (by first | kernel_rfl | (unfold Gl; kernel_rfl)))) (ea_cons (ev_fz (ev_var (i := 3) (by first | kernel_rfl | (unfold Gl; kernel_rfl)) (.inl (by first | kernel_rfl | (unfold Gl; kernel_rfl))) (by first | kernel_rfl | (unfold Gl; kernel_rfl)) (by first | kernel_rfl | (unfold Gl; kernel_rfl)))) ea_nil (by first | kernel_rfl | (unfold Gl; kernel_rfl))) (by first | kernel_rfl | (unfold Gl; kernel_rfl))) (by first | kernel_rfl | (unfold Gl; kernel_rfl)) (by first | kernel_rfl | (unfold Gl; kernel_rfl)) (by first | kernel_rfl | (unfold Gl; kernel_rfl))) (ev_var (i := 1) (by first | kernel_rfl | (unfold Gl; kernel_rfl)) (.inr (.inl (by first | kernel_rfl | (unfold Gl; kernel_rfl)))) (by first | kernel_rfl | (unfold Gl; kernel_rfl)) (by first | kernel_rfl | (unfold Gl; kernel_rfl))) (by first | kernel_rfl | (unfold Gl; kernel_rfl))))) (fun _ _ _ _ _ => (ev_var (i := 3) (by first | kernel_rfl | (unfold Gl; kernel_rfl)) (.inl (by first | kernel_rfl | (unfold Gl; kernel_rfl))) (by first | kernel_rfl | (unfold Gl; kernel_rfl)) (by first | kernel_rfl | (unfold Gl; kernel_rfl)))) (fun _ => (by first | kernel_rfl | (unfold Gl; kernel_rfl)))))))
theorem c_corners_of (L : LC K mg base T fa fn tf) : Ctr P w K mg base CX0 4 T "corners_of" F_corners_of := by
  obtain ⟨fd, Fd⟩ := L.c.def_ 9 (d := d_corners_of) rfl
  have m_abs := L.free 15 (x := "abs") rfl
  have m_enumerate := L.free 18 (x := "enumerate") rfl
  have m_len := L.free 21 (x := "len") rfl
  have m_list := L.free 22 (x := "list") rfl
  have m_max := L.free 23 (x := "max") rfl
  have m_min := L.free 24 (x := "min") rfl
  have m_sorted := L.free 27 (x := "sorted") rfl
  have m_sum := L.free 28 (x := "sum") rfl
  refine ctr_of L 9 rfl Fd (Fd.bindsN (ps := ["problem", "gives"]) fun _ _ _ _ _ _ us hl => match us, hl with | [_, _], _ => by kernel_rfl) ?_
  refine fn_okC (N := ["problem", "gives", "gap", "numbers", "places", "number", "found", "heat", "some", "at", "start", "goal", "rate", "step", "boxes", "here", "streams", "one"]) (k := 3) (ios := [false, false]) (fb := fb_corners_of) Fd sc_corners_of rfl (by decide) fun A outer s H E Ex0 H0 I0 hr0 => ?_
  exact (ess_cons (es_asg rfl (ev_var (i := 0) (by first | kernel_rfl | (unfold Gl; kernel_rfl)) (.inl (by first | kernel_rfl | (unfold Gl; kernel_rfl))) (by first | kernel_rfl | (unfold Gl; kernel_rfl)) (by first | kernel_rfl | (unfold Gl; kernel_rfl))) (eg_tup rfl (egs_cons (eg_name (i := 16) sc_corners_of.nd (by first | kernel_rfl | (unfold Gl; kernel_rfl)) (.inr (by first | kernel_rfl | (unfold Gl; kernel_rfl))) (.inl (by first | kernel_rfl | (unfold Gl; kernel_rfl)))) (egs_cons (eg_name (i := 14) sc_corners_of.nd (by first | kernel_rfl | (unfold Gl; kernel_rfl)) (.inr (by first | kernel_rfl | (unfold Gl; kernel_rfl))) (.inl (by first | kernel_rfl | (unfold Gl; kernel_rfl)))) (egs_cons (eg_name (i := 2) sc_corners_of.nd (by first | kernel_rfl | (unfold Gl; kernel_rfl)) (.inl (by first | kernel_rfl | (unfold Gl; kernel_rfl))) (.inr (by first | kernel_rfl | (unfold Gl; kernel_rfl)))) egs_nil (by first | kernel_rfl | (unfold Gl; kernel_rfl))) (by first | kernel_rfl | (unfold Gl; kernel_rfl))) (by first | kernel_rfl | (unfold Gl; kernel_rfl))) (by first | kernel_rfl | (unfold Gl; kernel_rfl)) (by first | kernel_rfl | (unfold Gl; kernel_rfl))) (by first | kernel_rfl | (unfold Gl; kernel_rfl)) (by first | kernel_rfl | (unfold Gl; kernel_rfl)) (by first | kernel_rfl | (unfold Gl; kernel_rfl)))
  (ess_cons (es_set (i := 3) sc_corners_of.nd rfl (by first | kernel_rfl | (unfold Gl; kernel_rfl)) (.inl (by first | kernel_rfl | (unfold Gl; kernel_rfl))) (.inr (by first | kernel_rfl | (unfold Gl; kernel_rfl))) (ev_call (((c_numbers_of L).mono (by omega))) hr0 (by first | kernel_rfl | (unfold Gl; kernel_rfl)) (fun _ _ _ _ _ _ _ h => h.elim) (ea_cons (ev_fz (ev_var (i := 0) (by first | kernel_rfl | (unfold Gl; kernel_rfl)) (.inl (by first | kernel_rfl | (unfold Gl; kernel_rfl))) (by first | kernel_rfl | (unfold Gl; kernel_rfl)) (by first | kernel_rfl | (unfold Gl; kernel_rfl)))) (ea_cons (ev_fz (ev_var (i := 1) (by first | kernel_rfl | (unfold Gl; kernel_rfl)) (.inl (by first | kernel_rfl | (unfold Gl; kernel_rfl))) (by first | kernel_rfl | (unfold Gl; kernel_rfl)) (by first | kernel_rfl | (unfold Gl; kernel_rfl)))) ea_nil (by first | kernel_rfl | (unfold Gl; kernel_rfl))) (by first | kernel_rfl | (unfold Gl; kernel_rfl))) (by first | kernel_rfl | (unfold Gl; kernel_rfl)) (by first | kernel_rfl | (unfold Gl; kernel_rfl)) (by first | kernel_rfl | (unfold Gl; kernel_rfl))) (by first | kernel_rfl | (unfold Gl; kernel_rfl)))
  (ess_cons (es_set (i := 4) sc_corners_of.nd rfl (by first | kernel_rfl | (unfold Gl; kernel_rfl)) (.inl (by first | kernel_rfl | (unfold Gl; kernel_rfl))) (.inr (by first | kernel_rfl | (unfold Gl; kernel_rfl))) ev_dict0 (by first | kernel_rfl | (unfold Gl; kernel_rfl)))
  (ess_cons (es_for rfl PassesOwn.never rfl (ei_seq (ev_var (i := 3) (by first | kernel_rfl | (unfold Gl; kernel_rfl)) (.inl (by first | kernel_rfl | (unfold Gl; kernel_rfl))) (by first | kernel_rfl | (unfold Gl; kernel_rfl)) (by first | kernel_rfl | (unfold Gl; kernel_rfl)))) (eg_name (i := 5) sc_corners_of.nd (by first | kernel_rfl | (unfold Gl; kernel_rfl)) (.inl (by first | kernel_rfl | (unfold Gl; kernel_rfl))) (.inr (by first | kernel_rfl | (unfold Gl; kernel_rfl)))) (ess_one (es_if rfl (et_cmp (semC_bool .Lt) (or_c (Room.u65 hr0) .Lt) (ev_var (i := 5) (by first | kernel_rfl | (unfold Gl; kernel_rfl)) (.inl (by first | kernel_rfl | (unfold Gl; kernel_rfl))) (by first | kernel_rfl | (unfold Gl; kernel_rfl)) (by first | kernel_rfl | (unfold Gl; kernel_rfl))) (ev_blt cr_len (by first | kernel_rfl | (unfold Gl; kernel_rfl)) m_len boot_len (ea_cons (ev_var (i := 16) (by first | kernel_rfl | (unfold Gl; kernel_rfl)) (.inr (.inl (by first | kernel_rfl | (unfold Gl; kernel_rfl)))) (by first | kernel_rfl | (unfold Gl; kernel_rfl)) (by first | kernel_rfl | (unfold Gl; kernel_rfl))) ea_nil (by first | kernel_rfl | (unfold Gl; kernel_rfl))) (by decide +kernel) (by first | kernel_rfl | (unfold Gl; kernel_rfl)) (by first | kernel_rfl | (unfold Gl; kernel_rfl)) (by first | kernel_rfl | (unfold Gl; kernel_rfl))) (by first | kernel_rfl | (unfold Gl; kernel_rfl))) (ess_cons (es_put rfl (Room.u1 hr0) (ev_cst rfl) (ev_var (i := 4) (by first | kernel_rfl | (unfold Gl; kernel_rfl)) (.inl (by first | kernel_rfl | (unfold Gl; kernel_rfl))) (by first | kernel_rfl | (unfold Gl; kernel_rfl)) (by first | kernel_rfl | (unfold Gl; kernel_rfl))) (ev_ix (Room.u1 hr0) (ev_ix (Room.u1 hr0) (ev_var (i := 16) (by first | kernel_rfl | (unfold Gl; kernel_rfl)) (.inr (.inl (by first | kernel_rfl | (unfold Gl; kernel_rfl)))) (by first | kernel_rfl | (unfold Gl; kernel_rfl)) (by first | kernel_rfl | (unfold Gl; kernel_rfl))) (ev_var (i := 5) (by first | kernel_rfl | (unfold Gl; kernel_rfl)) (.inl (by first | kernel_rfl | (unfold Gl; kernel_rfl))) (by first | kernel_rfl | (unfold Gl; kernel_rfl)) (by first | kernel_rfl | (unfold Gl; kernel_rfl))) (by first | kernel_rfl | (unfold Gl; kernel_rfl))) (ev_cst rfl) (by first | kernel_rfl | (unfold Gl; kernel_rfl))) (by first | kernel_rfl | (unfold Gl; kernel_rfl)) (by first | kernel_rfl | (unfold Gl; kernel_rfl)) (by first | kernel_rfl | (unfold Gl; kernel_rfl)) (fun _ => (by first | kernel_rfl | (unfold Gl; kernel_rfl))))
  (ess_one (es_put rfl (Room.u1 hr0) (ev_cst rfl) (ev_var (i := 4) (by first | kernel_rfl | (unfold Gl; kernel_rfl)) (.inl (by first | kernel_rfl | (unfold Gl; kernel_rfl))) (by first | kernel_rfl | (unfold Gl; kernel_rfl)) (by first | kernel_rfl | (unfold Gl; kernel_rfl))) (ev_ix (Room.u1 hr0) (ev_ix (Room.u1 hr0) (ev_var (i := 16) (by first | kernel_rfl | (unfold Gl; kernel_rfl)) (.inr (.inl (by first | kernel_rfl | (unfold Gl; kernel_rfl)))) (by first | kernel_rfl | (unfold Gl; kernel_rfl)) (by first | kernel_rfl | (unfold Gl; kernel_rfl))) (ev_var (i := 5) (by first | kernel_rfl | (unfold Gl; kernel_rfl)) (.inl (by first | kernel_rfl | (unfold Gl; kernel_rfl))) (by first | kernel_rfl | (unfold Gl; kernel_rfl)) (by first | kernel_rfl | (unfold Gl; kernel_rfl))) (by first | kernel_rfl | (unfold Gl; kernel_rfl))) (ev_cst rfl) (by first | kernel_rfl | (unfold Gl; kernel_rfl))) (by first | kernel_rfl | (unfold Gl; kernel_rfl)) (by first | kernel_rfl | (unfold Gl; kernel_rfl)) (by first | kernel_rfl | (unfold Gl; kernel_rfl)) (fun _ => (by first | kernel_rfl | (unfold Gl; kernel_rfl)))))) (ess_one (es_put rfl (Room.u1 hr0) (ev_cst rfl) (ev_var (i := 4) (by first | kernel_rfl | (unfold Gl; kernel_rfl)) (.inl (by first | kernel_rfl | (unfold Gl; kernel_rfl))) (by first | kernel_rfl | (unfold Gl; kernel_rfl)) (by first | kernel_rfl | (unfold Gl; kernel_rfl))) (ev_ix (Room.u1 hr0) (ev_ix (Room.u1 hr0) (ev_var (i := 14) (by first | kernel_rfl | (unfold Gl; kernel_rfl)) (.inr (.inl (by first | kernel_rfl | (unfold Gl; kernel_rfl)))) (by first | kernel_rfl | (unfold Gl; kernel_rfl)) (by first | kernel_rfl | (unfold Gl; kernel_rfl))) (ev_bin (ev_var (i := 5) (by first | kernel_rfl | (unfold Gl; kernel_rfl)) (.inl (by first | kernel_rfl | (unfold Gl; kernel_rfl))) (by first | kernel_rfl | (unfold Gl; kernel_rfl)) (by first | kernel_rfl | (unfold Gl; kernel_rfl))) (ev_blt cr_len (by first | kernel_rfl | (unfold Gl; kernel_rfl)) m_len boot_len (ea_cons (ev_var (i := 16) (by first | kernel_rfl | (unfold Gl; kernel_rfl)) (.inr (.inl (by first | kernel_rfl | (unfold Gl; kernel_rfl)))) (by first | kernel_rfl | (unfold Gl; kernel_rfl)) (by first | kernel_rfl | (unfold Gl; kernel_rfl))) ea_nil (by first | kernel_rfl | (unfold Gl; kernel_rfl))) (by decide +kernel) (by first | kernel_rfl | (unfold Gl; kernel_rfl)) (by first | kernel_rfl | (unfold Gl; kernel_rfl)) (by first | kernel_rfl | (unfold Gl; kernel_rfl)))) (by first | kernel_rfl | (unfold Gl; kernel_rfl))) (ev_cst rfl) (by first | kernel_rfl | (unfold Gl; kernel_rfl))) (by first | kernel_rfl | (unfold Gl; kernel_rfl)) (by first | kernel_rfl | (unfold Gl; kernel_rfl)) (by first | kernel_rfl | (unfold Gl; kernel_rfl)) (fun _ => (by first | kernel_rfl | (unfold Gl; kernel_rfl))))))) (fun _ => (by first | kernel_rfl | (unfold Gl; kernel_rfl))))
  (ess_cons (es_par3 (i := 6) (j := 7) (l := 8) rfl sc_corners_of.nd rfl (by first | kernel_rfl | (unfold Gl; kernel_rfl)) (by first | kernel_rfl | (unfold Gl; kernel_rfl)) (by first | kernel_rfl | (unfold Gl; kernel_rfl)) (by decide) (by decide) (by decide) (by first | kernel_rfl | (unfold Gl; kernel_rfl)) (by first | kernel_rfl | (unfold Gl; kernel_rfl)) (by first | kernel_rfl | (unfold Gl; kernel_rfl)) (ea_cons (ev_lst ea_nil) (ea_cons (ev_cst rfl) (ea_cons (ev_bltN (cr_sorted (Room.u64 hr0)) (by first | kernel_rfl | (unfold Gl; kernel_rfl)) m_sorted boot_sorted (ea_cons (ev_bltTN (cr_listD rfl) (by first | kernel_rfl | (unfold Gl; kernel_rfl)) m_list PyProof.Rows.boot_list (ea_cons (ev_var (i := 4) (by first | kernel_rfl | (unfold Gl; kernel_rfl)) (.inl (by first | kernel_rfl | (unfold Gl; kernel_rfl))) (by first | kernel_rfl | (unfold Gl; kernel_rfl)) (by first | kernel_rfl | (unfold Gl; kernel_rfl))) ea_nil (by first | kernel_rfl | (unfold Gl; kernel_rfl))) (by decide +kernel) (by first | kernel_rfl | (unfold Gl; kernel_rfl)) (by first | kernel_rfl | (unfold Gl; kernel_rfl)) (by first | kernel_rfl | (unfold Gl; kernel_rfl))) ea_nil (by first | kernel_rfl | (unfold Gl; kernel_rfl))) (by decide +kernel) (by first | kernel_rfl | (unfold Gl; kernel_rfl)) (by first | kernel_rfl | (unfold Gl; kernel_rfl)) (by first | kernel_rfl | (unfold Gl; kernel_rfl))) ea_nil (by first | kernel_rfl | (unfold Gl; kernel_rfl))) (by first | kernel_rfl | (unfold Gl; kernel_rfl))) (by first | kernel_rfl | (unfold Gl; kernel_rfl))) (by first | kernel_rfl | (unfold Gl; kernel_rfl)) (by first | kernel_rfl | (unfold Gl; kernel_rfl)))
  (ess_cons (es_for rfl PassesOwn.never rfl (ei_enumL (by first | kernel_rfl | (unfold Gl; kernel_rfl)) m_enumerate (ev_var (i := 8) (by first | kernel_rfl | (unfold Gl; kernel_rfl)) (.inl (by first | kernel_rfl | (unfold Gl; kernel_rfl))) (by first | kernel_rfl | (unfold Gl; kernel_rfl)) (by first | kernel_rfl | (unfold Gl; kernel_rfl))) (by first | kernel_rfl | (unfold Gl; kernel_rfl)) (by first | kernel_rfl | (unfold Gl; kernel_rfl))) (eg_tup rfl (egs_cons (eg_name (i := 9) sc_corners_of.nd (by first | kernel_rfl | (unfold Gl; kernel_rfl)) (.inl (by first | kernel_rfl | (unfold Gl; kernel_rfl))) (.inr (by first | kernel_rfl | (unfold Gl; kernel_rfl)))) (egs_cons (eg_name (i := 15) sc_corners_of.nd (by first | kernel_rfl | (unfold Gl; kernel_rfl)) (.inr (by first | kernel_rfl | (unfold Gl; kernel_rfl))) (.inl (by first | kernel_rfl | (unfold Gl; kernel_rfl)))) egs_nil (by first | kernel_rfl | (unfold Gl; kernel_rfl))) (by first | kernel_rfl | (unfold Gl; kernel_rfl))) (by first | kernel_rfl | (unfold Gl; kernel_rfl)) (by first | kernel_rfl | (unfold Gl; kernel_rfl))) (ess_cons (es_if rfl (et_cmp (semC_bool .Gt) (or_c (Room.u65 hr0) .Gt) (ev_var (i := 9) (by first | kernel_rfl | (unfold Gl; kernel_rfl)) (.inl (by first | kernel_rfl | (unfold Gl; kernel_rfl))) (by first | kernel_rfl | (unfold Gl; kernel_rfl)) (by first | kernel_rfl | (unfold Gl; kernel_rfl))) (ev_cst rfl) (by first | kernel_rfl | (unfold Gl; kernel_rfl))) (ess_one (es_for rfl PassesOwn.never rfl (ei_seq (ev_lc rfl sc_corners_of.nd (ei_seq (ev_var (i := 3) (by first | kernel_rfl | (unfold Gl; kernel_rfl)) (.inl (by first | kernel_rfl | (unfold Gl; kernel_rfl))) (by first | kernel_rfl | (unfold Gl; kernel_rfl)) (by first | kernel_rfl | (unfold Gl; kernel_rfl)))) (own := [("one", 17)]) (blkOk_by (by first | kernel_rfl | (unfold Gl; kernel_rfl))) (by decide) (fun _ _ _ _ _ => (eg_name (i := 17) sc_corners_of.nd (by first | kernel_rfl | (unfold Gl; kernel_rfl)) (.inl (by first | kernel_rfl | (unfold Gl; kernel_rfl))) (.inr (by first | kernel_rfl | (unfold Gl; kernel_rfl))))) (fun _ _ _ _ _ => (ets_one (et_cmp (semC_bool .Lt) (or_c (Room.u65 hr0) .Lt) (ev_var (i := 17) (by first | kernel_rfl | (unfold Gl; kernel_rfl)) (.inl (by first | kernel_rfl | (unfold Gl; kernel_rfl))) (by first | kernel_rfl | (unfold Gl; kernel_rfl)) (by first | kernel_rfl | (unfold Gl; kernel_rfl))) (ev_blt cr_len (by first | kernel_rfl | (unfold Gl; kernel_rfl)) m_len boot_len (ea_cons (ev_var (i := 16) (by first | kernel_rfl | (unfold Gl; kernel_rfl)) (.inr (.inl (by first | kernel_rfl | (unfold Gl; kernel_rfl)))) (by first | kernel_rfl | (unfold Gl; kernel_rfl)) (by first | kernel_rfl | (unfold Gl; kernel_rfl))) ea_nil (by first | kernel_rfl | (unfold Gl; kernel_rfl))) (by decide +kernel) (by first | kernel_rfl | (unfold Gl; kernel_rfl)) (by first | kernel_rfl | (unfold Gl; kernel_rfl)) (by first | kernel_rfl | (unfold Gl; kernel_rfl))) (by first | kernel_rfl | (unfold Gl; kernel_rfl))))) (fun _ _ _ _ _ => (ev_var (i := 17) (by first | kernel_rfl | (unfold Gl; kernel_rfl)) (.inl (by first | kernel_rfl | (unfold Gl; kernel_rfl))) (by first | kernel_rfl | (unfold Gl; kernel_rfl)) (by first | kernel_rfl | (unfold Gl; kernel_rfl)))) (fun _ => (by first | kernel_rfl | (unfold Gl; kernel_rfl))))) (eg_name (i := 5) sc_corners_of.nd (by first | kernel_rfl | (unfold Gl; kernel_rfl)) (.inl (by first | kernel_rfl | (unfold Gl; kernel_rfl))) (.inr (by first | kernel_rfl | (unfold Gl; kernel_rfl)))) (ess_cons (es_asg rfl (ev_ix (Room.u1 hr0) (ev_var (i := 16) (by first | kernel_rfl | (unfold Gl; kernel_rfl)) (.inr (.inl (by first | kernel_rfl | (unfold Gl; kernel_rfl)))) (by first | kernel_rfl | (unfold Gl; kernel_rfl)) (by first | kernel_rfl | (unfold Gl; kernel_rfl))) (ev_var (i := 5) (by first | kernel_rfl | (unfold Gl; kernel_rfl)) (.inl (by first | kernel_rfl | (unfold Gl; kernel_rfl))) (by first | kernel_rfl | (unfold Gl; kernel_rfl)) (by first | kernel_rfl | (unfold Gl; kernel_rfl))) (by first | kernel_rfl | (unfold Gl; kernel_rfl))) (eg_tup rfl (egs_cons (eg_name (i := 10) sc_corners_of.nd (by first | kernel_rfl | (unfold Gl; kernel_rfl)) (.inl (by first | kernel_rfl | (unfold Gl; kernel_rfl))) (.inr (by first | kernel_rfl | (unfold Gl; kernel_rfl)))) (egs_cons (eg_name (i := 11) sc_corners_of.nd (by first | kernel_rfl | (unfold Gl; kernel_rfl)) (.inl (by first | kernel_rfl | (unfold Gl; kernel_rfl))) (.inr (by first | kernel_rfl | (unfold Gl; kernel_rfl)))) (egs_cons (eg_name (i := 12) sc_corners_of.nd (by first | kernel_rfl | (unfold Gl; kernel_rfl)) (.inl (by first | kernel_rfl | (unfold Gl; kernel_rfl))) (.inr (by first | kernel_rfl | (unfold Gl; kernel_rfl)))) egs_nil (by first | kernel_rfl | (unfold Gl; kernel_rfl))) (by first | kernel_rfl | (unfold Gl; kernel_rfl))) (by first | kernel_rfl | (unfold Gl; kernel_rfl))) (by first | kernel_rfl | (unfold Gl; kernel_rfl)) (by first | kernel_rfl | (unfold Gl; kernel_rfl))) (by first | kernel_rfl | (unfold Gl; kernel_rfl)) (by first | kernel_rfl | (unfold Gl; kernel_rfl)) (by first | kernel_rfl | (unfold Gl; kernel_rfl)))
  (ess_one (es_if rfl (ew_et (ew_and (et_cmp (semC_bool .LtE) (or_c (Room.u65 hr0) .LtE) (ev_blt (cr_min2 rfl) (by first | kernel_rfl | (unfold Gl; kernel_rfl)) m_min boot_min (ea_cons (ev_var (i := 10) (by first | kernel_rfl | (unfold Gl; kernel_rfl)) (.inl (by first | kernel_rfl | (unfold Gl; kernel_rfl))) (by first | kernel_rfl | (unfold Gl; kernel_rfl)) (by first | kernel_rfl | (unfold Gl; kernel_rfl))) (ea_cons (ev_var (i := 11) (by first | kernel_rfl | (unfold Gl; kernel_rfl)) (.inl (by first | kernel_rfl | (unfold Gl; kernel_rfl))) (by first | kernel_rfl | (unfold Gl; kernel_rfl)) (by first | kernel_rfl | (unfold Gl; kernel_rfl))) ea_nil (by first | kernel_rfl | (unfold Gl; kernel_rfl))) (by first | kernel_rfl | (unfold Gl; kernel_rfl))) (by decide +kernel) (by first | kernel_rfl | (unfold Gl; kernel_rfl)) (by first | kernel_rfl | (unfold Gl; kernel_rfl)) (by first | kernel_rfl | (unfold Gl; kernel_rfl))) (ev_ix (Room.u1 hr0) (ev_var (i := 8) (by first | kernel_rfl | (unfold Gl; kernel_rfl)) (.inl (by first | kernel_rfl | (unfold Gl; kernel_rfl))) (by first | kernel_rfl | (unfold Gl; kernel_rfl)) (by first | kernel_rfl | (unfold Gl; kernel_rfl))) (ev_bin (ev_var (i := 9) (by first | kernel_rfl | (unfold Gl; kernel_rfl)) (.inl (by first | kernel_rfl | (unfold Gl; kernel_rfl))) (by first | kernel_rfl | (unfold Gl; kernel_rfl)) (by first | kernel_rfl | (unfold Gl; kernel_rfl))) (ev_cst rfl)) (by first | kernel_rfl | (unfold Gl; kernel_rfl))) (by first | kernel_rfl | (unfold Gl; kernel_rfl))) (ew_and1 (et_cmp (semC_bool .GtE) (or_c (Room.u65 hr0) .GtE) (ev_blt (cr_max2 rfl) (by first | kernel_rfl | (unfold Gl; kernel_rfl)) m_max boot_max (ea_cons (ev_var (i := 10) (by first | kernel_rfl | (unfold Gl; kernel_rfl)) (.inl (by first | kernel_rfl | (unfold Gl; kernel_rfl))) (by first | kernel_rfl | (unfold Gl; kernel_rfl)) (by first | kernel_rfl | (unfold Gl; kernel_rfl))) (ea_cons (ev_var (i := 11) (by first | kernel_rfl | (unfold Gl; kernel_rfl)) (.inl (by first | kernel_rfl | (unfold Gl; kernel_rfl))) (by first | kernel_rfl | (unfold Gl; kernel_rfl)) (by first | kernel_rfl | (unfold Gl; kernel_rfl))) ea_nil (by first | kernel_rfl | (unfold Gl; kernel_rfl))) (by first | kernel_rfl | (unfold Gl; kernel_rfl))) (by decide +kernel) (by first | kernel_rfl | (unfold Gl; kernel_rfl)) (by first | kernel_rfl | (unfold Gl; kernel_rfl)) (by first | kernel_rfl | (unfold Gl; kernel_rfl))) (ev_var (i := 15) (by first | kernel_rfl | (unfold Gl; kernel_rfl)) (.inr (.inl (by first | kernel_rfl | (unfold Gl; kernel_rfl)))) (by first | kernel_rfl | (unfold Gl; kernel_rfl)) (by first | kernel_rfl | (unfold Gl; kernel_rfl))) (by first | kernel_rfl | (unfold Gl; kernel_rfl)))))) (ess_one (es_set (i := 7) sc_corners_of.nd rfl (by first | kernel_rfl | (unfold Gl; kernel_rfl)) (.inl (by first | kernel_rfl | (unfold Gl; kernel_rfl))) (.inr (by first | kernel_rfl | (unfold Gl; kernel_rfl))) (ev_bin (ev_var (i := 7) (by first | kernel_rfl | (unfold Gl; kernel_rfl)) (.inl (by first | kernel_rfl | (unfold Gl; kernel_rfl))) (by first | kernel_rfl | (unfold Gl; kernel_rfl)) (by first | kernel_rfl | (unfold Gl; kernel_rfl))) (ev_bin (ev_var (i := 12) (by first | kernel_rfl | (unfold Gl; kernel_rfl)) (.inl (by first | kernel_rfl | (unfold Gl; kernel_rfl))) (by first | kernel_rfl | (unfold Gl; kernel_rfl)) (by first | kernel_rfl | (unfold Gl; kernel_rfl))) (ev_bin (ev_var (i := 15) (by first | kernel_rfl | (unfold Gl; kernel_rfl)) (.inr (.inl (by first | kernel_rfl | (unfold Gl; kernel_rfl)))) (by first | kernel_rfl | (unfold Gl; kernel_rfl)) (by first | kernel_rfl | (unfold Gl; kernel_rfl))) (ev_ix (Room.u1 hr0) (ev_var (i := 8) (by first | kernel_rfl | (unfold Gl; kernel_rfl)) (.inl (by first | kernel_rfl | (unfold Gl; kernel_rfl))) (by first | kernel_rfl | (unfold Gl; kernel_rfl)) (by first | kernel_rfl | (unfold Gl; kernel_rfl))) (ev_bin (ev_var (i := 9) (by first | kernel_rfl | (unfold Gl; kernel_rfl)) (.inl (by first | kernel_rfl | (unfold Gl; kernel_rfl))) (by first | kernel_rfl | (unfold Gl; kernel_rfl)) (by first | kernel_rfl | (unfold Gl; kernel_rfl))) (ev_cst rfl)) (by first | kernel_rfl | (unfold Gl; kernel_rfl)))))) (by first | kernel_rfl | (unfold Gl; kernel_rfl)))) ess_nil))) (fun _ => (by first | kernel_rfl | (unfold Gl; kernel_rfl))))) ess_nil)
  (ess_cons (es_expr rfl (ev_append (ev_var (i := 6) (by first | kernel_rfl | (unfold Gl; kernel_rfl)) (.inl (by first | kernel_rfl | (unfold Gl; kernel_rfl))) (by first | kernel_rfl | (unfold Gl; kernel_rfl)) (by first | kernel_rfl | (unfold Gl; kernel_rfl))) (ev_tup (ea_cons (ev_fz (ev_var (i := 7) (by first | kernel_rfl | (unfold Gl; kernel_rfl)) (.inl (by first | kernel_rfl | (unfold Gl; kernel_rfl))) (by first | kernel_rfl | (unfold Gl; kernel_rfl)) (by first | kernel_rfl | (unfold Gl; kernel_rfl)))) (ea_cons (ev_fz (ev_var (i := 15) (by first | kernel_rfl | (unfold Gl; kernel_rfl)) (.inr (.inl (by first | kernel_rfl | (unfold Gl; kernel_rfl)))) (by first | kernel_rfl | (unfold Gl; kernel_rfl)) (by first | kernel_rfl | (unfold Gl; kernel_rfl)))) ea_nil (by first | kernel_rfl | (unfold Gl; kernel_rfl))) (by first | kernel_rfl | (unfold Gl; kernel_rfl)))) (by first | kernel_rfl | (unfold Gl; kernel_rfl)) (by first | kernel_rfl | (unfold Gl; kernel_rfl)) (by first | kernel_rfl | (unfold Gl; kernel_rfl)) (by first | kernel_rfl | (unfold Gl; kernel_rfl)) (by first | kernel_rfl | (unfold Gl; kernel_rfl))) (by first | kernel_rfl | (unfold Gl; kernel_rfl)))
  (ess_cons (es_set (i := 13) sc_corners_of.nd rfl (by first | kernel_rfl | (unfold Gl; kernel_rfl)) (.inl (by first | kernel_rfl | (unfold Gl; kernel_rfl))) (.inr (by first | kernel_rfl | (unfold Gl; kernel_rfl))) (ev_sum hr0 (by first | kernel_rfl | (unfold Gl; kernel_rfl)) m_sum (L.tb ("corners_of", none) (by decide +kernel)) (by first | kernel_rfl | (unfold Gl; kernel_rfl)) (L.tT ("corners_of", none) (by decide +kernel)) sc_corners_of.nd (ei_seq (ev_var (i := 3) (by first | kernel_rfl | (unfold Gl; kernel_rfl)) (.inl (by first | kernel_rfl | (unfold Gl; kernel_rfl))) (by first | kernel_rfl | (unfold Gl; kernel_rfl)) (by first | kernel_rfl | (unfold Gl; kernel_rfl)))) (own := [("one", 17)]) (blkOk_by (by first | kernel_rfl | (unfold Gl; kernel_rfl))) (by first | kernel_rfl | (unfold Gl; kernel_rfl)) (by decide +kernel) (by first | kernel_rfl | (unfold Gl; kernel_rfl)) (by decide) (fun _ _ _ _ _ _ => (eg_name (i := 17) sc_corners_of.nd (by first | kernel_rfl | (unfold Gl; kernel_rfl)) (.inl (by first | kernel_rfl | (unfold Gl; kernel_rfl))) (.inr (by first | kernel_rfl | (unfold Gl; kernel_rfl))))) (fun _ _ _ _ _ _ => (ets_one (ew_et (ew_and (et_cmp (semC_bool .GtE) (or_c (Room.u65 (Room.gen hr0 _)) .GtE) (ev_var (i := 17) (by first | kernel_rfl | (unfold Gl; kernel_rfl)) (.inl (by first | kernel_rfl | (unfold Gl; kernel_rfl))) (by first | kernel_rfl | (unfold Gl; kernel_rfl)) (by first | kernel_rfl | (unfold Gl; kernel_rfl))) (ev_blt cr_len (by first | kernel_rfl | (unfold Gl; kernel_rfl)) m_len boot_len (ea_cons (ev_var (i := 16) (by first | kernel_rfl | (unfold Gl; kernel_rfl)) (.inr (.inr (by first | kernel_rfl | (unfold Gl; kernel_rfl)))) (by first | kernel_rfl | (unfold Gl; kernel_rfl)) (by first | kernel_rfl | (unfold Gl; kernel_rfl))) ea_nil (by first | kernel_rfl | (unfold Gl; kernel_rfl))) (by decide +kernel) (by first | kernel_rfl | (unfold Gl; kernel_rfl)) (by first | kernel_rfl | (unfold Gl; kernel_rfl)) (by first | kernel_rfl | (unfold Gl; kernel_rfl))) (by first | kernel_rfl | (unfold Gl; kernel_rfl))) (ew_and1 (et_cmp (semC_bool .Eq) (or_c (Room.u65 (Room.gen hr0 _)) .Eq) (ev_ix (Room.u1 (Room.gen hr0 _)) (ev_ix (Room.u1 (Room.gen hr0 _)) (ev_var (i := 14) (by first | kernel_rfl | (unfold Gl; kernel_rfl)) (.inr (.inr (by first | kernel_rfl | (unfold Gl; kernel_rfl)))) (by first | kernel_rfl | (unfold Gl; kernel_rfl)) (by first | kernel_rfl | (unfold Gl; kernel_rfl))) (ev_bin (ev_var (i := 17) (by first | kernel_rfl | (unfold Gl; kernel_rfl)) (.inl (by first | kernel_rfl | (unfold Gl; kernel_rfl))) (by first | kernel_rfl | (unfold Gl; kernel_rfl)) (by first | kernel_rfl | (unfold Gl; kernel_rfl))) (ev_blt cr_len (by first | kernel_rfl | (unfold Gl; kernel_rfl)) m_len boot_len (ea_cons (ev_var (i := 16) (by first | kernel_rfl | (unfold Gl; kernel_rfl)) (.inr (.inr (by first | kernel_rfl | (unfold Gl; kernel_rfl)))) (by first | kernel_rfl | (unfold Gl; kernel_rfl)) (by first | kernel_rfl | (unfold Gl; kernel_rfl))) ea_nil (by first | kernel_rfl | (unfold Gl; kernel_rfl))) (by decide +kernel) (by first | kernel_rfl | (unfold Gl; kernel_rfl)) (by first | kernel_rfl | (unfold Gl; kernel_rfl)) (by first | kernel_rfl | (unfold Gl; kernel_rfl)))) (by first | kernel_rfl | (unfold Gl; kernel_rfl))) (ev_cst rfl) (by first | kernel_rfl | (unfold Gl; kernel_rfl))) (ev_var (i := 15) (by first | kernel_rfl | (unfold Gl; kernel_rfl)) (.inr (.inr (by first | kernel_rfl | (unfold Gl; kernel_rfl)))) (by first | kernel_rfl | (unfold Gl; kernel_rfl)) (by first | kernel_rfl | (unfold Gl; kernel_rfl))) (by first | kernel_rfl | (unfold Gl; kernel_rfl)))))))) (fun _ _ _ _ _ _ => (ev_blt cr_abs (by first | kernel_rfl | (unfold Gl; kernel_rfl)) m_abs boot_abs (ea_cons (ev_ix (Room.u1 (Room.gen hr0 _)) (ev_ix (Room.u1 (Room.gen hr0 _)) (ev_var (i := 14) (by first | kernel_rfl | (unfold Gl; kernel_rfl)) (.inr (.inr (by first | kernel_rfl | (unfold Gl; kernel_rfl)))) (by first | kernel_rfl | (unfold Gl; kernel_rfl)) (by first | kernel_rfl | (unfold Gl; kernel_rfl))) (ev_bin (ev_var (i := 17) (by first | kernel_rfl | (unfold Gl; kernel_rfl)) (.inl (by first | kernel_rfl | (unfold Gl; kernel_rfl))) (by first | kernel_rfl | (unfold Gl; kernel_rfl)) (by first | kernel_rfl | (unfold Gl; kernel_rfl))) (ev_blt cr_len (by first | kernel_rfl | (unfold Gl; kernel_rfl)) m_len boot_len (ea_cons (ev_var (i := 16) (by first | kernel_rfl | (unfold Gl; kernel_rfl)) (.inr (.inr (by first | kernel_rfl | (unfold Gl; kernel_rfl)))) (by first | kernel_rfl | (unfold Gl; kernel_rfl)) (by first | kernel_rfl | (unfold Gl; kernel_rfl))) ea_nil (by first | kernel_rfl | (unfold Gl; kernel_rfl))) (by decide +kernel) (by first | kernel_rfl | (unfold Gl; kernel_rfl)) (by first | kernel_rfl | (unfold Gl; kernel_rfl)) (by first | kernel_rfl | (unfold Gl; kernel_rfl)))) (by first | kernel_rfl | (unfold Gl; kernel_rfl))) (ev_cst rfl) (by first | kernel_rfl | (unfold Gl; kernel_rfl))) ea_nil (by first | kernel_rfl | (unfold Gl; kernel_rfl))) (by decide +kernel) (by first | kernel_rfl | (unfold Gl; kernel_rfl)) (by first | kernel_rfl | (unfold Gl; kernel_rfl)) (by first | kernel_rfl | (unfold Gl; kernel_rfl)))) (fun _ => (by first | kernel_rfl | (unfold Gl; kernel_rfl))) (by first | kernel_rfl | (unfold Gl; kernel_rfl))) (by first | kernel_rfl | (unfold Gl; kernel_rfl)))
  (ess_one (es_if rfl (et_cmp (semC_bool .Gt) (or_c (Room.u65 hr0) .Gt) (ev_var (i := 13) (by first | kernel_rfl | (unfold Gl; kernel_rfl)) (.inl (by first | kernel_rfl | (unfold Gl; kernel_rfl))) (by first | kernel_rfl | (unfold Gl; kernel_rfl)) (by first | kernel_rfl | (unfold Gl; kernel_rfl))) (ev_cst rfl) (by first | kernel_rfl | (unfold Gl; kernel_rfl))) (ess_cons (es_set (i := 7) sc_corners_of.nd rfl (by first | kernel_rfl | (unfold Gl; kernel_rfl)) (.inl (by first | kernel_rfl | (unfold Gl; kernel_rfl))) (.inr (by first | kernel_rfl | (unfold Gl; kernel_rfl))) (ev_bin (ev_var (i := 7) (by first | kernel_rfl | (unfold Gl; kernel_rfl)) (.inl (by first | kernel_rfl | (unfold Gl; kernel_rfl))) (by first | kernel_rfl | (unfold Gl; kernel_rfl)) (by first | kernel_rfl | (unfold Gl; kernel_rfl))) (ev_var (i := 13) (by first | kernel_rfl | (unfold Gl; kernel_rfl)) (.inl (by first | kernel_rfl | (unfold Gl; kernel_rfl))) (by first | kernel_rfl | (unfold Gl; kernel_rfl)) (by first | kernel_rfl | (unfold Gl; kernel_rfl)))) (by first | kernel_rfl | (unfold Gl; kernel_rfl)))
  (ess_one (es_expr rfl (ev_append (ev_var (i := 6) (by first | kernel_rfl | (unfold Gl; kernel_rfl)) (.inl (by first | kernel_rfl | (unfold Gl; kernel_rfl))) (by first | kernel_rfl | (unfold Gl; kernel_rfl)) (by first | kernel_rfl | (unfold Gl; kernel_rfl))) (ev_tup (ea_cons (ev_fz (ev_var (i := 7) (by first | kernel_rfl | (unfold Gl; kernel_rfl)) (.inl (by first | kernel_rfl | (unfold Gl; kernel_rfl))) (by first | kernel_rfl | (unfold Gl; kernel_rfl)) (by first | kernel_rfl | (unfold Gl; kernel_rfl)))) (ea_cons (ev_fz (ev_var (i := 15) (by first | kernel_rfl | (unfold Gl; kernel_rfl)) (.inr (.inl (by first | kernel_rfl | (unfold Gl; kernel_rfl)))) (by first | kernel_rfl | (unfold Gl; kernel_rfl)) (by first | kernel_rfl | (unfold Gl; kernel_rfl)))) ea_nil (by first | kernel_rfl | (unfold Gl; kernel_rfl))) (by first | kernel_rfl | (unfold Gl; kernel_rfl)))) (by first | kernel_rfl | (unfold Gl; kernel_rfl)) (by first | kernel_rfl | (unfold Gl; kernel_rfl)) (by first | kernel_rfl | (unfold Gl; kernel_rfl)) (by first | kernel_rfl | (unfold Gl; kernel_rfl)) (by first | kernel_rfl | (unfold Gl; kernel_rfl))) (by first | kernel_rfl | (unfold Gl; kernel_rfl))))) ess_nil))))) (fun _ => (by first | kernel_rfl | (unfold Gl; kernel_rfl))))
  (ess_one (es_ret (ev_var (i := 6) (by first | kernel_rfl | (unfold Gl; kernel_rfl)) (.inl (by first | kernel_rfl | (unfold Gl; kernel_rfl))) (by first | kernel_rfl | (unfold Gl; kernel_rfl)) (by first | kernel_rfl | (unfold Gl; kernel_rfl)))))))))))
theorem c_curve (L : LC K mg base T fa fn tf) : Ctr P w K mg base CX0 7 T "curve" F_curve := by
  obtain ⟨fd, Fd⟩ := L.c.def_ 10 (d := d_curve) rfl
  have m_bool := L.free 17 (x := "bool") rfl
  have m_isinstance := L.free 20 (x := "isinstance") rfl
  have m_tuple := L.free 29 (x := "tuple") rfl
  refine ctr_of L 10 rfl Fd (Fd.bindsN (ps := ["problem", "gives"]) fun _ _ _ _ _ _ us hl => match us, hl with | [_, _], _ => by kernel_rfl) ?_
  refine fn_okC (N := ["problem", "gives"]) (k := 6) (ios := [false, false]) (fb := fb_curve) Fd sc_curve rfl (by decide) fun A outer s H E Ex0 H0 I0 hr0 => ?_
  exact (ess_cons (es_expr rfl (ev_call (((c_need_problem L).mono (by omega))) hr0 (by first | kernel_rfl | (unfold Gl; kernel_rfl)) (fun _ _ _ _ _ _ _ h => h.elim) (ea_cons (ev_fz (ev_var (i := 0) (by first | kernel_rfl | (unfold Gl; kernel_rfl)) (.inl (by first | kernel_rfl | (unfold Gl; kernel_rfl))) (by first | kernel_rfl | (unfold Gl; kernel_rfl)) (by first | kernel_rfl | (unfold Gl; kernel_rfl)))) ea_nil (by first | kernel_rfl | (unfold Gl; kernel_rfl))) (by first | kernel_rfl | (unfold Gl; kernel_rfl)) (by first | kernel_rfl | (unfold Gl; kernel_rfl)) (by first | kernel_rfl | (unfold Gl; kernel_rfl))) (by first | kernel_rfl | (unfold Gl; kernel_rfl)))
  (ess_cons (es_if rfl (et_not (et_val (ev_isi (by decide +kernel) (by first | kernel_rfl | (unfold Gl; kernel_rfl)) m_isinstance (by first | kernel_rfl | (unfold Gl; kernel_rfl)) m_bool (by decide +kernel) (by decide +kernel) (by first | kernel_rfl | (unfold Gl; kernel_rfl)) (ev_var (i := 1) (by first | kernel_rfl | (unfold Gl; kernel_rfl)) (.inl (by first | kernel_rfl | (unfold Gl; kernel_rfl))) (by first | kernel_rfl | (unfold Gl; kernel_rfl)) (by first | kernel_rfl | (unfold Gl; kernel_rfl))) (by first | kernel_rfl | (unfold Gl; kernel_rfl)) (by first | kernel_rfl | (unfold Gl; kernel_rfl)) (by first | kernel_rfl | (unfold Gl; kernel_rfl))) (fun _ => (by first | kernel_rfl | (unfold Gl; kernel_rfl))))) (ess_one es_never) ess_nil)
  (ess_one (es_ret (ev_bltT cr_tuple (by first | kernel_rfl | (unfold Gl; kernel_rfl)) m_tuple PyProof.Rows.boot_tuple (ea_cons (ev_call (((c_corners_of L).mono (by omega))) hr0 (by first | kernel_rfl | (unfold Gl; kernel_rfl)) (fun _ _ _ _ _ _ _ h => h.elim) (ea_cons (ev_fz (ev_var (i := 0) (by first | kernel_rfl | (unfold Gl; kernel_rfl)) (.inl (by first | kernel_rfl | (unfold Gl; kernel_rfl))) (by first | kernel_rfl | (unfold Gl; kernel_rfl)) (by first | kernel_rfl | (unfold Gl; kernel_rfl)))) (ea_cons (ev_fz (ev_var (i := 1) (by first | kernel_rfl | (unfold Gl; kernel_rfl)) (.inl (by first | kernel_rfl | (unfold Gl; kernel_rfl))) (by first | kernel_rfl | (unfold Gl; kernel_rfl)) (by first | kernel_rfl | (unfold Gl; kernel_rfl)))) ea_nil (by first | kernel_rfl | (unfold Gl; kernel_rfl))) (by first | kernel_rfl | (unfold Gl; kernel_rfl))) (by first | kernel_rfl | (unfold Gl; kernel_rfl)) (by first | kernel_rfl | (unfold Gl; kernel_rfl)) (by first | kernel_rfl | (unfold Gl; kernel_rfl))) ea_nil (by first | kernel_rfl | (unfold Gl; kernel_rfl))) (by decide +kernel) (by first | kernel_rfl | (unfold Gl; kernel_rfl)) (by first | kernel_rfl | (unfold Gl; kernel_rfl)) (by first | kernel_rfl | (unfold Gl; kernel_rfl)))))))
theorem c_span_of (L : LC K mg base T fa fn tf) : Ctr P w K mg base CX0 2 T "span_of" F_span_of := by
  obtain ⟨fd, Fd⟩ := L.c.def_ 11 (d := d_span_of) rfl
  have m_abs := L.free 15 (x := "abs") rfl
  have m_len := L.free 21 (x := "len") rfl
  have m_max := L.free 23 (x := "max") rfl
  have m_min := L.free 24 (x := "min") rfl
  refine ctr_of L 11 rfl Fd (Fd.bindsN (ps := ["problem", "number"]) fun _ _ _ _ _ _ us hl => match us, hl with | [_, _], _ => by kernel_rfl) ?_
  refine fn_okC (N := ["problem", "number", "streams", "boxes", "gap", "down", "start", "goal", "rate", "temperature", "heat"]) (k := 1) (ios := [false, false]) (fb := fb_span_of) Fd sc_span_of rfl (by decide) fun A outer s H E Ex0 H0 I0 hr0 => ?_
  exact (ess_cons (es_asg rfl (ev_var (i := 0) (by first | kernel_rfl | (unfold Gl; kernel_rfl)) (.inl (by first | kernel_rfl | (unfold Gl; kernel_rfl))) (by first | kernel_rfl | (unfold Gl; kernel_rfl)) (by first | kernel_rfl | (unfold Gl; kernel_rfl))) (eg_tup rfl (egs_cons (eg_name (i := 2) sc_span_of.nd (by first | kernel_rfl | (unfold Gl; kernel_rfl)) (.inl (by first | kernel_rfl | (unfold Gl; kernel_rfl))) (.inr (by first | kernel_rfl | (unfold Gl; kernel_rfl)))) (egs_cons (eg_name (i := 3) sc_span_of.nd (by first | kernel_rfl | (unfold Gl; kernel_rfl)) (.inl (by first | kernel_rfl | (unfold Gl; kernel_rfl))) (.inr (by first | kernel_rfl | (unfold Gl; kernel_rfl)))) (egs_cons (eg_name (i := 4) sc_span_of.nd (by first | kernel_rfl | (unfold Gl; kernel_rfl)) (.inl (by first | kernel_rfl | (unfold Gl; kernel_rfl))) (.inr (by first | kernel_rfl | (unfold Gl; kernel_rfl)))) egs_nil (by first | kernel_rfl | (unfold Gl; kernel_rfl))) (by first | kernel_rfl | (unfold Gl; kernel_rfl))) (by first | kernel_rfl | (unfold Gl; kernel_rfl))) (by first | kernel_rfl | (unfold Gl; kernel_rfl)) (by first | kernel_rfl | (unfold Gl; kernel_rfl))) (by first | kernel_rfl | (unfold Gl; kernel_rfl)) (by first | kernel_rfl | (unfold Gl; kernel_rfl)) (by first | kernel_rfl | (unfold Gl; kernel_rfl)))
  (ess_cons (es_set (i := 5) sc_span_of.nd rfl (by first | kernel_rfl | (unfold Gl; kernel_rfl)) (.inl (by first | kernel_rfl | (unfold Gl; kernel_rfl))) (.inr (by first | kernel_rfl | (unfold Gl; kernel_rfl))) (ev_if (et_val (ev_call (((c_is_giver L).mono (by omega))) hr0 (by first | kernel_rfl | (unfold Gl; kernel_rfl)) (fun _ _ _ _ _ _ _ h => h.elim) (ea_cons (ev_fz (ev_var (i := 0) (by first | kernel_rfl | (unfold Gl; kernel_rfl)) (.inl (by first | kernel_rfl | (unfold Gl; kernel_rfl))) (by first | kernel_rfl | (unfold Gl; kernel_rfl)) (by first | kernel_rfl | (unfold Gl; kernel_rfl)))) (ea_cons (ev_fz (ev_var (i := 1) (by first | kernel_rfl | (unfold Gl; kernel_rfl)) (.inl (by first | kernel_rfl | (unfold Gl; kernel_rfl))) (by first | kernel_rfl | (unfold Gl; kernel_rfl)) (by first | kernel_rfl | (unfold Gl; kernel_rfl)))) ea_nil (by first | kernel_rfl | (unfold Gl; kernel_rfl))) (by first | kernel_rfl | (unfold Gl; kernel_rfl))) (by first | kernel_rfl | (unfold Gl; kernel_rfl)) (by first | kernel_rfl | (unfold Gl; kernel_rfl)) (by first | kernel_rfl | (unfold Gl; kernel_rfl))) (fun _ => (by first | kernel_rfl | (unfold Gl; kernel_rfl)))) (ev_var (i := 4) (by first | kernel_rfl | (unfold Gl; kernel_rfl)) (.inl (by first | kernel_rfl | (unfold Gl; kernel_rfl))) (by first | kernel_rfl | (unfold Gl; kernel_rfl)) (by first | kernel_rfl | (unfold Gl; kernel_rfl))) (ev_cst rfl)) (by first | kernel_rfl | (unfold Gl; kernel_rfl)))
  (ess_cons (es_if rfl (et_cmp (semC_bool .Lt) (or_c (Room.u65 hr0) .Lt) (ev_var (i := 1) (by first | kernel_rfl | (unfold Gl; kernel_rfl)) (.inl (by first | kernel_rfl | (unfold Gl; kernel_rfl))) (by first | kernel_rfl | (unfold Gl; kernel_rfl)) (by first | kernel_rfl | (unfold Gl; kernel_rfl))) (ev_blt cr_len (by first | kernel_rfl | (unfold Gl; kernel_rfl)) m_len boot_len (ea_cons (ev_var (i := 2) (by first | kernel_rfl | (unfold Gl; kernel_rfl)) (.inl (by first | kernel_rfl | (unfold Gl; kernel_rfl))) (by first | kernel_rfl | (unfold Gl; kernel_rfl)) (by first | kernel_rfl | (unfold Gl; kernel_rfl))) ea_nil (by first | kernel_rfl | (unfold Gl; kernel_rfl))) (by decide +kernel) (by first | kernel_rfl | (unfold Gl; kernel_rfl)) (by first | kernel_rfl | (unfold Gl; kernel_rfl)) (by first | kernel_rfl | (unfold Gl; kernel_rfl))) (by first | kernel_rfl | (unfold Gl; kernel_rfl))) (ess_cons (es_asg rfl (ev_ix (Room.u1 hr0) (ev_var (i := 2) (by first | kernel_rfl | (unfold Gl; kernel_rfl)) (.inl (by first | kernel_rfl | (unfold Gl; kernel_rfl))) (by first | kernel_rfl | (unfold Gl; kernel_rfl)) (by first | kernel_rfl | (unfold Gl; kernel_rfl))) (ev_var (i := 1) (by first | kernel_rfl | (unfold Gl; kernel_rfl)) (.inl (by first | kernel_rfl | (unfold Gl; kernel_rfl))) (by first | kernel_rfl | (unfold Gl; kernel_rfl)) (by first | kernel_rfl | (unfold Gl; kernel_rfl))) (by first | kernel_rfl | (unfold Gl; kernel_rfl))) (eg_tup rfl (egs_cons (eg_name (i := 6) sc_span_of.nd (by first | kernel_rfl | (unfold Gl; kernel_rfl)) (.inl (by first | kernel_rfl | (unfold Gl; kernel_rfl))) (.inr (by first | kernel_rfl | (unfold Gl; kernel_rfl)))) (egs_cons (eg_name (i := 7) sc_span_of.nd (by first | kernel_rfl | (unfold Gl; kernel_rfl)) (.inl (by first | kernel_rfl | (unfold Gl; kernel_rfl))) (.inr (by first | kernel_rfl | (unfold Gl; kernel_rfl)))) (egs_cons (eg_name (i := 8) sc_span_of.nd (by first | kernel_rfl | (unfold Gl; kernel_rfl)) (.inl (by first | kernel_rfl | (unfold Gl; kernel_rfl))) (.inr (by first | kernel_rfl | (unfold Gl; kernel_rfl)))) egs_nil (by first | kernel_rfl | (unfold Gl; kernel_rfl))) (by first | kernel_rfl | (unfold Gl; kernel_rfl))) (by first | kernel_rfl | (unfold Gl; kernel_rfl))) (by first | kernel_rfl | (unfold Gl; kernel_rfl)) (by first | kernel_rfl | (unfold Gl; kernel_rfl))) (by first | kernel_rfl | (unfold Gl; kernel_rfl)) (by first | kernel_rfl | (unfold Gl; kernel_rfl)) (by first | kernel_rfl | (unfold Gl; kernel_rfl)))
  (ess_one (es_ret (ev_tup (ea_cons (ev_bin (ev_blt (cr_max2 rfl) (by first | kernel_rfl | (unfold Gl; kernel_rfl)) m_max boot_max (ea_cons (ev_var (i := 6) (by first | kernel_rfl | (unfold Gl; kernel_rfl)) (.inl (by first | kernel_rfl | (unfold Gl; kernel_rfl))) (by first | kernel_rfl | (unfold Gl; kernel_rfl)) (by first | kernel_rfl | (unfold Gl; kernel_rfl))) (ea_cons (ev_var (i := 7) (by first | kernel_rfl | (unfold Gl; kernel_rfl)) (.inl (by first | kernel_rfl | (unfold Gl; kernel_rfl))) (by first | kernel_rfl | (unfold Gl; kernel_rfl)) (by first | kernel_rfl | (unfold Gl; kernel_rfl))) ea_nil (by first | kernel_rfl | (unfold Gl; kernel_rfl))) (by first | kernel_rfl | (unfold Gl; kernel_rfl))) (by decide +kernel) (by first | kernel_rfl | (unfold Gl; kernel_rfl)) (by first | kernel_rfl | (unfold Gl; kernel_rfl)) (by first | kernel_rfl | (unfold Gl; kernel_rfl))) (ev_var (i := 5) (by first | kernel_rfl | (unfold Gl; kernel_rfl)) (.inl (by first | kernel_rfl | (unfold Gl; kernel_rfl))) (by first | kernel_rfl | (unfold Gl; kernel_rfl)) (by first | kernel_rfl | (unfold Gl; kernel_rfl)))) (ea_cons (ev_bin (ev_blt (cr_min2 rfl) (by first | kernel_rfl | (unfold Gl; kernel_rfl)) m_min boot_min (ea_cons (ev_var (i := 6) (by first | kernel_rfl | (unfold Gl; kernel_rfl)) (.inl (by first | kernel_rfl | (unfold Gl; kernel_rfl))) (by first | kernel_rfl | (unfold Gl; kernel_rfl)) (by first | kernel_rfl | (unfold Gl; kernel_rfl))) (ea_cons (ev_var (i := 7) (by first | kernel_rfl | (unfold Gl; kernel_rfl)) (.inl (by first | kernel_rfl | (unfold Gl; kernel_rfl))) (by first | kernel_rfl | (unfold Gl; kernel_rfl)) (by first | kernel_rfl | (unfold Gl; kernel_rfl))) ea_nil (by first | kernel_rfl | (unfold Gl; kernel_rfl))) (by first | kernel_rfl | (unfold Gl; kernel_rfl))) (by decide +kernel) (by first | kernel_rfl | (unfold Gl; kernel_rfl)) (by first | kernel_rfl | (unfold Gl; kernel_rfl)) (by first | kernel_rfl | (unfold Gl; kernel_rfl))) (ev_var (i := 5) (by first | kernel_rfl | (unfold Gl; kernel_rfl)) (.inl (by first | kernel_rfl | (unfold Gl; kernel_rfl))) (by first | kernel_rfl | (unfold Gl; kernel_rfl)) (by first | kernel_rfl | (unfold Gl; kernel_rfl)))) (ea_cons (ev_fz (ev_var (i := 8) (by first | kernel_rfl | (unfold Gl; kernel_rfl)) (.inl (by first | kernel_rfl | (unfold Gl; kernel_rfl))) (by first | kernel_rfl | (unfold Gl; kernel_rfl)) (by first | kernel_rfl | (unfold Gl; kernel_rfl)))) (ea_cons (ev_cst rfl) ea_nil (by first | kernel_rfl | (unfold Gl; kernel_rfl))) (by first | kernel_rfl | (unfold Gl; kernel_rfl))) (by first | kernel_rfl | (unfold Gl; kernel_rfl))) (by first | kernel_rfl | (unfold Gl; kernel_rfl))))))) ess_nil)
  (ess_cons (es_asg rfl (ev_ix (Room.u1 hr0) (ev_var (i := 3) (by first | kernel_rfl | (unfold Gl; kernel_rfl)) (.inl (by first | kernel_rfl | (unfold Gl; kernel_rfl))) (by first | kernel_rfl | (unfold Gl; kernel_rfl)) (by first | kernel_rfl | (unfold Gl; kernel_rfl))) (ev_bin (ev_var (i := 1) (by first | kernel_rfl | (unfold Gl; kernel_rfl)) (.inl (by first | kernel_rfl | (unfold Gl; kernel_rfl))) (by first | kernel_rfl | (unfold Gl; kernel_rfl)) (by first | kernel_rfl | (unfold Gl; kernel_rfl))) (ev_blt cr_len (by first | kernel_rfl | (unfold Gl; kernel_rfl)) m_len boot_len (ea_cons (ev_var (i := 2) (by first | kernel_rfl | (unfold Gl; kernel_rfl)) (.inl (by first | kernel_rfl | (unfold Gl; kernel_rfl))) (by first | kernel_rfl | (unfold Gl; kernel_rfl)) (by first | kernel_rfl | (unfold Gl; kernel_rfl))) ea_nil (by first | kernel_rfl | (unfold Gl; kernel_rfl))) (by decide +kernel) (by first | kernel_rfl | (unfold Gl; kernel_rfl)) (by first | kernel_rfl | (unfold Gl; kernel_rfl)) (by first | kernel_rfl | (unfold Gl; kernel_rfl)))) (by first | kernel_rfl | (unfold Gl; kernel_rfl))) (eg_tup rfl (egs_cons (eg_name (i := 9) sc_span_of.nd (by first | kernel_rfl | (unfold Gl; kernel_rfl)) (.inl (by first | kernel_rfl | (unfold Gl; kernel_rfl))) (.inr (by first | kernel_rfl | (unfold Gl; kernel_rfl)))) (egs_cons (eg_name (i := 10) sc_span_of.nd (by first | kernel_rfl | (unfold Gl; kernel_rfl)) (.inl (by first | kernel_rfl | (unfold Gl; kernel_rfl))) (.inr (by first | kernel_rfl | (unfold Gl; kernel_rfl)))) egs_nil (by first | kernel_rfl | (unfold Gl; kernel_rfl))) (by first | kernel_rfl | (unfold Gl; kernel_rfl))) (by first | kernel_rfl | (unfold Gl; kernel_rfl)) (by first | kernel_rfl | (unfold Gl; kernel_rfl))) (by first | kernel_rfl | (unfold Gl; kernel_rfl)) (by first | kernel_rfl | (unfold Gl; kernel_rfl)) (by first | kernel_rfl | (unfold Gl; kernel_rfl)))
  (ess_one (es_ret (ev_tup (ea_cons (ev_bin (ev_var (i := 9) (by first | kernel_rfl | (unfold Gl; kernel_rfl)) (.inl (by first | kernel_rfl | (unfold Gl; kernel_rfl))) (by first | kernel_rfl | (unfold Gl; kernel_rfl)) (by first | kernel_rfl | (unfold Gl; kernel_rfl))) (ev_var (i := 5) (by first | kernel_rfl | (unfold Gl; kernel_rfl)) (.inl (by first | kernel_rfl | (unfold Gl; kernel_rfl))) (by first | kernel_rfl | (unfold Gl; kernel_rfl)) (by first | kernel_rfl | (unfold Gl; kernel_rfl)))) (ea_cons (ev_bin (ev_var (i := 9) (by first | kernel_rfl | (unfold Gl; kernel_rfl)) (.inl (by first | kernel_rfl | (unfold Gl; kernel_rfl))) (by first | kernel_rfl | (unfold Gl; kernel_rfl)) (by first | kernel_rfl | (unfold Gl; kernel_rfl))) (ev_var (i := 5) (by first | kernel_rfl | (unfold Gl; kernel_rfl)) (.inl (by first | kernel_rfl | (unfold Gl; kernel_rfl))) (by first | kernel_rfl | (unfold Gl; kernel_rfl)) (by first | kernel_rfl | (unfold Gl; kernel_rfl)))) (ea_cons (ev_cst rfl) (ea_cons (ev_blt cr_abs (by first | kernel_rfl | (unfold Gl; kernel_rfl)) m_abs boot_abs (ea_cons (ev_var (i := 10) (by first | kernel_rfl | (unfold Gl; kernel_rfl)) (.inl (by first | kernel_rfl | (unfold Gl; kernel_rfl))) (by first | kernel_rfl | (unfold Gl; kernel_rfl)) (by first | kernel_rfl | (unfold Gl; kernel_rfl))) ea_nil (by first | kernel_rfl | (unfold Gl; kernel_rfl))) (by decide +kernel) (by first | kernel_rfl | (unfold Gl; kernel_rfl)) (by first | kernel_rfl | (unfold Gl; kernel_rfl)) (by first | kernel_rfl | (unfold Gl; kernel_rfl))) ea_nil (by first | kernel_rfl | (unfold Gl; kernel_rfl))) (by first | kernel_rfl | (unfold Gl; kernel_rfl))) (by first | kernel_rfl | (unfold Gl; kernel_rfl))) (by first | kernel_rfl | (unfold Gl; kernel_rfl))))))))))
theorem c_heat_above (L : LC K mg base T fa fn tf) : Ctr P w K mg base CX0 3 T "heat_above" F_heat_above := by
  obtain ⟨fd, Fd⟩ := L.c.def_ 12 (d := d_heat_above) rfl
  have m_max := L.free 23 (x := "max") rfl
  refine ctr_of L 12 rfl Fd (Fd.bindsN (ps := ["problem", "number", "level", "is_open"]) fun _ _ _ _ _ _ us hl => match us, hl with | [_, _, _, _], _ => by kernel_rfl) ?_
  refine fn_okC (N := ["problem", "number", "level", "is_open", "upper", "lower", "rate", "heat"]) (k := 2) (ios := [false, false, false, false]) (fb := fb_heat_above) Fd sc_heat_above rfl (by decide) fun A outer s H E Ex0 H0 I0 hr0 => ?_
  exact (ess_cons (es_asg rfl (ev_call (((c_span_of L).mono (by omega))) hr0 (by first | kernel_rfl | (unfold Gl; kernel_rfl)) (fun _ _ _ _ _ _ _ h => h.elim) (ea_cons (ev_fz (ev_var (i := 0) (by first | kernel_rfl | (unfold Gl; kernel_rfl)) (.inl (by first | kernel_rfl | (unfold Gl; kernel_rfl))) (by first | kernel_rfl | (unfold Gl; kernel_rfl)) (by first | kernel_rfl | (unfold Gl; kernel_rfl)))) (ea_cons (ev_fz (ev_var (i := 1) (by first | kernel_rfl | (unfold Gl; kernel_rfl)) (.inl (by first | kernel_rfl | (unfold Gl; kernel_rfl))) (by first | kernel_rfl | (unfold Gl; kernel_rfl)) (by first | kernel_rfl | (unfold Gl; kernel_rfl)))) ea_nil (by first | kernel_rfl | (unfold Gl; kernel_rfl))) (by first | kernel_rfl | (unfold Gl; kernel_rfl))) (by first | kernel_rfl | (unfold Gl; kernel_rfl)) (by first | kernel_rfl | (unfold Gl; kernel_rfl)) (by first | kernel_rfl | (unfold Gl; kernel_rfl))) (eg_tup rfl (egs_cons (eg_name (i := 4) sc_heat_above.nd (by first | kernel_rfl | (unfold Gl; kernel_rfl)) (.inl (by first | kernel_rfl | (unfold Gl; kernel_rfl))) (.inr (by first | kernel_rfl | (unfold Gl; kernel_rfl)))) (egs_cons (eg_name (i := 5) sc_heat_above.nd (by first | kernel_rfl | (unfold Gl; kernel_rfl)) (.inl (by first | kernel_rfl | (unfold Gl; kernel_rfl))) (.inr (by first | kernel_rfl | (unfold Gl; kernel_rfl)))) (egs_cons (eg_name (i := 6) sc_heat_above.nd (by first | kernel_rfl | (unfold Gl; kernel_rfl)) (.inl (by first | kernel_rfl | (unfold Gl; kernel_rfl))) (.inr (by first | kernel_rfl | (unfold Gl; kernel_rfl)))) (egs_cons (eg_name (i := 7) sc_heat_above.nd (by first | kernel_rfl | (unfold Gl; kernel_rfl)) (.inl (by first | kernel_rfl | (unfold Gl; kernel_rfl))) (.inr (by first | kernel_rfl | (unfold Gl; kernel_rfl)))) egs_nil (by first | kernel_rfl | (unfold Gl; kernel_rfl))) (by first | kernel_rfl | (unfold Gl; kernel_rfl))) (by first | kernel_rfl | (unfold Gl; kernel_rfl))) (by first | kernel_rfl | (unfold Gl; kernel_rfl))) (by first | kernel_rfl | (unfold Gl; kernel_rfl)) (by first | kernel_rfl | (unfold Gl; kernel_rfl))) (by first | kernel_rfl | (unfold Gl; kernel_rfl)) (by first | kernel_rfl | (unfold Gl; kernel_rfl)) (by first | kernel_rfl | (unfold Gl; kernel_rfl)))
  (ess_cons (es_if rfl (et_cmp (semC_bool .Eq) (or_c (Room.u65 hr0) .Eq) (ev_var (i := 6) (by first | kernel_rfl | (unfold Gl; kernel_rfl)) (.inl (by first | kernel_rfl | (unfold Gl; kernel_rfl))) (by first | kernel_rfl | (unfold Gl; kernel_rfl)) (by first | kernel_rfl | (unfold Gl; kernel_rfl))) (ev_cst rfl) (by first | kernel_rfl | (unfold Gl; kernel_rfl))) (ess_one (es_ret (ev_if (ew_et (ew_or (et_cmp (semC_bool .Gt) (or_c (Room.u65 hr0) .Gt) (ev_var (i := 4) (by first | kernel_rfl | (unfold Gl; kernel_rfl)) (.inl (by first | kernel_rfl | (unfold Gl; kernel_rfl))) (by first | kernel_rfl | (unfold Gl; kernel_rfl)) (by first | kernel_rfl | (unfold Gl; kernel_rfl))) (ev_var (i := 2) (by first | kernel_rfl | (unfold Gl; kernel_rfl)) (.inl (by first | kernel_rfl | (unfold Gl; kernel_rfl))) (by first | kernel_rfl | (unfold Gl; kernel_rfl)) (by first | kernel_rfl | (unfold Gl; kernel_rfl))) (by first | kernel_rfl | (unfold Gl; kernel_rfl))) (ew_or1 (ew_et (ew_and (et_cmp (semC_bool .Eq) (or_c (Room.u65 hr0) .Eq) (ev_var (i := 4) (by first | kernel_rfl | (unfold Gl; kernel_rfl)) (.inl (by first | kernel_rfl | (unfold Gl; kernel_rfl))) (by first | kernel_rfl | (unfold Gl; kernel_rfl)) (by first | kernel_rfl | (unfold Gl; kernel_rfl))) (ev_var (i := 2) (by first | kernel_rfl | (unfold Gl; kernel_rfl)) (.inl (by first | kernel_rfl | (unfold Gl; kernel_rfl))) (by first | kernel_rfl | (unfold Gl; kernel_rfl)) (by first | kernel_rfl | (unfold Gl; kernel_rfl))) (by first | kernel_rfl | (unfold Gl; kernel_rfl))) (ew_and1 (et_not (et_val (ev_var (i := 3) (by first | kernel_rfl | (unfold Gl; kernel_rfl)) (.inl (by first | kernel_rfl | (unfold Gl; kernel_rfl))) (by first | kernel_rfl | (unfold Gl; kernel_rfl)) (by first | kernel_rfl | (unfold Gl; kernel_rfl))) (fun _ => (by first | kernel_rfl | (unfold Gl; kernel_rfl))))))))))) (ev_var (i := 7) (by first | kernel_rfl | (unfold Gl; kernel_rfl)) (.inl (by first | kernel_rfl | (unfold Gl; kernel_rfl))) (by first | kernel_rfl | (unfold Gl; kernel_rfl)) (by first | kernel_rfl | (unfold Gl; kernel_rfl))) (ev_cst rfl)))) ess_nil)
  (ess_one (es_ret (ev_bin (ev_var (i := 6) (by first | kernel_rfl | (unfold Gl; kernel_rfl)) (.inl (by first | kernel_rfl | (unfold Gl; kernel_rfl))) (by first | kernel_rfl | (unfold Gl; kernel_rfl)) (by first | kernel_rfl | (unfold Gl; kernel_rfl))) (ev_blt (cr_max2 rfl) (by first | kernel_rfl | (unfold Gl; kernel_rfl)) m_max boot_max (ea_cons (ev_cst rfl) (ea_cons (ev_bin (ev_var (i := 4) (by first | kernel_rfl | (unfold Gl; kernel_rfl)) (.inl (by first | kernel_rfl | (unfold Gl; kernel_rfl))) (by first | kernel_rfl | (unfold Gl; kernel_rfl)) (by first | kernel_rfl | (unfold Gl; kernel_rfl))) (ev_blt (cr_max2 rfl) (by first | kernel_rfl | (unfold Gl; kernel_rfl)) m_max boot_max (ea_cons (ev_var (i := 2) (by first | kernel_rfl | (unfold Gl; kernel_rfl)) (.inl (by first | kernel_rfl | (unfold Gl; kernel_rfl))) (by first | kernel_rfl | (unfold Gl; kernel_rfl)) (by first | kernel_rfl | (unfold Gl; kernel_rfl))) (ea_cons (ev_var (i := 5) (by first | kernel_rfl | (unfold Gl; kernel_rfl)) (.inl (by first | kernel_rfl | (unfold Gl; kernel_rfl))) (by first | kernel_rfl | (unfold Gl; kernel_rfl)) (by first | kernel_rfl | (unfold Gl; kernel_rfl))) ea_nil (by first | kernel_rfl | (unfold Gl; kernel_rfl))) (by first | kernel_rfl | (unfold Gl; kernel_rfl))) (by decide +kernel) (by first | kernel_rfl | (unfold Gl; kernel_rfl)) (by first | kernel_rfl | (unfold Gl; kernel_rfl)) (by first | kernel_rfl | (unfold Gl; kernel_rfl)))) ea_nil (by first | kernel_rfl | (unfold Gl; kernel_rfl))) (by first | kernel_rfl | (unfold Gl; kernel_rfl))) (by decide +kernel) (by first | kernel_rfl | (unfold Gl; kernel_rfl)) (by first | kernel_rfl | (unfold Gl; kernel_rfl)) (by first | kernel_rfl | (unfold Gl; kernel_rfl))))))))
theorem c_given_above (L : LC K mg base T fa fn tf) : Ctr P w K mg base CX0 7 T "given_above" F_given_above := by
  obtain ⟨fd, Fd⟩ := L.c.def_ 13 (d := d_given_above) rfl
  have m_bool := L.free 17 (x := "bool") rfl
  have m_int := L.free 19 (x := "int") rfl
  have m_isinstance := L.free 20 (x := "isinstance") rfl
  have m_sum := L.free 28 (x := "sum") rfl
  refine ctr_of L 13 rfl Fd (Fd.bindsN (ps := ["problem", "level"]) fun _ _ _ _ _ _ us hl => match us, hl with | [_, _], _ => by kernel_rfl) ?_
  refine fn_okC (N := ["problem", "level", "sums", "are_givers", "number"]) (k := 6) (ios := [false, false]) (fb := fb_given_above) Fd sc_given_above rfl (by decide) fun A outer s H E Ex0 H0 I0 hr0 => ?_
  exact (ess_cons (es_expr rfl (ev_call (((c_need_problem L).mono (by omega))) hr0 (by first | kernel_rfl | (unfold Gl; kernel_rfl)) (fun _ _ _ _ _ _ _ h => h.elim) (ea_cons (ev_fz (ev_var (i := 0) (by first | kernel_rfl | (unfold Gl; kernel_rfl)) (.inr (.inl (by first | kernel_rfl | (unfold Gl; kernel_rfl)))) (by first | kernel_rfl | (unfold Gl; kernel_rfl)) (by first | kernel_rfl | (unfold Gl; kernel_rfl)))) ea_nil (by first | kernel_rfl | (unfold Gl; kernel_rfl))) (by first | kernel_rfl | (unfold Gl; kernel_rfl)) (by first | kernel_rfl | (unfold Gl; kernel_rfl)) (by first | kernel_rfl | (unfold Gl; kernel_rfl))) (by first | kernel_rfl | (unfold Gl; kernel_rfl)))
  (ess_cons (es_if rfl (ew_et (ew_or (et_not (et_val (ev_isi (by decide +kernel) (by first | kernel_rfl | (unfold Gl; kernel_rfl)) m_isinstance (by first | kernel_rfl | (unfold Gl; kernel_rfl)) m_int (by decide +kernel) (by decide +kernel) (by first | kernel_rfl | (unfold Gl; kernel_rfl)) (ev_var (i := 1) (by first | kernel_rfl | (unfold Gl; kernel_rfl)) (.inr (.inl (by first | kernel_rfl | (unfold Gl; kernel_rfl)))) (by first | kernel_rfl | (unfold Gl; kernel_rfl)) (by first | kernel_rfl | (unfold Gl; kernel_rfl))) (by first | kernel_rfl | (unfold Gl; kernel_rfl)) (by first | kernel_rfl | (unfold Gl; kernel_rfl)) (by first | kernel_rfl | (unfold Gl; kernel_rfl))) (fun _ => (by first | kernel_rfl | (unfold Gl; kernel_rfl))))) (ew_or1 (et_val (ev_isi (by decide +kernel) (by first | kernel_rfl | (unfold Gl; kernel_rfl)) m_isinstance (by first | kernel_rfl | (unfold Gl; kernel_rfl)) m_bool (by decide +kernel) (by decide +kernel) (by first | kernel_rfl | (unfold Gl; kernel_rfl)) (ev_var (i := 1) (by first | kernel_rfl | (unfold Gl; kernel_rfl)) (.inr (.inl (by first | kernel_rfl | (unfold Gl; kernel_rfl)))) (by first | kernel_rfl | (unfold Gl; kernel_rfl)) (by first | kernel_rfl | (unfold Gl; kernel_rfl))) (by first | kernel_rfl | (unfold Gl; kernel_rfl)) (by first | kernel_rfl | (unfold Gl; kernel_rfl)) (by first | kernel_rfl | (unfold Gl; kernel_rfl))) (fun _ => (by first | kernel_rfl | (unfold Gl; kernel_rfl))))))) (ess_one es_never) ess_nil)
  (ess_cons (es_set (i := 2) sc_given_above.nd rfl (by first | kernel_rfl | (unfold Gl; kernel_rfl)) (.inl (by first | kernel_rfl | (unfold Gl; kernel_rfl))) (.inr (by first | kernel_rfl | (unfold Gl; kernel_rfl))) (ev_lst ea_nil) (by first | kernel_rfl | (unfold Gl; kernel_rfl)))
  (ess_cons (es_for rfl PassesOwn.never rfl (ei_seq (ev_tup (ea_cons (ev_cst rfl) (ea_cons (ev_cst rfl) ea_nil (by first | kernel_rfl | (unfold Gl; kernel_rfl))) (by first | kernel_rfl | (unfold Gl; kernel_rfl))))) (eg_name (i := 3) sc_given_above.nd (by first | kernel_rfl | (unfold Gl; kernel_rfl)) (.inl (by first | kernel_rfl | (unfold Gl; kernel_rfl))) (.inr (by first | kernel_rfl | (unfold Gl; kernel_rfl)))) (ess_one (es_expr rfl (ev_append (ev_var (i := 2) (by first | kernel_rfl | (unfold Gl; kernel_rfl)) (.inl (by first | kernel_rfl | (unfold Gl; kernel_rfl))) (by first | kernel_rfl | (unfold Gl; kernel_rfl)) (by first | kernel_rfl | (unfold Gl; kernel_rfl))) (ev_sum hr0 (by first | kernel_rfl | (unfold Gl; kernel_rfl)) m_sum (L.tb ("given_above", none) (by decide +kernel)) (by first | kernel_rfl | (unfold Gl; kernel_rfl)) (L.tT ("given_above", none) (by decide +kernel)) sc_given_above.nd (ei_seq (ev_call (((c_numbers_of L).mono (by omega))) hr0 (by first | kernel_rfl | (unfold Gl; kernel_rfl)) (fun _ _ _ _ _ _ _ h => h.elim) (ea_cons (ev_fz (ev_var (i := 0) (by first | kernel_rfl | (unfold Gl; kernel_rfl)) (.inr (.inl (by first | kernel_rfl | (unfold Gl; kernel_rfl)))) (by first | kernel_rfl | (unfold Gl; kernel_rfl)) (by first | kernel_rfl | (unfold Gl; kernel_rfl)))) (ea_cons (ev_fz (ev_var (i := 3) (by first | kernel_rfl | (unfold Gl; kernel_rfl)) (.inl (by first | kernel_rfl | (unfold Gl; kernel_rfl))) (by first | kernel_rfl | (unfold Gl; kernel_rfl)) (by first | kernel_rfl | (unfold Gl; kernel_rfl)))) ea_nil (by first | kernel_rfl | (unfold Gl; kernel_rfl))) (by first | kernel_rfl | (unfold Gl; kernel_rfl))) (by first | kernel_rfl | (unfold Gl; kernel_rfl)) (by first | kernel_rfl | (unfold Gl; kernel_rfl)) (by first | kernel_rfl | (unfold Gl; kernel_rfl)))) (own := [("number", 4)]) (blkOk_by (by first | kernel_rfl | (unfold Gl; kernel_rfl))) (by first | kernel_rfl | (unfold Gl; kernel_rfl)) (by decide +kernel) (by first | kernel_rfl | (unfold Gl; kernel_rfl)) (by decide) (fun _ _ _ _ _ _ => (eg_name (i := 4) sc_given_above.nd (by first | kernel_rfl | (unfold Gl; kernel_rfl)) (.inl (by first | kernel_rfl | (unfold Gl; kernel_rfl))) (.inr (by first | kernel_rfl | (unfold Gl; kernel_rfl))))) (fun _ _ _ _ _ _ => ets_nil) (fun _ _ _ _ _ _ => (ev_call (((c_heat_above L).mono (by omega))) (Room.gen hr0 _) (by first | kernel_rfl | (unfold Gl; kernel_rfl)) (fun _ _ _ _ _ _ _ h => h.elim) (ea_cons (ev_fz (ev_var (i := 0) (by first | kernel_rfl | (unfold Gl; kernel_rfl)) (.inr (.inr (by first | kernel_rfl | (unfold Gl; kernel_rfl)))) (by first | kernel_rfl | (unfold Gl; kernel_rfl)) (by first | kernel_rfl | (unfold Gl; kernel_rfl)))) (ea_cons (ev_fz (ev_var (i := 4) (by first | kernel_rfl | (unfold Gl; kernel_rfl)) (.inl (by first | kernel_rfl | (unfold Gl; kernel_rfl))) (by first | kernel_rfl | (unfold Gl; kernel_rfl)) (by first | kernel_rfl | (unfold Gl; kernel_rfl)))) (ea_cons (ev_fz (ev_var (i := 1) (by first | kernel_rfl | (unfold Gl; kernel_rfl)) (.inr (.inr (by first | kernel_rfl | (unfold Gl; kernel_rfl)))) (by first | kernel_rfl | (unfold Gl; kernel_rfl)) (by first | kernel_rfl | (unfold Gl; kernel_rfl)))) (ea_cons (ev_cst rfl) ea_nil (by first | kernel_rfl | (unfold Gl; kernel_rfl))) (by first | kernel_rfl | (unfold Gl; kernel_rfl))) (by first | kernel_rfl | (unfold Gl; kernel_rfl))) (by first | kernel_rfl | (unfold Gl; kernel_rfl))) (by first | kernel_rfl | (unfold Gl; kernel_rfl)) (by first | kernel_rfl | (unfold Gl; kernel_rfl)) (by first | kernel_rfl | (unfold Gl; kernel_rfl)))) (fun _ => (by first | kernel_rfl | (unfold Gl; kernel_rfl))) (by first | kernel_rfl | (unfold Gl; kernel_rfl))) (by first | kernel_rfl | (unfold Gl; kernel_rfl)) (by first | kernel_rfl | (unfold Gl; kernel_rfl)) (by first | kernel_rfl | (unfold Gl; kernel_rfl)) (by first | kernel_rfl | (unfold Gl; kernel_rfl)) (by first | kernel_rfl | (unfold Gl; kernel_rfl))) (by first | kernel_rfl | (unfold Gl; kernel_rfl)))) (fun _ => (by first | kernel_rfl | (unfold Gl; kernel_rfl))))
  (ess_one (es_ret (ev_tup (ea_cons (ev_ix (Room.u1 hr0) (ev_var (i := 2) (by first | kernel_rfl | (unfold Gl; kernel_rfl)) (.inl (by first | kernel_rfl | (unfold Gl; kernel_rfl))) (by first | kernel_rfl | (unfold Gl; kernel_rfl)) (by first | kernel_rfl | (unfold Gl; kernel_rfl))) (ev_cst rfl) (by first | kernel_rfl | (unfold Gl; kernel_rfl))) (ea_cons (ev_ix (Room.u1 hr0) (ev_var (i := 2) (by first | kernel_rfl | (unfold Gl; kernel_rfl)) (.inl (by first | kernel_rfl | (unfold Gl; kernel_rfl))) (by first | kernel_rfl | (unfold Gl; kernel_rfl)) (by first | kernel_rfl | (unfold Gl; kernel_rfl))) (ev_cst rfl) (by first | kernel_rfl | (unfold Gl; kernel_rfl))) ea_nil (by first | kernel_rfl | (unfold Gl; kernel_rfl))) (by first | kernel_rfl | (unfold Gl; kernel_rfl))))))))))
theorem ok_law (L : LC K mg base T fa fn tf) {fd : FuncData} (Fd : FunD K d_law.name d_law.qual d_law.params d_law.body d_law.scope (d_law.dvs K) (d_law.kws K) (He.fAd K d_law.at_) fd) : FnOk P w K mg base CX0 8 (He.fAd K ("law", none)) fd ["_law_script"] (spF K T F_law) := by
  have m_len := L.free 21 (x := "len") rfl
  have m_list := L.free 22 (x := "list") rfl
  have m_max := L.free 23 (x := "max") rfl
  have m_set := L.free 26 (x := "set") rfl
  have m_sorted := L.free 27 (x := "sorted") rfl
  refine fn_okC (N := ["_law_script", "_law_row", "_law_problem_here", "_law_gives", "_law_corners", "_law_whole", "_law_heat_here", "_law_temperature", "_law_level", "_law_above", "_law_highest", "_law_one"]) (k := 7) (ios := [false]) (fb := fb_law) Fd sc_law rfl (by decide) fun A outer s H E Ex0 H0 I0 hr0 => ?_
  exact (ess_cons (es_set (i := 1) sc_law.nd rfl (by first | kernel_rfl | (unfold Gl; kernel_rfl)) (.inl (by first | kernel_rfl | (unfold Gl; kernel_rfl))) (.inr (by first | kernel_rfl | (unfold Gl; kernel_rfl))) (ev_lst (ea_cons (ev_fz (ev_var (i := 0) (by first | kernel_rfl | (unfold Gl; kernel_rfl)) (.inl (by first | kernel_rfl | (unfold Gl; kernel_rfl))) (by first | kernel_rfl | (unfold Gl; kernel_rfl)) (by first | kernel_rfl | (unfold Gl; kernel_rfl)))) (ea_cons (ev_cst rfl) (ea_cons (ev_cst rfl) (ea_cons (ev_cst rfl) ea_nil (by first | kernel_rfl | (unfold Gl; kernel_rfl))) (by first | kernel_rfl | (unfold Gl; kernel_rfl))) (by first | kernel_rfl | (unfold Gl; kernel_rfl))) (by first | kernel_rfl | (unfold Gl; kernel_rfl)))) (by first | kernel_rfl | (unfold Gl; kernel_rfl)))
  (ess_cons (es_set (i := 2) sc_law.nd rfl (by first | kernel_rfl | (unfold Gl; kernel_rfl)) (.inl (by first | kernel_rfl | (unfold Gl; kernel_rfl))) (.inr (by first | kernel_rfl | (unfold Gl; kernel_rfl))) (ev_call (((c__law_problem L).mono (by omega))) hr0 (by first | kernel_rfl | (unfold Gl; kernel_rfl)) (fun _ _ _ _ _ _ _ h => h.elim) (ea_cons (ev_var (i := 1) (by first | kernel_rfl | (unfold Gl; kernel_rfl)) (.inl (by first | kernel_rfl | (unfold Gl; kernel_rfl))) (by first | kernel_rfl | (unfold Gl; kernel_rfl)) (by first | kernel_rfl | (unfold Gl; kernel_rfl))) ea_nil (by first | kernel_rfl | (unfold Gl; kernel_rfl))) (by first | kernel_rfl | (unfold Gl; kernel_rfl)) (by first | kernel_rfl | (unfold Gl; kernel_rfl)) (by first | kernel_rfl | (unfold Gl; kernel_rfl))) (by first | kernel_rfl | (unfold Gl; kernel_rfl)))
  (ess_cons (es_for rfl PassesOwn.never rfl (ei_kill rfl (by first | kernel_rfl | (unfold Gl; kernel_rfl)) (ei_fz (ei_seq (ev_lst (ea_cons (ev_cst rfl) (ea_cons (ev_cst rfl) ea_nil (by first | kernel_rfl | (unfold Gl; kernel_rfl))) (by first | kernel_rfl | (unfold Gl; kernel_rfl))))))) (eg_name (i := 3) sc_law.nd (by first | kernel_rfl | (unfold Gl; kernel_rfl)) (.inl (by first | kernel_rfl | (unfold Gl; kernel_rfl))) (.inr (by first | kernel_rfl | (unfold Gl; kernel_rfl)))) (ess_kill rfl (by first | kernel_rfl | (unfold Gl; kernel_rfl)) (ess_cons (es_set (i := 4) sc_law.nd rfl (by first | kernel_rfl | (unfold Gl; kernel_rfl)) (.inl (by first | kernel_rfl | (unfold Gl; kernel_rfl))) (.inr (by first | kernel_rfl | (unfold Gl; kernel_rfl))) (ev_call (((c_curve L).mono (by omega))) hr0 (by first | kernel_rfl | (unfold Gl; kernel_rfl)) (fun _ _ _ _ _ _ _ h => h.elim) (ea_cons (ev_fz (ev_var (i := 2) (by first | kernel_rfl | (unfold Gl; kernel_rfl)) (.inl (by first | kernel_rfl | (unfold Gl; kernel_rfl))) (by first | kernel_rfl | (unfold Gl; kernel_rfl)) (by first | kernel_rfl | (unfold Gl; kernel_rfl)))) (ea_cons (ev_fz (ev_var (i := 3) (by first | kernel_rfl | (unfold Gl; kernel_rfl)) (.inl (by first | kernel_rfl | (unfold Gl; kernel_rfl))) (by first | kernel_rfl | (unfold Gl; kernel_rfl)) (by first | kernel_rfl | (unfold Gl; kernel_rfl)))) ea_nil (by first | kernel_rfl | (unfold Gl; kernel_rfl))) (by first | kernel_rfl | (unfold Gl; kernel_rfl))) (by first | kernel_rfl | (unfold Gl; kernel_rfl)) (by first | kernel_rfl | (unfold Gl; kernel_rfl)) (by first | kernel_rfl | (unfold Gl; kernel_rfl))) (by first | kernel_rfl | (unfold Gl; kernel_rfl)))
  (ess_cons (es_if rfl (ew_et (ew_and (et_cmp (semC_bool .NotEq) (or_c (Room.u65 hr0) .NotEq) (ev_var (i := 4) (by first | kernel_rfl | (unfold Gl; kernel_rfl)) (.inl (by first | kernel_rfl | (unfold Gl; kernel_rfl))) (by first | kernel_rfl | (unfold Gl; kernel_rfl)) (by first | kernel_rfl | (unfold Gl; kernel_rfl))) (ev_tup ea_nil) (by first | kernel_rfl | (unfold Gl; kernel_rfl))) (ew_and1 (ew_et (ew_or (et_cmp (semC_bool .NotEq) (or_c (Room.u65 hr0) .NotEq) (ev_ix (Room.u1 hr0) (ev_ix (Room.u1 hr0) (ev_var (i := 4) (by first | kernel_rfl | (unfold Gl; kernel_rfl)) (.inl (by first | kernel_rfl | (unfold Gl; kernel_rfl))) (by first | kernel_rfl | (unfold Gl; kernel_rfl)) (by first | kernel_rfl | (unfold Gl; kernel_rfl))) (ev_cst rfl) (by first | kernel_rfl | (unfold Gl; kernel_rfl))) (ev_cst rfl) (by first | kernel_rfl | (unfold Gl; kernel_rfl))) (ev_cst rfl) (by first | kernel_rfl | (unfold Gl; kernel_rfl))) (ew_or (et_cmp (semC_bool .NotEq) (or_c (Room.u65 hr0) .NotEq) (ev_bltN (cr_sorted (Room.u64 hr0)) (by first | kernel_rfl | (unfold Gl; kernel_rfl)) m_sorted boot_sorted (ea_cons (ev_bltTN cr_list (by first | kernel_rfl | (unfold Gl; kernel_rfl)) m_list PyProof.Rows.boot_list (ea_cons (ev_var (i := 4) (by first | kernel_rfl | (unfold Gl; kernel_rfl)) (.inl (by first | kernel_rfl | (unfold Gl; kernel_rfl))) (by first | kernel_rfl | (unfold Gl; kernel_rfl)) (by first | kernel_rfl | (unfold Gl; kernel_rfl))) ea_nil (by first | kernel_rfl | (unfold Gl; kernel_rfl))) (by decide +kernel) (by first | kernel_rfl | (unfold Gl; kernel_rfl)) (by first | kernel_rfl | (unfold Gl; kernel_rfl)) (by first | kernel_rfl | (unfold Gl; kernel_rfl))) ea_nil (by first | kernel_rfl | (unfold Gl; kernel_rfl))) (by decide +kernel) (by first | kernel_rfl | (unfold Gl; kernel_rfl)) (by first | kernel_rfl | (unfold Gl; kernel_rfl)) (by first | kernel_rfl | (unfold Gl; kernel_rfl))) (ev_bltTN cr_list (by first | kernel_rfl | (unfold Gl; kernel_rfl)) m_list PyProof.Rows.boot_list (ea_cons (ev_var (i := 4) (by first | kernel_rfl | (unfold Gl; kernel_rfl)) (.inl (by first | kernel_rfl | (unfold Gl; kernel_rfl))) (by first | kernel_rfl | (unfold Gl; kernel_rfl)) (by first | kernel_rfl | (unfold Gl; kernel_rfl))) ea_nil (by first | kernel_rfl | (unfold Gl; kernel_rfl))) (by decide +kernel) (by first | kernel_rfl | (unfold Gl; kernel_rfl)) (by first | kernel_rfl | (unfold Gl; kernel_rfl)) (by first | kernel_rfl | (unfold Gl; kernel_rfl))) (by first | kernel_rfl | (unfold Gl; kernel_rfl))) (ew_or1 (et_cmp (semC_bool .Lt) (or_c (Room.u65 hr0) .Lt) (ev_lensetT rfl (Room.u64 hr0) (by first | kernel_rfl | (unfold Gl; kernel_rfl)) m_len (by first | kernel_rfl | (unfold Gl; kernel_rfl)) m_set (ev_var (i := 4) (by first | kernel_rfl | (unfold Gl; kernel_rfl)) (.inl (by first | kernel_rfl | (unfold Gl; kernel_rfl))) (by first | kernel_rfl | (unfold Gl; kernel_rfl)) (by first | kernel_rfl | (unfold Gl; kernel_rfl))) (by first | kernel_rfl | (unfold Gl; kernel_rfl)) (by first | kernel_rfl | (unfold Gl; kernel_rfl)) (by first | kernel_rfl | (unfold Gl; kernel_rfl)) (by first | kernel_rfl | (unfold Gl; kernel_rfl))) (ev_blt cr_len (by first | kernel_rfl | (unfold Gl; kernel_rfl)) m_len boot_len (ea_cons (ev_var (i := 4) (by first | kernel_rfl | (unfold Gl; kernel_rfl)) (.inl (by first | kernel_rfl | (unfold Gl; kernel_rfl))) (by first | kernel_rfl | (unfold Gl; kernel_rfl)) (by first | kernel_rfl | (unfold Gl; kernel_rfl))) ea_nil (by first | kernel_rfl | (unfold Gl; kernel_rfl))) (by decide +kernel) (by first | kernel_rfl | (unfold Gl; kernel_rfl)) (by first | kernel_rfl | (unfold Gl; kernel_rfl)) (by first | kernel_rfl | (unfold Gl; kernel_rfl))) (by first | kernel_rfl | (unfold Gl; kernel_rfl)))))))))) (ess_one (es_ret (ev_cst rfl))) ess_nil)
  (ess_cons (es_set (i := 5) sc_law.nd rfl (by first | kernel_rfl | (unfold Gl; kernel_rfl)) (.inl (by first | kernel_rfl | (unfold Gl; kernel_rfl))) (.inr (by first | kernel_rfl | (unfold Gl; kernel_rfl))) (ev_if (et_cmp (semC_bool .NotEq) (or_c (Room.u65 hr0) .NotEq) (ev_var (i := 4) (by first | kernel_rfl | (unfold Gl; kernel_rfl)) (.inl (by first | kernel_rfl | (unfold Gl; kernel_rfl))) (by first | kernel_rfl | (unfold Gl; kernel_rfl)) (by first | kernel_rfl | (unfold Gl; kernel_rfl))) (ev_tup ea_nil) (by first | kernel_rfl | (unfold Gl; kernel_rfl))) (ev_ix (Room.u1 hr0) (ev_ix (Room.u1 hr0) (ev_var (i := 4) (by first | kernel_rfl | (unfold Gl; kernel_rfl)) (.inl (by first | kernel_rfl | (unfold Gl; kernel_rfl))) (by first | kernel_rfl | (unfold Gl; kernel_rfl)) (by first | kernel_rfl | (unfold Gl; kernel_rfl))) (ev_neg (ev_cst rfl)) (by first | kernel_rfl | (unfold Gl; kernel_rfl))) (ev_cst rfl) (by first | kernel_rfl | (unfold Gl; kernel_rfl))) (ev_cst rfl)) (by first | kernel_rfl | (unfold Gl; kernel_rfl)))
  (ess_cons (es_if rfl (et_cmp (semC_bool .NotEq) (or_c (Room.u65 hr0) .NotEq) (ev_var (i := 5) (by first | kernel_rfl | (unfold Gl; kernel_rfl)) (.inl (by first | kernel_rfl | (unfold Gl; kernel_rfl))) (by first | kernel_rfl | (unfold Gl; kernel_rfl)) (by first | kernel_rfl | (unfold Gl; kernel_rfl))) (ev_ix (Room.u1 hr0) (ev_call (((c_given_above L).mono (by omega))) hr0 (by first | kernel_rfl | (unfold Gl; kernel_rfl)) (fun _ _ _ _ _ _ _ h => h.elim) (ea_cons (ev_fz (ev_var (i := 2) (by first | kernel_rfl | (unfold Gl; kernel_rfl)) (.inl (by first | kernel_rfl | (unfold Gl; kernel_rfl))) (by first | kernel_rfl | (unfold Gl; kernel_rfl)) (by first | kernel_rfl | (unfold Gl; kernel_rfl)))) (ea_cons (ev_neg (ev_cst rfl)) ea_nil (by first | kernel_rfl | (unfold Gl; kernel_rfl))) (by first | kernel_rfl | (unfold Gl; kernel_rfl))) (by first | kernel_rfl | (unfold Gl; kernel_rfl)) (by first | kernel_rfl | (unfold Gl; kernel_rfl)) (by first | kernel_rfl | (unfold Gl; kernel_rfl))) (ev_if (et_val (ev_var (i := 3) (by first | kernel_rfl | (unfold Gl; kernel_rfl)) (.inl (by first | kernel_rfl | (unfold Gl; kernel_rfl))) (by first | kernel_rfl | (unfold Gl; kernel_rfl)) (by first | kernel_rfl | (unfold Gl; kernel_rfl))) (fun _ => (by first | kernel_rfl | (unfold Gl; kernel_rfl)))) (ev_cst rfl) (ev_cst rfl)) (by first | kernel_rfl | (unfold Gl; kernel_rfl))) (by first | kernel_rfl | (unfold Gl; kernel_rfl))) (ess_one (es_ret (ev_cst rfl))) ess_nil)
  (ess_one (es_for rfl PassesOwn.never rfl (ei_kill rfl (by first | kernel_rfl | (unfold Gl; kernel_rfl)) (ei_fz (ei_seq (ev_var (i := 4) (by first | kernel_rfl | (unfold Gl; kernel_rfl)) (.inl (by first | kernel_rfl | (unfold Gl; kernel_rfl))) (by first | kernel_rfl | (unfold Gl; kernel_rfl)) (by first | kernel_rfl | (unfold Gl; kernel_rfl)))))) (eg_tup rfl (egs_cons (eg_name (i := 6) sc_law.nd (by first | kernel_rfl | (unfold Gl; kernel_rfl)) (.inl (by first | kernel_rfl | (unfold Gl; kernel_rfl))) (.inr (by first | kernel_rfl | (unfold Gl; kernel_rfl)))) (egs_cons (eg_name (i := 7) sc_law.nd (by first | kernel_rfl | (unfold Gl; kernel_rfl)) (.inr (by first | kernel_rfl | (unfold Gl; kernel_rfl))) (.inl (by first | kernel_rfl | (unfold Gl; kernel_rfl)))) egs_nil (by first | kernel_rfl | (unfold Gl; kernel_rfl))) (by first | kernel_rfl | (unfold Gl; kernel_rfl))) (by first | kernel_rfl | (unfold Gl; kernel_rfl)) (by first | kernel_rfl | (unfold Gl; kernel_rfl))) (ess_kill rfl (by first | kernel_rfl | (unfold Gl; kernel_rfl)) (ess_cons (es_set (i := 8) sc_law.nd rfl (by first | kernel_rfl | (unfold Gl; kernel_rfl)) (.inl (by first | kernel_rfl | (unfold Gl; kernel_rfl))) (.inr (by first | kernel_rfl | (unfold Gl; kernel_rfl))) (ev_if (et_val (ev_var (i := 3) (by first | kernel_rfl | (unfold Gl; kernel_rfl)) (.inl (by first | kernel_rfl | (unfold Gl; kernel_rfl))) (by first | kernel_rfl | (unfold Gl; kernel_rfl)) (by first | kernel_rfl | (unfold Gl; kernel_rfl))) (fun _ => (by first | kernel_rfl | (unfold Gl; kernel_rfl)))) (ev_bin (ev_var (i := 7) (by first | kernel_rfl | (unfold Gl; kernel_rfl)) (.inr (.inl (by first | kernel_rfl | (unfold Gl; kernel_rfl)))) (by first | kernel_rfl | (unfold Gl; kernel_rfl)) (by first | kernel_rfl | (unfold Gl; kernel_rfl))) (ev_ix (Room.u1 hr0) (ev_var (i := 2) (by first | kernel_rfl | (unfold Gl; kernel_rfl)) (.inl (by first | kernel_rfl | (unfold Gl; kernel_rfl))) (by first | kernel_rfl | (unfold Gl; kernel_rfl)) (by first | kernel_rfl | (unfold Gl; kernel_rfl))) (ev_cst rfl) (by first | kernel_rfl | (unfold Gl; kernel_rfl)))) (ev_var (i := 7) (by first | kernel_rfl | (unfold Gl; kernel_rfl)) (.inr (.inl (by first | kernel_rfl | (unfold Gl; kernel_rfl)))) (by first | kernel_rfl | (unfold Gl; kernel_rfl)) (by first | kernel_rfl | (unfold Gl; kernel_rfl)))) (by first | kernel_rfl | (unfold Gl; kernel_rfl)))
  (ess_cons (es_set (i := 9) sc_law.nd rfl (by first | kernel_rfl | (unfold Gl; kernel_rfl)) (.inl (by first | kernel_rfl | (unfold Gl; kernel_rfl))) (.inr (by first | kernel_rfl | (unfold Gl; kernel_rfl))) (ev_ix (Room.u1 hr0) (ev_call (((c_given_above L).mono (by omega))) hr0 (by first | kernel_rfl | (unfold Gl; kernel_rfl)) (fun _ _ _ _ _ _ _ h => h.elim) (ea_cons (ev_fz (ev_var (i := 2) (by first | kernel_rfl | (unfold Gl; kernel_rfl)) (.inl (by first | kernel_rfl | (unfold Gl; kernel_rfl))) (by first | kernel_rfl | (unfold Gl; kernel_rfl)) (by first | kernel_rfl | (unfold Gl; kernel_rfl)))) (ea_cons (ev_fz (ev_var (i := 8) (by first | kernel_rfl | (unfold Gl; kernel_rfl)) (.inl (by first | kernel_rfl | (unfold Gl; kernel_rfl))) (by first | kernel_rfl | (unfold Gl; kernel_rfl)) (by first | kernel_rfl | (unfold Gl; kernel_rfl)))) ea_nil (by first | kernel_rfl | (unfold Gl; kernel_rfl))) (by first | kernel_rfl | (unfold Gl; kernel_rfl))) (by first | kernel_rfl | (unfold Gl; kernel_rfl)) (by first | kernel_rfl | (unfold Gl; kernel_rfl)) (by first | kernel_rfl | (unfold Gl; kernel_rfl))) (ev_if (et_val (ev_var (i := 3) (by first | kernel_rfl | (unfold Gl; kernel_rfl)) (.inl (by first | kernel_rfl | (unfold Gl; kernel_rfl))) (by first | kernel_rfl | (unfold Gl; kernel_rfl)) (by first | kernel_rfl | (unfold Gl; kernel_rfl))) (fun _ => (by first | kernel_rfl | (unfold Gl; kernel_rfl)))) (ev_cst rfl) (ev_cst rfl)) (by first | kernel_rfl | (unfold Gl; kernel_rfl))) (by first | kernel_rfl | (unfold Gl; kernel_rfl)))
  (ess_cons (es_set (i := 10) sc_law.nd rfl (by first | kernel_rfl | (unfold Gl; kernel_rfl)) (.inl (by first | kernel_rfl | (unfold Gl; kernel_rfl))) (.inr (by first | kernel_rfl | (unfold Gl; kernel_rfl))) (ev_blt (cr_maxL rfl) (by first | kernel_rfl | (unfold Gl; kernel_rfl)) m_max boot_max (ea_cons (ev_lc rfl sc_law.nd (ei_seq (ev_var (i := 4) (by first | kernel_rfl | (unfold Gl; kernel_rfl)) (.inl (by first | kernel_rfl | (unfold Gl; kernel_rfl))) (by first | kernel_rfl | (unfold Gl; kernel_rfl)) (by first | kernel_rfl | (unfold Gl; kernel_rfl)))) (own := [("_law_one", 11)]) (blkOk_by (by first | kernel_rfl | (unfold Gl; kernel_rfl))) (by decide) (fun _ _ _ _ _ => (eg_name (i := 11) sc_law.nd (by first | kernel_rfl | (unfold Gl; kernel_rfl)) (.inl (by first | kernel_rfl | (unfold Gl; kernel_rfl))) (.inr (by first | kernel_rfl | (unfold Gl; kernel_rfl))))) (fun _ _ _ _ _ => (ets_one (et_cmp (semC_bool .Eq) (or_c (Room.u65 hr0) .Eq) (ev_ix (Room.u1 hr0) (ev_var (i := 11) (by first | kernel_rfl | (unfold Gl; kernel_rfl)) (.inl (by first | kernel_rfl | (unfold Gl; kernel_rfl))) (by first | kernel_rfl | (unfold Gl; kernel_rfl)) (by first | kernel_rfl | (unfold Gl; kernel_rfl))) (ev_cst rfl) (by first | kernel_rfl | (unfold Gl; kernel_rfl))) (ev_var (i := 7) (by first | kernel_rfl | (unfold Gl; kernel_rfl)) (.inr (.inl (by first | kernel_rfl | (unfold Gl; kernel_rfl)))) (by first | kernel_rfl | (unfold Gl; kernel_rfl)) (by first | kernel_rfl | (unfold Gl; kernel_rfl))) (by first | kernel_rfl | (unfold Gl; kernel_rfl))))) (fun _ _ _ _ _ => (ev_ix (Room.u1 hr0) (ev_var (i := 11) (by first | kernel_rfl | (unfold Gl; kernel_rfl)) (.inl (by first | kernel_rfl | (unfold Gl; kernel_rfl))) (by first | kernel_rfl | (unfold Gl; kernel_rfl)) (by first | kernel_rfl | (unfold Gl; kernel_rfl))) (ev_cst rfl) (by first | kernel_rfl | (unfold Gl; kernel_rfl)))) (fun _ => (by first | kernel_rfl | (unfold Gl; kernel_rfl)))) ea_nil (by first | kernel_rfl | (unfold Gl; kernel_rfl))) (by decide +kernel) (by first | kernel_rfl | (unfold Gl; kernel_rfl)) (by first | kernel_rfl | (unfold Gl; kernel_rfl)) (by first | kernel_rfl | (unfold Gl; kernel_rfl))) (by first | kernel_rfl | (unfold Gl; kernel_rfl)))
  (ess_one (es_if rfl (et_cmp (semC_bool .NotEq) (or_c (Room.u65 hr0) .NotEq) (ev_bin (ev_var (i := 5) (by first | kernel_rfl | (unfold Gl; kernel_rfl)) (.inl (by first | kernel_rfl | (unfold Gl; kernel_rfl))) (by first | kernel_rfl | (unfold Gl; kernel_rfl)) (by first | kernel_rfl | (unfold Gl; kernel_rfl))) (ev_var (i := 10) (by first | kernel_rfl | (unfold Gl; kernel_rfl)) (.inl (by first | kernel_rfl | (unfold Gl; kernel_rfl))) (by first | kernel_rfl | (unfold Gl; kernel_rfl)) (by first | kernel_rfl | (unfold Gl; kernel_rfl)))) (ev_var (i := 9) (by first | kernel_rfl | (unfold Gl; kernel_rfl)) (.inl (by first | kernel_rfl | (unfold Gl; kernel_rfl))) (by first | kernel_rfl | (unfold Gl; kernel_rfl)) (by first | kernel_rfl | (unfold Gl; kernel_rfl))) (by first | kernel_rfl | (unfold Gl; kernel_rfl))) (ess_one (es_ret (ev_cst rfl))) ess_nil)))))) (fun _ => (by first | kernel_rfl | (unfold Gl; kernel_rfl)))))))))) (fun _ => (by first | kernel_rfl | (unfold Gl; kernel_rfl))))
  (ess_one (es_ret (ev_cmp (or_c (Room.u65 hr0) .GtE) (ev_bin (ev_blt cr_len (by first | kernel_rfl | (unfold Gl; kernel_rfl)) m_len boot_len (ea_cons (ev_call (((c_curve L).mono (by omega))) hr0 (by first | kernel_rfl | (unfold Gl; kernel_rfl)) (fun _ _ _ _ _ _ _ h => h.elim) (ea_cons (ev_fz (ev_var (i := 2) (by first | kernel_rfl | (unfold Gl; kernel_rfl)) (.inl (by first | kernel_rfl | (unfold Gl; kernel_rfl))) (by first | kernel_rfl | (unfold Gl; kernel_rfl)) (by first | kernel_rfl | (unfold Gl; kernel_rfl)))) (ea_cons (ev_cst rfl) ea_nil (by first | kernel_rfl | (unfold Gl; kernel_rfl))) (by first | kernel_rfl | (unfold Gl; kernel_rfl))) (by first | kernel_rfl | (unfold Gl; kernel_rfl)) (by first | kernel_rfl | (unfold Gl; kernel_rfl)) (by first | kernel_rfl | (unfold Gl; kernel_rfl))) ea_nil (by first | kernel_rfl | (unfold Gl; kernel_rfl))) (by decide +kernel) (by first | kernel_rfl | (unfold Gl; kernel_rfl)) (by first | kernel_rfl | (unfold Gl; kernel_rfl)) (by first | kernel_rfl | (unfold Gl; kernel_rfl))) (ev_blt cr_len (by first | kernel_rfl | (unfold Gl; kernel_rfl)) m_len boot_len (ea_cons (ev_call (((c_curve L).mono (by omega))) hr0 (by first | kernel_rfl | (unfold Gl; kernel_rfl)) (fun _ _ _ _ _ _ _ h => h.elim) (ea_cons (ev_fz (ev_var (i := 2) (by first | kernel_rfl | (unfold Gl; kernel_rfl)) (.inl (by first | kernel_rfl | (unfold Gl; kernel_rfl))) (by first | kernel_rfl | (unfold Gl; kernel_rfl)) (by first | kernel_rfl | (unfold Gl; kernel_rfl)))) (ea_cons (ev_cst rfl) ea_nil (by first | kernel_rfl | (unfold Gl; kernel_rfl))) (by first | kernel_rfl | (unfold Gl; kernel_rfl))) (by first | kernel_rfl | (unfold Gl; kernel_rfl)) (by first | kernel_rfl | (unfold Gl; kernel_rfl)) (by first | kernel_rfl | (unfold Gl; kernel_rfl))) ea_nil (by first | kernel_rfl | (unfold Gl; kernel_rfl))) (by decide +kernel) (by first | kernel_rfl | (unfold Gl; kernel_rfl)) (by first | kernel_rfl | (unfold Gl; kernel_rfl)) (by first | kernel_rfl | (unfold Gl; kernel_rfl)))) (ev_cst rfl) (by first | kernel_rfl | (unfold Gl; kernel_rfl))))))))
end
end LawX

set_option maxRecDepth 100000
set_option maxHeartbeats 4000000
namespace LawX
open PySem PySem.Spec PyProof.Rows L2 Ev
abbrev hRow : PySem.W.OpenRow := PySem.W.OpenLaw.row PySem.Challenge.rw_pinchworks_k78_across_curves
def hEx : PySem.W.Frag → Bool := fun _ => true
abbrev hHk : PySem.W.Hook := He.hookX 4 fa fn [] tf hEx
def hOb (s : PySem.W.SharedT) : He.AlX := He.obsX 4 fa fn [] tf hEx (HandSHeadRun.getT s)
theorem hOb_eq (s : PySem.W.SharedT) : hOb s = hHk.obs s.abs := He.obsX_eq (HandSHeadRun.getT_eq s)
theorem hRun (w : World) : HandSHeadRun.RunEq hRow (PySem.W.view hRow.prog [38]) hHk hOb 4000 ("HeatError" :: "BadProblem" :: "BadStreams" :: "BadBoxes" :: "BadGap" :: "BadLevel" :: "BadFlag" :: "MOST_TEMPERATURE" :: "MOST_RATE" :: "MOST_HEAT" :: "MOST_STREAMS" :: "MOST_BOXES" :: "MOST_GAP" :: "is_in" :: "is_stream" :: "is_box" :: "need_problem" :: "is_giver" :: "span_of" :: "numbers_of" :: "heat_above" :: "corners_of" :: "curve" :: "given_above" :: "_law_taken" :: "_law_pick" :: "_law_alike" :: "_law_problem" :: "_law_span" :: "_law_heat" :: "_law_need" :: "_law_levels" :: "_law_heating" :: [] : List PySem.Str) w := by
  intro os
  kernel_rfl
theorem hLaw {w : World} {mg : Str → Option Value} {h : Heap} {f : Addr} {K : PySem.W.Frag} (X : K.In h) (G : h.Ns mainGlobals mg) (hfa : mg ("law" : Str) = some (.ref f)) (c : He.SaysX fa fn [] tf hEx w h K)
    (hg : ∀ ns : List Int, ns.length ≤ 63 → ∃ outs, F_law.g [.list (ns.map .int)] = some (.bool true, outs)) : LamX.LawAtS PySem.Challenge.rw_pinchworks_k78_across_curves w K CX0 8 63 "_law_script" mg f h := by
  obtain ⟨fd, Fd⟩ := c.t.d.def_ 14 (d := d_law) rfl
  have e := hfa.symm.trans (He.glo_ok X G (c.t.d.fact 14 (f := .glo "law") rfl))
  cases e
  have b := FunD.bindsA (ps := ["_law_script"]) Fd fun _ _ _ _ _ _ us hl => match us, hl with | [_], _ => by kernel_rfl
  exact law_at X c (fun s v => b s [v] rfl) (fun base T L => ok_law L Fd) rfl hg
theorem hEnd (hg : ∀ ns : List Int, ns.length ≤ 63 → ∃ outs, F_law.g [.list (ns.map .int)] = some (.bool true, outs)) : PySem.Challenge.rw_pinchworks_k78_across_curves.Holds := by
  w_on; o_law
  refine HandSHeadRun.head_any (r := hRow) (q := PySem.W.view hRow.prog [38]) (H := hHk) (ob := hOb) (M := 4000) (loose := ("HeatError" :: "BadProblem" :: "BadStreams" :: "BadBoxes" :: "BadGap" :: "BadLevel" :: "BadFlag" :: "MOST_TEMPERATURE" :: "MOST_RATE" :: "MOST_HEAT" :: "MOST_STREAMS" :: "MOST_BOXES" :: "MOST_GAP" :: "is_in" :: "is_stream" :: "is_box" :: "need_problem" :: "is_giver" :: "span_of" :: "numbers_of" :: "heat_above" :: "corners_of" :: "curve" :: "given_above" :: "_law_taken" :: "_law_pick" :: "_law_alike" :: "_law_problem" :: "_law_span" :: "_law_heat" :: "_law_need" :: "_law_levels" :: "_law_heating" :: [] : List PySem.Str)) (d := HandSHeadRun.topDef hRow.prog 38) (kwd := []) hOb_eq
    (by kernel_rfl) (fun s => by kernel_rfl) hRun (by kernel_rfl) (by kernel_rfl) (by kernel_rfl) (by rfl) (by first | assumption | decide +kernel) (by decide +kernel) ⟨rfl, rfl, rfl, rfl, rfl, by decide +kernel⟩ ?hw ?hc
  case hw => w_witness2
  case hc =>
    refine LamX.walk_ofTsE (l := PySem.Challenge.rw_pinchworks_k78_across_curves) (n := 63) (k := 8) (x := "_law_script") (CX := fun _ => CX0) rfl (by decide) (by kernel_rfl) ⟨rfl, by decide, by decide⟩ ?F (fun _ _ _ _ _ z => z)
    intro w mg f h Y G hmg0
    obtain ⟨K, KX, c⟩ := Y
    have hmg : mg ("law" : PySem.Str) = some (.ref f) := by
      have e : (HandSHeadRun.topDef hRow.prog 38).name = ("law" : PySem.Str) := by kernel_rfl
      rw [← e]
      exact hmg0
    exact ⟨K, KX, hLaw KX G hmg c hg⟩
end LawX

set_option maxRecDepth 100000
set_option maxHeartbeats 400000
namespace LawX
open PySem PySem.Spec PyProof.Rows L2 Ev
def encK (ks : List Int) : List (D × D) := ks.map fun k => (.int k, .bool true)
def addK (ks : List Int) (u : Int) : List Int := if u ∈ ks then ks else ks ++ [u]
theorem m_put (ks : List Int) (u : Int) (h : ks.length ≤ 1000000) : semPut (.dict (encK ks)) (.int u) (.bool true) = some (.dict (encK (addK ks u))) := by
  have e : semPut (.dict (encK ks)) (.int u) (.bool true) = some (.dict (putL (encK ks) (.inl u) (.int u) (.bool true))) := by
    have hl : few (encK ks).length = true := by simpa [few, encK] using h
    cases ks with
    | nil => rfl
    | cons k r =>
      have hl' : few ((encK r).length + 1) = true := hl
      simp only [semPut, encK, List.map_cons, Ev.keyOf, Option.bind_some, List.length_cons]
      exact if_pos hl'
  rw [e]
  clear e
  have hany : ((encK ks).any fun p => decide (Ev.keyOf p.1 = some (.inl u))) = decide (u ∈ ks) := by
    induction ks with
    | nil => rfl
    | cons k r ih =>
      have hr := ih (by simp at h; omega)
      show (decide (Ev.keyOf (.int k) = some (.inl u)) || ((encK r).any fun p => decide (Ev.keyOf p.1 = some (.inl u)))) = _
      rw [hr]
      simp [Ev.keyOf, eq_comm]
  unfold putL addK
  rw [hany]
  by_cases hu : u ∈ ks
  · rw [if_pos (decide_eq_true hu), if_pos hu]
    congr 2
    unfold encK
    rw [List.map_map]
    refine List.map_congr_left fun k _ => ?_
    show (if Ev.keyOf (.int k) = some (.inl u) then (PyData.int k, PyData.bool true) else (PyData.int k, PyData.bool true)) = _
    split <;> rfl
  · rw [if_neg (by simpa using hu), if_neg hu]
    simp [encK]
theorem mem_addK {ks : List Int} {u x : Int} : x ∈ addK ks u ↔ x ∈ ks ∨ x = u := by
  unfold addK
  by_cases h : u ∈ ks
  · rw [if_pos h]
    exact ⟨.inl, fun z => z.elim id fun z => z ▸ h⟩
  · rw [if_neg h]
    simp
theorem nodup_addK {ks : List Int} {u : Int} (h : ks.Nodup) : (addK ks u).Nodup := by
  unfold addK
  by_cases hu : u ∈ ks
  · rwa [if_pos hu]
  · rw [if_neg hu]
    exact List.nodup_append.mpr ⟨h, by simp, fun a ha b hb => by simp at hb; exact fun z => hu (by rw [← hb, ← z]; exact ha)⟩
theorem len_addK {ks : List Int} {u : Int} : (addK ks u).length ≤ ks.length + 1 := by
  unfold addK
  split <;> simp
theorem runL_from {f : FS} {m : Nat} {gg : FG} {lo : Int} (n : Nat) (I : Nat → Er → Prop) (st : ∀ (j : Nat) (ρ : Er), I j ρ → j < n → ∃ ρ1 ρ2, gg (.int (lo + (j : Int))) ρ = some ρ1 ∧ f (ρ1.take m) = some (.nx ρ2) ∧ I (j + 1) ρ2) :
    ∀ (k s : Nat) (ρ : Er), s + k = n → I s ρ → ∃ ρ', runL m gg f ((List.range' s k).map fun (j : Nat) => .int (lo + (j : Int))) ρ = some (.nx ρ') ∧ I n ρ'
  | 0, s, ρ, h, q => ⟨ρ, rfl, by rw [← h]; exact q⟩
  | k + 1, s, ρ, h, q => by
    obtain ⟨ρ1, ρ2, e1, e2, q2⟩ := st s ρ q (by omega)
    obtain ⟨ρ', e, q'⟩ := runL_from n I st k (s + 1) ρ2 (by omega) q2
    refine ⟨ρ', ?_, q'⟩
    simp only [List.range'_succ, List.map_cons, runL, e1, e2, Option.bind_some]
    exact e
theorem runL_rng {f : FS} {m : Nat} {gg : FG} {lo : Int} (n : Nat) (I : Nat → Er → Prop) (ρ : Er) (h : I 0 ρ) (st : ∀ (j : Nat) (ρ : Er), I j ρ → j < n → ∃ ρ1 ρ2, gg (.int (lo + (j : Int))) ρ = some ρ1 ∧ f (ρ1.take m) = some (.nx ρ2) ∧ I (j + 1) ρ2) :
    ∃ ρ', runL m gg f (rngD lo n) ρ = some (.nx ρ') ∧ I n ρ' := by
  unfold rngD
  rw [List.range_eq_range']
  exact runL_from n I st n 0 ρ (by omega) h
theorem le_int (a b : Int) : PySem.W.dataLe false (fun d : D => d) (.int a) (.int b) = decide (a ≤ b) := by
  have h := congrFun (congrFun (PySem.W.dataLe_int (fun b : Int => b)) a) b
  exact h
theorem srt_ints (ks : List Int) : srt (ks.map .int) = (ks.mergeSort fun a b => decide (a ≤ b)).map .int :=
  (List.map_mergeSort fun a _ b _ => (le_int a b).symm).symm
theorem sort_set {ks ls : List Int} (h : ks.Nodup) (hm : ∀ x, x ∈ ks ↔ x ∈ ls) : (ks.mergeSort fun a b => decide (a ≤ b)) = sset ls := by
  refine sset_uniq ?_ fun x => (List.mem_mergeSort).trans (hm x)
  have p : (ks.mergeSort fun a b => decide (a ≤ b)).Pairwise fun a b => decide (a ≤ b) = true := List.pairwise_mergeSort (fun a b c h1 h2 => by simp at *; omega) (fun a b => by simp; omega) ks
  have n : (ks.mergeSort fun a b => decide (a ≤ b)).Nodup := (List.mergeSort_perm ks _).nodup_iff.mpr h
  refine (p.and n).imp fun h => ?_
  have := of_decide_eq_true h.1
  have := h.2
  omega
theorem sortOk_ints (ks : List Int) (h : ks.length ≤ 1000000) : sortOk (ks.map .int) = true := by
  have l := lay_list (ds := ks.map .int) fun x hx => by
    obtain ⟨k, _, rfl⟩ := List.mem_map.mp hx
    exact ⟨rfl, by simp [PyData.depth]⟩
  simp [sortOk, few, h, l.1, PySem.W.alike, noTup, PyData.depth]
theorem m_sort (ks ls : List Int) (hl : ks.length ≤ 1000000) (h : ks.Nodup) (hm : ∀ x, x ∈ ks ↔ x ∈ ls) : semSort [.list (ks.map .int)] = some (.list ((sset ls).map .int)) := by
  simp only [semSort, sortOk_ints ks hl, if_true, srt_ints, sort_set h hm]
theorem m_listD (ks : List Int) : semListD [.dict (encK ks)] = some (.list (ks.map .int)) := by
  cases ks with
  | nil => rfl
  | cons k r =>
    simp only [semListD, encK, List.map_cons, List.map_map]
    rfl
theorem sort_at {ds ds0 : List D} {x : D} (h : semSort ds0 = some x) (e : ds = ds0) : semSort ds = some x := e ▸ h
theorem listD_at {ds ds0 : List D} {x : D} (h : semListD ds0 = some x) (e : ds = ds0) : semListD ds = some x := e ▸ h
theorem rev_at {d d0 : D} {x : D} (h : semRevA d0 = some x) (e : d = d0) : semRevA d = some x := e ▸ h
theorem m_addL {a b : List D} (h : a.length + b.length ≤ 1000000) : semBin .Add (.list a) (.list b) = some (.list (a ++ b)) := if_pos h
theorem m_addL' {a b : List D} {d1 d2 : D} (h : a.length + b.length ≤ 1000000) (e1 : d1 = .list a) (e2 : d2 = .list b) : semBin .Add d1 d2 = some (.list (a ++ b)) := by
  subst e1 e2
  exact m_addL h
theorem v_sset {fe : FE} {p : Hd} {ρ ρ1 : Er} {ns : List Int} (h1 : fe ρ = some (p, ρ1)) (h2 : res p ρ1 = some (.list (ns.map .int))) (h3 : ns.length < 64) : fSortSet fe ρ = some (.l ρ1.length, ρ1 ++ [.own (.list ((sset ns).map .int))]) := by
  simp only [fSortSet, h1, h2, intsOf_map, Option.bind_some, h3, if_true, pushD]
theorem comp_none {vs : List Nat} {fg : FG} {ft' : FT} {fe : FE} {m : Nat} {ρ : Er} : ∀ {ds : List D}, (∀ x ∈ ds, ∃ ρ1 ρ2, fg x ρ = some ρ1 ∧ ft' ρ1 = some (false, ρ2) ∧ wipeR vs (ρ2.take (m + 1)) = some ρ) → compL vs fg ft' fe m ds ρ = some ρ
  | [], _ => rfl
  | x :: r, h => by
    obtain ⟨ρ1, ρ2, e1, e2, e3⟩ := h x List.mem_cons_self
    have ih := comp_none (vs := vs) (fg := fg) (ft' := ft') (fe := fe) (m := m) (ρ := ρ) (ds := r) fun y hy => h y (List.mem_cons_of_mem _ hy)
    simp only [compL, e1, e2, Option.bind_some, e3, ih]
    rfl
theorem m_neB {a b : Bool} : semC .NotEq (.bool a) (.bool b) = some (.bool (a != b)) := by
  have e : semC .NotEq (.bool a) (.bool b) = semNe (.bool a) (.bool b) := by unfold semC semCmp; rfl
  have s : ∀ c : Bool, SeqAt.shaped (.bool c) = true := fun c => by first | rfl | simp [SeqAt.shaped, PyData.canLay0, PyData.depth]
  rw [e]
  simp only [semNe, s, Bool.and_self, if_true]
  cases a <;> cases b <;> simp [PyData.eqv]
theorem v_lc {vs : List Nat} {fi : FI} {fg : FG} {ft' : FT} {fe : FE} {ρ ρ1 ρ2 ρ3 : Er} {ds : List D} (h1 : fi ρ = some (ds, ρ1)) (h2 : wipeR vs ρ1 = some ρ2) (h3 : compL vs fg ft' fe ρ2.length ds (ρ2 ++ [.own (.list [])]) = some ρ3) : fLc vs fi fg ft' fe ρ = some (.l ρ2.length, ρ3) := by
  simp only [fLc, h1, h2, h3, Option.bind_some, Option.map_some]
theorem comp_filter {vs : List Nat} {fg : FG} {ft' : FT} {fe : FE} {m : Nat} {S : List D → Er} (P : D → Bool) (y : D → D) : ∀ (ds acc : List D), acc.length + ds.length ≤ 1000000 →
    (∀ x ∈ ds, ∀ acc, ∃ ρ1 ρ2, fg x (S acc) = some ρ1 ∧ ft' ρ1 = some (P x, ρ2) ∧ (P x = false → wipeR vs (ρ2.take (m + 1)) = some (S acc)) ∧
      (P x = true → ∃ ρ3 ρ4, fz fe ρ2 = some (y x, ρ3) ∧ getO m ρ3 = some (.list acc) ∧ setO m (.list (acc ++ [y x])) ρ3 = some ρ4 ∧ wipeR vs (ρ4.take (m + 1)) = some (S (acc ++ [y x])))) →
    compL vs fg ft' fe m ds (S acc) = some (S (acc ++ (ds.filter P).map y))
  | [], acc, _, _ => by simp [compL]
  | x :: r, acc, hl, h => by
    obtain ⟨ρ1, ρ2, e1, e2, e3, e4⟩ := h x List.mem_cons_self acc
    rw [List.length_cons] at hl
    cases hp : P x with
    | false =>
      rw [hp] at e2
      have ih := comp_filter P y r acc (by omega) fun z hz => h z (List.mem_cons_of_mem _ hz)
      have e5 := e3 hp
      rw [List.filter_cons_of_neg (by simp [hp])]
      simp only [compL, e1, e2, Option.bind_some, e5]
      exact ih
    | true =>
      rw [hp] at e2
      obtain ⟨ρ3, ρ4, e5, e6, e7, e8⟩ := e4 hp
      have ih := comp_filter P y r (acc ++ [y x]) (by simp; omega) fun z hz => h z (List.mem_cons_of_mem _ hz)
      rw [List.filter_cons_of_pos hp, List.map_cons]
      have hf : few acc.length = true := by simp [few]; omega
      simp only [compL, e1, e2, Option.bind_some, if_true, e5, e6, hf, e7, e8]
      rw [ih, List.append_assoc]
      rfl
theorem m_eqB {a b : Bool} : semC .Eq (.bool a) (.bool b) = some (.bool (a == b)) := by
  have e : semC .Eq (.bool a) (.bool b) = semEq (.bool a) (.bool b) := by unfold semC semCmp; rfl
  have s : ∀ c : Bool, SeqAt.shaped (.bool c) = true := fun c => by first | rfl | simp [SeqAt.shaped, PyData.canLay0, PyData.depth]
  rw [e]
  simp only [semEq, s, Bool.and_self, if_true]
  cases a <;> cases b <;> simp [PyData.eqv]
theorem in_long {a : Int} (h : -4611686018427387904 ≤ a) (h2 : a ≤ 4611686018427387904) : inLong a = true := by
  simp [inLong]
  omega
theorem sum_list {vs : List Nat} {fg : FG} {ft' : FT} {fe : FE} {m : Nat} {ρ : Er} (y : D → Int) : ∀ (ds : List D) (a : Int), (∀ x ∈ ds, 0 ≤ y x ∧ y x ≤ 1000000) → 0 ≤ a → a + 1000000 * (ds.length : Int) ≤ 4611686018427387904 →
    (∀ x ∈ ds, ∃ ρ1 ρ2 ρ3, fg x ρ = some ρ1 ∧ ft' ρ1 = some (true, ρ2) ∧ fz fe ρ2 = some (.int (y x), ρ3) ∧ wipeR vs (ρ3.take m) = some ρ) →
    sumG vs fg ft' fe m a ds ρ = some (a + (ds.map y).sum, ρ)
  | [], a, _, _, _, _ => by simp [sumG]
  | x :: r, a, hb, h0, h1, h => by
    obtain ⟨ρ1, ρ2, ρ3, e1, e2, e3, e4⟩ := h x List.mem_cons_self
    obtain ⟨b0, b1⟩ := hb x List.mem_cons_self
    rw [List.length_cons] at h1
    have l1 : inLong (y x) = true := in_long (by omega) (by omega)
    have l2 : inLong (a + y x) = true := in_long (by omega) (by omega)
    have ih := sum_list (vs := vs) (fg := fg) (ft' := ft') (fe := fe) (m := m) (ρ := ρ) y r (a + y x) (fun z hz => hb z (List.mem_cons_of_mem _ hz)) (by omega) (by omega) fun z hz => h z (List.mem_cons_of_mem _ hz)
    simp only [sumG, e1, e2, e3, e4, Option.bind_some, if_true, l1, l2, Bool.and_self]
    rw [ih, List.map_cons, List.sum_cons, Int.add_assoc]
theorem v_sum {vs : List Nat} {fi : FI} {fg : FG} {ft' : FT} {fe : FE} {ρ ρ1 ρ2 ρ3 : Er} {ds : List D} {a : Int} (h1 : fi ρ = some (ds, ρ1)) (h2 : wipeR vs ρ1 = some ρ2) (h3 : sumG vs fg ft' fe ρ2.length 0 ds ρ2 = some (a, ρ3)) : fSum vs fi fg ft' fe ρ = some (.v (.int a), ρ3) := by
  simp only [fSum, h1, h2, h3, Option.bind_some, Option.map_some]
theorem runL_cons {f : FS} {m : Nat} {gg : FG} {d : D} {r : List D} {ρ ρ1 ρ2 : Er} {x : Rs} (h1 : gg d ρ = some ρ1) (h2 : f (ρ1.take m) = some (.nx ρ2)) (h3 : runL m gg f r ρ2 = some x) : runL m gg f (d :: r) ρ = some x := by
  simp only [runL, h1, h2, Option.bind_some]
  exact h3
theorem e_at {fe : FE} {ρ ρ0 : Er} {x : Hd × Er} (h : fe ρ0 = some x) (e : ρ = ρ0) : fe ρ = some x := e ▸ h
theorem wipe1 {ρ ρ' : Er} {i : Nat} {x : Sl} (h : ρ[i]? = some x) (hx : NI x) (e : ρ.set i .un = ρ') : wipeR [i] ρ = some ρ' := by
  subst e
  simp only [wipeR, Option.bind_some]
  rw [h]
  cases x with
  | io d => exact absurd rfl (hx d)
  | _ => rfl
theorem m_ge {a b : Int} : semC .GtE (.int a) (.int b) = some (.bool (decide (a ≥ b))) := by first | rfl | (unfold semC semCmp; rfl)
theorem loopG {τ : Type} {f : FS} {gg : FG} {m : Nat} (St : Int → Int → Er → Prop) (enc : τ → D) (y1 y2 : τ → Int) (Ok : τ → Prop) (step : ∀ (t : τ) (G T : Int) (ρ : Er), Ok t → St G T ρ → ∃ ρ1 ρ2, gg (enc t) ρ = some ρ1 ∧ f (ρ1.take m) = some (.nx ρ2) ∧ St (G + y1 t) (T + y2 t) ρ2) :
    ∀ (ts : List τ) (G T : Int) (ρ : Er), (∀ t ∈ ts, Ok t) → St G T ρ → ∃ ρ', runL m gg f (ts.map enc) ρ = some (.nx ρ') ∧ St (G + (ts.map y1).sum) (T + (ts.map y2).sum) ρ'
  | [], G, T, ρ, _, h => ⟨ρ, rfl, by simpa using h⟩
  | t :: r, G, T, ρ, ok, h => by
    obtain ⟨ρ1, ρ2, e1, e2, h2⟩ := step t G T ρ (ok t List.mem_cons_self) h
    obtain ⟨ρ', e, h'⟩ := loopG St enc y1 y2 Ok step r _ _ ρ2 (fun z hz => ok z (List.mem_cons_of_mem _ hz)) h2
    refine ⟨ρ', ?_, ?_⟩
    · simp only [List.map_cons, runL, e1, e2, Option.bind_some]
      exact e
    · simp only [List.map_cons, List.sum_cons]
      rw [← Int.add_assoc, ← Int.add_assoc]
      exact h'
theorem v_if1 {ga : FT} {f g : FS} {ρ ρ1 : Er} {n : Nat} {x : Rs} (h1 : ga ρ = some (false, ρ1)) (h2 : g (ρ1.take n) = some x) : sIf n ga f g ρ = some x := s_if h1 (.inr ⟨rfl, h2⟩)
theorem len_insU (k : Int) : ∀ l : List Int, (insU k l).length ≤ l.length + 1
  | [] => by simp [insU]
  | a :: r => by
    have := len_insU k r
    unfold insU
    split
    · simp
    · split <;> simp <;> omega
theorem len_sset : ∀ l : List Int, (sset l).length ≤ l.length
  | [] => by simp [sset]
  | a :: r => by
    have h1 := len_sset r
    have h2 := len_insU a (sset r)
    simp only [sset, List.length_cons]
    omega
theorem m_ixn {ds : List D} {d : D} (h0 : 0 < ds.length) (h : ds[ds.length - 1]? = some d) : semIx (.list ds) (.int (-1)) = some d := by
  show (ixN ds.length (-1)).bind _ = _
  have : ixN ds.length (-1) = some (ds.length - 1) := by
    simp [ixN]
    omega
  rw [this]
  exact h
theorem _root_.Ev.or_id {A B C D : Prop} (h : (A ∧ B) ∨ (C ∧ D)) : (A ∧ B) ∨ (C ∧ D) := h

end LawX

set_option maxRecDepth 100000
set_option maxHeartbeats 1000000
local macro_rules | `(tactic| array_get_dec) => `(tactic| ((with_reducible apply Ev.take_n); (focus ((dsimp only [List.take_succ_cons, List.take_zero, List.take_nil, List.set_cons_zero, List.set_cons_succ, List.nil_append, List.cons_append, List.length_cons, List.length_nil, Nat.reduceAdd]) <;> exact rfl))))
local macro_rules | `(tactic| array_get_dec) => `(tactic| ((with_reducible apply Ev.or_id); decreasing_trivial_pre_omega))
local macro_rules | `(tactic| array_get_dec) => `(tactic| (with_reducible apply Ev.i_enum))
local macro_rules | `(tactic| array_get_dec) => `(tactic| (with_reducible apply Ev.i_seq))
local macro_rules | `(tactic| array_get_dec) => `(tactic| (with_reducible apply Ev.i_rg2))
local macro_rules | `(tactic| array_get_dec) => `(tactic| (with_reducible apply Ev.i_rg1))
local macro_rules | `(tactic| array_get_dec) => `(tactic| (with_reducible apply Ev.s_for))
local macro_rules | `(tactic| array_get_dec) => `(tactic| (with_reducible apply Ev.t_or))
local macro_rules | `(tactic| array_get_dec) => `(tactic| (with_reducible apply Ev.t_and))
local macro_rules | `(tactic| array_get_dec) => `(tactic| (with_reducible apply Ev.t_not))
local macro_rules | `(tactic| array_get_dec) => `(tactic| (with_reducible apply Ev.t_ft))
local macro_rules | `(tactic| array_get_dec) => `(tactic| (with_reducible apply Ev.s_app))
local macro_rules | `(tactic| array_get_dec) => `(tactic| (with_reducible apply Ev.v_isi2))
local macro_rules | `(tactic| array_get_dec) => `(tactic| (with_reducible apply Ev.v_isi))
local macro_rules | `(tactic| array_get_dec) => `(tactic| (with_reducible apply Ev.g_cons))
local macro_rules | `(tactic| array_get_dec) => `(tactic| (with_reducible apply Ev.g_nil))
local macro_rules | `(tactic| array_get_dec) => `(tactic| (with_reducible apply Ev.v_all))
local macro_rules | `(tactic| array_get_dec) => `(tactic| (with_reducible apply Ev.v_chainT))
local macro_rules | `(tactic| array_get_dec) => `(tactic| (with_reducible apply Ev.v_not))
local macro_rules | `(tactic| array_get_dec) => `(tactic| (with_reducible apply Ev.v_sl))
local macro_rules | `(tactic| array_get_dec) => `(tactic| (with_reducible apply Ev.gs_nil))
local macro_rules | `(tactic| array_get_dec) => `(tactic| (with_reducible apply Ev.gs_cons))
local macro_rules | `(tactic| array_get_dec) => `(tactic| (with_reducible apply Ev.g_T))
local macro_rules | `(tactic| array_get_dec) => `(tactic| (with_reducible apply Ev.v_or))
local macro_rules | `(tactic| array_get_dec) => `(tactic| (with_reducible apply Ev.v_and))
local macro_rules | `(tactic| array_get_dec) => `(tactic| (with_reducible apply Ev.v_if))
local macro_rules | `(tactic| array_get_dec) => `(tactic| (with_reducible apply Ev.v_fz))
local macro_rules | `(tactic| array_get_dec) => `(tactic| (with_reducible apply Ev.v_cons))
local macro_rules | `(tactic| array_get_dec) => `(tactic| (with_reducible apply Ev.v_nil))
local macro_rules | `(tactic| array_get_dec) => `(tactic| (with_reducible apply Ev.v_lst))
local macro_rules | `(tactic| array_get_dec) => `(tactic| (with_reducible apply Ev.v_tup))
local macro_rules | `(tactic| array_get_dec) => `(tactic| (with_reducible apply Ev.v_new))
local macro_rules | `(tactic| array_get_dec) => `(tactic| (with_reducible apply Ev.v_call))
local macro_rules | `(tactic| array_get_dec) => `(tactic| (with_reducible apply Ev.v_un))
local macro_rules | `(tactic| array_get_dec) => `(tactic| (with_reducible apply Ev.v_bin))
local macro_rules | `(tactic| array_get_dec) => `(tactic| (with_reducible apply Ev.s_ret))
local macro_rules | `(tactic| array_get_dec) => `(tactic| (with_reducible apply Ev.s_exp))
local macro_rules | `(tactic| array_get_dec) => `(tactic| (with_reducible apply Ev.s_put))
local macro_rules | `(tactic| array_get_dec) => `(tactic| (with_reducible apply Ev.s_par))
local macro_rules | `(tactic| array_get_dec) => `(tactic| (with_reducible apply Ev.s_asg))
local macro_rules | `(tactic| array_get_dec) => `(tactic| (with_reducible apply Ev.s_set))
local macro_rules | `(tactic| array_get_dec) => `(tactic| (with_reducible apply Ev.s_if))
local macro_rules | `(tactic| array_get_dec) => `(tactic| (with_reducible apply Ev.s_seq))
local macro_rules | `(tactic| array_get_dec) => `(tactic| (with_reducible apply Ev.s_seqRet))
local macro_rules | `(tactic| array_get_dec) => `(tactic| (with_reducible apply Ev.s_seqIf))
local macro_rules | `(tactic| array_get_dec) => `(tactic| (with_reducible apply Ev.s_next))
local macro_rules | `(tactic| array_get_dec) => `(tactic| (with_reducible apply Ev.s_assoc))
local macro_rules | `(tactic| array_get_dec) => `(tactic| (with_reducible apply Ev.d_retX))
local macro_rules | `(tactic| array_mem_dec) => `(tactic| ((with_reducible apply Ev.m_mod); omega))
local macro_rules | `(tactic| array_mem_dec) => `(tactic| ((with_reducible apply Ev.m_div) <;> omega))
local macro_rules | `(tactic| array_mem_dec) => `(tactic| ((with_reducible apply Ev.m_mulr); (simp [Ev.smallI]; omega)))
local macro_rules | `(tactic| array_mem_dec) => `(tactic| ((with_reducible apply Ev.m_mull); (simp [Ev.smallI]; omega)))
local macro_rules | `(tactic| array_mem_dec) => `(tactic| ((with_reducible apply Ev.m_mull); rfl))
local macro_rules | `(tactic| array_mem_dec) => `(tactic| ((with_reducible apply Ev.m_mulr); rfl))
local macro_rules | `(tactic| array_mem_dec) => `(tactic| (rfl))
local macro_rules | `(tactic| array_mem_dec) => `(tactic| (with_reducible apply Ev.m_eq))
local macro_rules | `(tactic| array_mem_dec) => `(tactic| (with_reducible apply Ev.m_ne))
local macro_rules | `(tactic| sizeOf_list_dec) => `(tactic| (with_reducible apply Ev.v_allT))
local macro_rules | `(tactic| sizeOf_list_dec) => `(tactic| (with_reducible apply Ev.v_sumT))
local macro_rules | `(tactic| sizeOf_list_dec) => `(tactic| (with_reducible apply Ev.v_lcF))
local macro_rules | `(tactic| sizeOf_list_dec) => `(tactic| (with_reducible apply Ev.v_lcT))
local macro_rules | `(tactic| sizeOf_list_dec) => `(tactic| ((with_reducible apply Ev.gN_n); rfl; rfl; (focus ((dsimp only [List.take_succ_cons, List.take_zero, List.take_nil, List.set_cons_zero, List.set_cons_succ, List.nil_append, List.cons_append, List.length_cons, List.length_nil]) <;> exact rfl))))
local macro_rules | `(tactic| sizeOf_list_dec) => `(tactic| ((with_reducible apply Ev.wipe_un); rfl))
local macro_rules | `(tactic| sizeOf_list_dec) => `(tactic| ((with_reducible apply Ev.start_n); (focus ((dsimp only [Ev.startR, List.length_cons, List.length_nil, Nat.reduceAdd, Nat.reduceSub, List.reduceReplicate, List.cons_append, List.nil_append]) <;> exact rfl))))
local macro_rules | `(tactic| sizeOf_list_dec) => `(tactic| (with_reducible apply Ev.s_ifN))
local macro_rules | `(tactic| sizeOf_list_dec) => `(tactic| (with_reducible apply Ev.s_seqIfN))
local macro_rules | `(tactic| sizeOf_list_dec) => `(tactic| ((show List.length _ ≤ 1000000); ((simp only [List.length_cons, List.length_nil]) <;> omega)))
local macro_rules | `(tactic| decreasing_trivial_pre_omega) => `(tactic| (((with_reducible apply Or.inr); (with_reducible apply And.intro); (focus ((simp <;> omega); done)))))
local macro_rules | `(tactic| decreasing_trivial_pre_omega) => `(tactic| (((with_reducible apply Or.inl); (with_reducible apply And.intro); (focus ((simp <;> omega); done)))))
local macro_rules | `(tactic| decreasing_trivial_pre_omega) => `(tactic| (((with_reducible apply Or.inr); (with_reducible apply And.intro); (focus (rfl; done)))))
local macro_rules | `(tactic| decreasing_trivial_pre_omega) => `(tactic| (((with_reducible apply Or.inl); (with_reducible apply And.intro); (focus (rfl; done)))))
local macro_rules | `(tactic| decreasing_trivial_pre_omega) => `(tactic| (((with_reducible apply Or.inr); (with_reducible apply And.intro); (focus ((apply decide_eq_false; omega); done)))))
local macro_rules | `(tactic| decreasing_trivial_pre_omega) => `(tactic| (((with_reducible apply Or.inl); (with_reducible apply And.intro); (focus ((apply decide_eq_true; omega); done)))))
local macro_rules | `(tactic| decreasing_trivial_pre_omega) => `(tactic| (((with_reducible apply Or.inr); (with_reducible apply And.intro); (focus (with_reducible assumption; done)))))
local macro_rules | `(tactic| decreasing_trivial_pre_omega) => `(tactic| (((with_reducible apply Or.inl); (with_reducible apply And.intro); (focus (with_reducible assumption; done)))))
local macro_rules | `(tactic| decreasing_trivial_pre_omega) => `(tactic| (((with_reducible apply Or.inr); (with_reducible apply And.intro); (focus (with_reducible rfl; done)))))
local macro_rules | `(tactic| decreasing_trivial_pre_omega) => `(tactic| (((with_reducible apply Or.inl); (with_reducible apply And.intro); (focus (with_reducible rfl; done)))))
local macro_rules | `(tactic| exists (by $ts)) => `(tactic| fail)
local macro_rules | `(tactic| exists (by $ts)) => `(tactic| ($ts))
namespace LawX
open PySem PySem.Spec PyProof.Rows L2 Ev
def encR (cells : List Int) (k : Nat) (s d : Int) : D := .list [.list (cells.map .int), .int k, .int s, .int d]
theorem taken (cells : List Int) (k : Nat) (s d m : Int) (hm : 0 < m) (hm2 : m < 1073741824) : ∃ r k' s' d', 0 ≤ r ∧ r < m ∧ F__law_taken.g [encR cells k s d, .int m] = some (.int r, [encR cells k' s' d', .none]) := by
  have hr : ∀ x : Int, 0 ≤ x % m ∧ x % m < m := fun x => ⟨Int.emod_nonneg _ (by omega), Int.emod_lt_of_pos _ hm⟩
  unfold F__law_taken fb__law_taken
  simp only [encR]
  by_cases h1 : 0 < d
  · refine ⟨d % m, k, s, d / m, (hr d).1, (hr d).2, ?_⟩
    repeat (first | array_get_dec | array_mem_dec)
  · by_cases h2 : cells.length < k + 1
    · refine ⟨(s * 48271 + 11) % 2147483647 / 7 % m, k + 1, (s * 48271 + 11) % 2147483647, d, (hr _).1, (hr _).2, ?_⟩
      repeat (first | array_get_dec | exists (by first | (simp only [List.length_map])) | array_mem_dec)
    · obtain ⟨z, e⟩ : ∃ z, cells[k]? = some z := ⟨cells[k]'(by omega), List.getElem?_eq_getElem _⟩
      by_cases h3 : 1000000000000000000 ≤ z
      · refine ⟨z % m, k + 1, (s * 48271 + z + 11) % 2147483647, z / m, (hr _).1, (hr _).2, ?_⟩
        repeat (first | array_get_dec | exists (by first | (simp only [List.length_map]) | (apply m_ix (k := k) (by omega) (by omega); rw [List.getElem?_map, e]; rfl)) | array_mem_dec)
      · refine ⟨z % m, k + 1, (s * 48271 + z + 11) % 2147483647, d, (hr _).1, (hr _).2, ?_⟩
        repeat (first | array_get_dec | exists (by first | (simp only [List.length_map]) | (apply m_ix (k := k) (by omega) (by omega); rw [List.getElem?_map, e]; rfl)) | array_mem_dec)
theorem pick (cells : List Int) (k : Nat) (s d : Int) (xs : List D) (h0 : 0 < xs.length) (h1 : xs.length < 1073741824) : ∃ (i k' : Nat) (s' d' : Int) (y : D), xs[i]? = some y ∧ F__law_pick.g [encR cells k s d, .list xs] = some (y, [encR cells k' s' d', .none]) := by
  obtain ⟨r, k', s', d', r0, r1, e⟩ := taken cells k s d xs.length (by omega) (by omega)
  obtain ⟨y, ey⟩ : ∃ y, xs[r.toNat]? = some y := ⟨xs[r.toNat]'(by omega), List.getElem?_eq_getElem _⟩
  refine ⟨r.toNat, k', s', d', y, ey, ?_⟩
  unfold F__law_pick fb__law_pick
  dsimp only
  repeat (first | array_get_dec | exists (by first | (exact v_fn rfl rfl rfl e rfl) | (exact m_ix r0 rfl ey)) | array_mem_dec)
def encS (t : Int × Int × Int) : D := .tuple [.int t.1, .int t.2.1, .int t.2.2]
def encB (t : Int × Int) : D := .tuple [.int t.1, .int t.2]
def OkS (t : Int × Int × Int) : Prop := 0 ≤ t.1 ∧ t.1 ≤ 1000 ∧ 0 ≤ t.2.1 ∧ t.2.1 ≤ 1000 ∧ t.1 ≠ t.2.1 ∧ 1 ≤ t.2.2 ∧ t.2.2 ≤ 100
def OkB (t : Int × Int) : Prop := 0 ≤ t.1 ∧ t.1 ≤ 1000 ∧ t.2 ≠ 0 ∧ -10000 ≤ t.2 ∧ t.2 ≤ 10000
theorem pickI (cells : List Int) (k : Nat) (s d : Int) (xs : List Int) (h0 : 0 < xs.length) (h1 : xs.length < 1073741824) : ∃ (k' : Nat) (s' d' : Int) (y : Int), y ∈ xs ∧ F__law_pick.g [encR cells k s d, .list (xs.map .int)] = some (.int y, [encR cells k' s' d', .none]) := by
  obtain ⟨i, k', s', d', y, e1, e2⟩ := pick cells k s d (xs.map .int) (by simpa using h0) (by simpa using h1)
  rw [List.getElem?_map] at e1
  obtain ⟨z, e3, e4⟩ := Option.map_eq_some_iff.mp e1
  subst e4
  exact ⟨k', s', d', z, List.mem_of_getElem? e3, e2⟩

end LawX

set_option maxRecDepth 100000
set_option maxHeartbeats 1000000
namespace LawX
open PySem PySem.Spec PyProof.Rows L2 Ev
def I1 (cells : List Int) (sc : Int) (j : Nat) (ρ : Er) : Prop := ∃ (k : Nat) (s d : Int) (ss : List (Int × Int × Int)) (x4 x5 x6 : Sl), ρ = [.io (encR cells k s d), .own (.list (ss.map encS)), .own (.list []), .val (.int sc), x4, x5, x6, .un] ∧ NI x4 ∧ NI x5 ∧ NI x6 ∧ ss.length = j ∧ ∀ t ∈ ss, OkS t
theorem step1 (cells : List Int) (sc : Int) (hsc : sc = 1 ∨ sc = 10 ∨ sc = 50) (j : Nat) (hj : j ≤ 10) (ρ : Er) (i : Int) (h : I1 cells sc j ρ) : ∃ ρ1 ρ2, gN 4 (.int i) ρ = some ρ1 ∧ lb__law_problem_1 (ρ1.take 8) = some (.nx ρ2) ∧ I1 cells sc (j + 1) ρ2 := by
  obtain ⟨k, s, d, ss, x4, x5, x6, rfl, n4, n5, n6, hl, ok⟩ := h
  obtain ⟨a, k1, s1, d1, a0, a1, e1⟩ := taken cells k s d 20 (by omega) (by omega)
  obtain ⟨b, k2, s2, d2, b0, b1, e2⟩ := taken cells k1 s1 d1 20 (by omega) (by omega)
  obtain ⟨k3, s3, d3, m, hm, e3⟩ := pickI cells k2 s2 d2 [3, 10, 100] (by decide) (by decide)
  have hm : 1 ≤ m ∧ m ≤ 100 := by simp at hm; omega
  obtain ⟨r, k4, s4, d4, r0, r1, e4⟩ := taken cells k3 s3 d3 m (by omega) (by omega)
  by_cases hab : sc * b = sc * a
  · apply stp (ρ3 := [.io (encR cells k4 s4 d4), .own (.list ((ss ++ [(sc * a, sc * a + sc, 1 + r)]).map encS)), .own (.list []), .val (.int sc), .val (.int i), .val (.int (sc * a)), .val (.int (sc * b)), .un]) (stV_ni rfl n4)
    · unfold lb__law_problem_1
      repeat (first | array_get_dec | exists (by first | ((with_reducible apply stH_ni (hx := n5)); rfl) | ((with_reducible apply stH_ni (hx := n6)); rfl) | ((with_reducible apply m_app); (simp; omega)) | ((with_reducible apply v_at (e1)); rfl) | ((with_reducible apply v_at (e2)); rfl) | ((with_reducible apply v_at (e3)); rfl) | ((with_reducible apply v_at (e4)); rfl) | (with_reducible apply v_fn)) | array_mem_dec)
    · simp only [List.map_append]; rfl
    · refine ⟨k4, s4, d4, _, _, _, _, rfl, ni_val, ni_val, ni_val, by simp [hl], fun t ht => ?_⟩
      rcases List.mem_append.mp ht with ht | ht
      · exact ok t ht
      · simp at ht
        subst ht
        rcases hsc with rfl | rfl | rfl <;> simp only [OkS] <;> omega
  · apply stp (ρ3 := [.io (encR cells k4 s4 d4), .own (.list ((ss ++ [(sc * a, sc * b, 1 + r)]).map encS)), .own (.list []), .val (.int sc), .val (.int i), .val (.int (sc * a)), .val (.int (sc * b)), .un]) (stV_ni rfl n4)
    · unfold lb__law_problem_1
      repeat (first | array_get_dec | exists (by first | ((with_reducible apply stH_ni (hx := n5)); rfl) | ((with_reducible apply stH_ni (hx := n6)); rfl) | ((with_reducible apply m_app); (simp; omega)) | ((with_reducible apply v_at (e1)); rfl) | ((with_reducible apply v_at (e2)); rfl) | ((with_reducible apply v_at (e3)); rfl) | ((with_reducible apply v_at (e4)); rfl) | (with_reducible apply v_fn)) | array_mem_dec)
    · simp only [List.map_append]; rfl
    · refine ⟨k4, s4, d4, _, _, _, _, rfl, ni_val, ni_val, ni_val, by simp [hl], fun t ht => ?_⟩
      rcases List.mem_append.mp ht with ht | ht
      · exact ok t ht
      · simp at ht
        subst ht
        rcases hsc with rfl | rfl | rfl <;> simp only [OkS] <;> omega

end LawX

set_option maxRecDepth 100000
set_option maxHeartbeats 1000000
namespace LawX
open PySem PySem.Spec PyProof.Rows L2 Ev
def I2 (cells : List Int) (sc : Int) (ss : List (Int × Int × Int)) (j : Nat) (ρ : Er) : Prop := ∃ (k : Nat) (s d : Int) (bs : List (Int × Int)) (x4 x5 x6 x7 : Sl), ρ = [.io (encR cells k s d), .own (.list (ss.map encS)), .own (.list (bs.map encB)), .val (.int sc), x4, x5, x6, x7] ∧ NI x4 ∧ NI x5 ∧ NI x6 ∧ NI x7 ∧ bs.length = j ∧ ∀ t ∈ bs, OkB t
theorem step2 (cells : List Int) (sc : Int) (hsc : sc = 1 ∨ sc = 10 ∨ sc = 50) (ss : List (Int × Int × Int)) (j : Nat) (hj : j ≤ 10) (ρ : Er) (i : Int) (h : I2 cells sc ss j ρ) : ∃ ρ1 ρ2, gN 4 (.int i) ρ = some ρ1 ∧ lb__law_problem_2 (ρ1.take 8) = some (.nx ρ2) ∧ I2 cells sc ss (j + 1) ρ2 := by
  obtain ⟨k, s, d, bs, x4, x5, x6, x7, rfl, n4, n5, n6, n7, hl, ok⟩ := h
  obtain ⟨r, k1, s1, d1, r0, r1, e1⟩ := taken cells k s d 500 (by omega) (by omega)
  obtain ⟨k2, s2, d2, m, hm, e2⟩ := pickI cells k1 s1 d1 [1, 20, 100, 10000, 1 + r] (by simp) (by simp)
  have hm : 1 ≤ m ∧ m ≤ 10000 := by simp at hm; omega
  obtain ⟨a, k3, s3, d3, a0, a1, e3⟩ := taken cells k2 s2 d2 20 (by omega) (by omega)
  obtain ⟨b, k4, s4, d4, b0, b1, e4⟩ := taken cells k3 s3 d3 2 (by omega) (by omega)
  by_cases hab : b = 0
  · apply stp (ρ3 := [.io (encR cells k4 s4 d4), .own (.list (ss.map encS)), .own (.list ((bs ++ [(sc * a, m)]).map encB)), .val (.int sc), .val (.int i), x5, x6, .val (.int m)]) (stV_ni rfl n4)
    · unfold lb__law_problem_2
      repeat (first | array_get_dec | exists (by first | ((with_reducible apply stH_ni (hx := n7)); rfl) | ((with_reducible apply m_app); (simp; omega)) | ((with_reducible apply v_at (e1)); rfl) | ((with_reducible apply v_at (e2)); rfl) | ((with_reducible apply v_at (e3)); rfl) | ((with_reducible apply v_at (e4)); rfl) | (with_reducible apply v_fn)) | array_mem_dec)
    · simp only [List.map_append]; rfl
    · refine ⟨k4, s4, d4, _, _, _, _, _, rfl, ni_val, n5, n6, ni_val, by simp [hl], fun t ht => ?_⟩
      rcases List.mem_append.mp ht with ht | ht
      · exact ok t ht
      · simp at ht
        subst ht
        rcases hsc with rfl | rfl | rfl <;> simp only [OkB] <;> omega
  · apply stp (ρ3 := [.io (encR cells k4 s4 d4), .own (.list (ss.map encS)), .own (.list ((bs ++ [(sc * a, 0 - m)]).map encB)), .val (.int sc), .val (.int i), x5, x6, .val (.int m)]) (stV_ni rfl n4)
    · unfold lb__law_problem_2
      repeat (first | array_get_dec | exists (by first | ((with_reducible apply stH_ni (hx := n7)); rfl) | ((with_reducible apply m_app); (simp; omega)) | ((with_reducible apply v_at (e1)); rfl) | ((with_reducible apply v_at (e2)); rfl) | ((with_reducible apply v_at (e3)); rfl) | ((with_reducible apply v_at (e4)); rfl) | (with_reducible apply v_fn)) | array_mem_dec)
    · simp only [List.map_append]; rfl
    · refine ⟨k4, s4, d4, _, _, _, _, _, rfl, ni_val, n5, n6, ni_val, by simp [hl], fun t ht => ?_⟩
      rcases List.mem_append.mp ht with ht | ht
      · exact ok t ht
      · simp at ht
        subst ht
        rcases hsc with rfl | rfl | rfl <;> simp only [OkB] <;> omega

end LawX

set_option maxRecDepth 100000
set_option maxHeartbeats 1000000
namespace LawX
open PySem PySem.Spec PyProof.Rows L2 Ev
def encP (ss : List (Int × Int × Int)) (bs : List (Int × Int)) (g : Int) : D := .tuple [.tuple (ss.map encS), .tuple (bs.map encB), .int g]
structure OkP (ss : List (Int × Int × Int)) (bs : List (Int × Int)) (g : Int) : Prop where
  s : ∀ t ∈ ss, OkS t
  b : ∀ t ∈ bs, OkB t
  sl : ss.length ≤ 6
  bl : bs.length ≤ 4
  g0 : 0 ≤ g
  g1 : g ≤ 100
  ne : 0 < ss.length + bs.length
theorem layS (ss : List (Int × Int × Int)) : ∀ x ∈ ss.map encS, x.canLay0 = true ∧ x.depth ≤ 5 := fun x h => by
  obtain ⟨t, _, rfl⟩ := List.mem_map.mp h
  simp [encS, PyData.canLay0, PyData.canLayAll0, PyData.depth, PyData.depthAll]
theorem layB (ss : List (Int × Int)) : ∀ x ∈ ss.map encB, x.canLay0 = true ∧ x.depth ≤ 5 := fun x h => by
  obtain ⟨t, _, rfl⟩ := List.mem_map.mp h
  simp [encB, PyData.canLay0, PyData.canLayAll0, PyData.depth, PyData.depthAll]
theorem problem2 (cells : List Int) (k : Nat) (s d : Int) : ∃ (ss : List (Int × Int × Int)) (bs : List (Int × Int)) (g : Int) (k' : Nat) (s' d' : Int), OkP ss bs g ∧ ss.length ≤ 4 ∧ bs.length ≤ 2 ∧ F__law_problem.g [encR cells k s d] = some (encP ss bs g, [encR cells k' s' d']) := by
  obtain ⟨k1, s1, d1, sc, hsc, e0⟩ := pickI cells k s d [1, 10, 10, 50] (by simp) (by simp)
  have hsc : sc = 1 ∨ sc = 10 ∨ sc = 50 := by simp at hsc; omega
  obtain ⟨n1, k2, s2, d2, n0, n1', e1⟩ := taken cells k1 s1 d1 5 (by omega) (by omega)
  obtain ⟨ρ1, l1, k3, s3, d3, ss, x4, x5, x6, rfl, m4, m5, m6, hl, ok⟩ := runL_inv2 (f := lb__law_problem_1) (gg := gN 4) (m := 8) 5 (I1 cells sc) (rngD 0 n1.toNat) 0 [.io (encR cells k2 s2 d2), .own (.list []), .own (.list []), .val (.int sc), .un, .un, .un, .un] (by rw [rng_len]; omega) ⟨k2, s2, d2, [], _, _, _, rfl, ni_un, ni_un, ni_un, rfl, fun _ h => nomatch h⟩ (fun x j ρ h hx hj => by
    obtain ⟨i, _, rfl⟩ := rng_int hx
    exact step1 cells sc hsc j (by omega) ρ _ h)
  rw [rng_len] at hl
  obtain ⟨k4, s4, d4, n2, hn2, e2⟩ := pickI cells k3 s3 d3 [0, 0, 1, 2] (by simp) (by simp)
  have hn2 : 0 ≤ n2 ∧ n2 ≤ 2 := by simp at hn2; omega
  obtain ⟨ρ2, l2, k5, s5, d5, bs, y4, y5, y6, y7, rfl, m4', m5', m6', m7', hl2, ok2⟩ := runL_inv2 (f := lb__law_problem_2) (gg := gN 4) (m := 8) 5 (I2 cells sc ss) (rngD 0 n2.toNat) 0 [.io (encR cells k4 s4 d4), .own (.list (ss.map encS)), .own (.list []), .val (.int sc), x4, x5, x6, .un] (by rw [rng_len]; omega) ⟨k4, s4, d4, [], _, _, _, _, rfl, m4, m5, m6, ni_un, rfl, fun _ h => nomatch h⟩ (fun x j ρ h hx hj => by
    obtain ⟨i, _, rfl⟩ := rng_int hx
    exact step2 cells sc hsc ss j (by omega) ρ _ h)
  rw [rng_len] at hl2
  obtain ⟨r, k6, s6, d6, r0, r1, e3⟩ := taken cells k5 s5 d5 30 (by omega) (by omega)
  obtain ⟨k7, s7, d7, g, hg, e4⟩ := pickI cells k6 s6 d6 [0, sc, sc, 2 * sc, r] (by simp) (by simp)
  have hg : 0 ≤ g ∧ g ≤ 100 := by simp at hg; omega
  by_cases hne : 0 < ss.length + bs.length
  · refine ⟨ss, bs, g, k7, s7, d7, ⟨ok, ok2, by omega, by omega, hg.1, hg.2, hne⟩, by omega, by omega, ?_⟩
    unfold F__law_problem fb__law_problem encP
    dsimp only
    by_cases h1 : ss = []
    · have h2 : (bs.map encB).isEmpty = false := by cases bs with
        | nil => subst h1; simp at hne
        | cons _ _ => rfl
      have h1' : (ss.map encS).isEmpty = true := by subst h1; rfl
      repeat (first | array_get_dec | exists (by first | ((with_reducible apply m_eqNil); first | exact layS _ | exact layB _) | ((with_reducible apply m_bnd) <;> omega) | ((with_reducible apply l_at (l1)); rfl) | ((with_reducible apply l_at (l2)); rfl) | ((with_reducible apply v_at (e0)); rfl) | ((with_reducible apply v_at (e1)); rfl) | ((with_reducible apply v_at (e2)); rfl) | ((with_reducible apply v_at (e3)); rfl) | ((with_reducible apply v_at (e4)); rfl) | (with_reducible apply v_fn)) | array_mem_dec)
    · have h1' : (ss.map encS).isEmpty = false := by cases ss with
        | nil => exact absurd rfl h1
        | cons _ _ => rfl
      repeat (first | array_get_dec | exists (by first | ((with_reducible apply m_eqNil); first | exact layS _ | exact layB _) | ((with_reducible apply m_bnd) <;> omega) | ((with_reducible apply l_at (l1)); rfl) | ((with_reducible apply l_at (l2)); rfl) | ((with_reducible apply v_at (e0)); rfl) | ((with_reducible apply v_at (e1)); rfl) | ((with_reducible apply v_at (e2)); rfl) | ((with_reducible apply v_at (e3)); rfl) | ((with_reducible apply v_at (e4)); rfl) | (with_reducible apply v_fn)) | array_mem_dec)
  · have h1 : ss = [] := List.length_eq_zero_iff.mp (by omega)
    have h2 : bs = [] := List.length_eq_zero_iff.mp (by omega)
    refine ⟨[(0, sc, 1)], [], g, k7, s7, d7, ⟨fun t ht => ?_, fun _ h => (nomatch h), by simp, by simp, hg.1, hg.2, by simp⟩, by simp, by simp, ?_⟩
    · simp at ht
      subst ht
      simp only [OkS]
      omega
    · subst h1 h2
      unfold F__law_problem fb__law_problem encP
      dsimp only
      repeat (first | array_get_dec | exists (by first | ((with_reducible apply m_eqNil); first | exact layS _ | exact layB _) | ((with_reducible apply m_bnd) <;> omega) | ((with_reducible apply l_at (l1)); rfl) | ((with_reducible apply l_at (l2)); rfl) | ((with_reducible apply v_at (e0)); rfl) | ((with_reducible apply v_at (e1)); rfl) | ((with_reducible apply v_at (e2)); rfl) | ((with_reducible apply v_at (e3)); rfl) | ((with_reducible apply v_at (e4)); rfl) | (with_reducible apply v_fn)) | array_mem_dec)
theorem problem (cells : List Int) (k : Nat) (s d : Int) : ∃ (ss : List (Int × Int × Int)) (bs : List (Int × Int)) (g : Int) (k' : Nat) (s' d' : Int), OkP ss bs g ∧ F__law_problem.g [encR cells k s d] = some (encP ss bs g, [encR cells k' s' d']) := by
  obtain ⟨ss, bs, g, k', s', d', ok, _, _, e⟩ := problem2 cells k s d
  exact ⟨ss, bs, g, k', s', d', ok, e⟩

end LawX

set_option maxRecDepth 100000
set_option maxHeartbeats 1000000
namespace LawX
open PySem PySem.Spec PyProof.Rows L2 Ev
theorem isIn (v a b : Int) (h1 : a ≤ v) (h2 : v ≤ b) : F_is_in.g [.int v, .int a, .int b] = some (.bool true, [.none, .none, .none]) := by
  have e : F_is_in.g [.int v, .int a, .int b] = some (.bool (decide (v ≤ b)), [.none, .none, .none]) := by
    unfold F_is_in fb_is_in
    dsimp only
    repeat (first | array_get_dec | exists (by first | (apply decide_eq_true; omega)) | array_mem_dec)
  rw [e, decide_eq_true h2]
theorem isStream (t : Int × Int × Int) (h : OkS t) : F_is_stream.g [encS t] = some (.bool true, [.none]) := by
  obtain ⟨a, b, r⟩ := t
  simp only [OkS] at h
  have i1 := isIn r 1 100 (by omega) (by omega)
  have i2 := isIn a 0 1000 (by omega) (by omega)
  have i3 := isIn b 0 1000 (by omega) (by omega)
  have e : F_is_stream.g [encS (a, b, r)] = some (.bool (decide (a ≠ b)), [.none]) := by
    have c1 : semSl (.tuple [.int a, .int b, .int r]) none (some 2) = some (.tuple [.int a, .int b]) := rfl
    unfold F_is_stream fb_is_stream encS
    dsimp only
    repeat (first | array_get_dec | exists (by first | ((with_reducible apply v_at (i1)); rfl) | ((with_reducible apply v_at (i2)); rfl) | ((with_reducible apply v_at (i3)); rfl) | (exact c1) | (with_reducible apply v_fn)) | array_mem_dec)
  rw [e, decide_eq_true h.2.2.2.2.1]
theorem isBox (t : Int × Int) (h : OkB t) : F_is_box.g [encB t] = some (.bool true, [.none]) := by
  obtain ⟨a, b⟩ := t
  simp only [OkB] at h
  have i1 := isIn a 0 1000 (by omega) (by omega)
  have i2 := isIn b (0 - 10000) 10000 (by omega) (by omega)
  have e : F_is_box.g [encB (a, b)] = some (.bool (decide (b ≠ 0)), [.none]) := by
    unfold F_is_box fb_is_box encB
    dsimp only
    repeat (first | array_get_dec | exists (by first | ((with_reducible apply v_at (i1)); rfl) | ((with_reducible apply v_at (i2)); rfl) | (with_reducible apply v_fn)) | array_mem_dec)
  rw [e, decide_eq_true h.2.2.1]
theorem needProblem (ss : List (Int × Int × Int)) (bs : List (Int × Int)) (g : Int) (h : OkP ss bs g) : F_need_problem.g [encP ss bs g] = some (.none, [.none]) := by
  have hs := h.sl
  have hb := h.bl
  have ig := isIn g 0 100 h.g0 h.g1
  let J : Nat → Er → Prop := fun _ ρ => ∃ x4 x5 : Sl, ρ = [.val (encP ss bs g), .val (.tuple (ss.map encS)), .val (.tuple (bs.map encB)), .val (.int g), x4, x5] ∧ NI x4 ∧ NI x5
  obtain ⟨ρ1, l1, x4, x5, rfl, n4, n5⟩ := runL_inv2 (f := lb_need_problem_1) (gg := gT (gsCons (gN 4) (gsCons (gN 5) gsNil)) 2) (m := 6) 6 J (enumD (ss.map encS)) 0 [.val (encP ss bs g), .val (.tuple (ss.map encS)), .val (.tuple (bs.map encB)), .val (.int g), .un, .un] (by rw [enum_len]; simpa using hs) ⟨_, _, rfl, ni_un, ni_un⟩ (fun x j ρ hJ hx hj => by
    obtain ⟨x4, x5, rfl, n4, n5⟩ := hJ
    obtain ⟨i, d, hd, rfl⟩ := enum_mem hx
    obtain ⟨t, ht, rfl⟩ := List.mem_map.mp hd
    have e1 := isStream t (h.s t ht)
    refine ⟨[.val (encP ss bs g), .val (.tuple (ss.map encS)), .val (.tuple (bs.map encB)), .val (.int g), .val (.int i), .val (encS t)], [.val (encP ss bs g), .val (.tuple (ss.map encS)), .val (.tuple (bs.map encB)), .val (.int g), .val (.int i), .val (encS t)], ?_, ?_, ⟨_, _, rfl, ni_val, ni_val⟩⟩
    · repeat (first | array_get_dec | exists (by first | ((with_reducible apply gN_ni (hx := n4)); rfl) | ((with_reducible apply gN_ni (hx := n5)); rfl)) | array_mem_dec)
    · unfold lb_need_problem_1
      repeat (first | array_get_dec | exists (by first | ((with_reducible apply v_at (e1)); rfl) | (with_reducible apply v_fn)) | array_mem_dec))
  obtain ⟨ρ2, l2, y4, y5, rfl, m4, m5⟩ := runL_inv2 (f := lb_need_problem_2) (gg := gT (gsCons (gN 4) (gsCons (gN 5) gsNil)) 2) (m := 6) 6 J (enumD (bs.map encB)) 0 [.val (encP ss bs g), .val (.tuple (ss.map encS)), .val (.tuple (bs.map encB)), .val (.int g), x4, x5] (by rw [enum_len]; simp; omega) ⟨_, _, rfl, n4, n5⟩ (fun x j ρ hJ hx hj => by
    obtain ⟨x4, x5, rfl, n4, n5⟩ := hJ
    obtain ⟨i, d, hd, rfl⟩ := enum_mem hx
    obtain ⟨t, ht, rfl⟩ := List.mem_map.mp hd
    have e1 := isBox t (h.b t ht)
    refine ⟨[.val (encP ss bs g), .val (.tuple (ss.map encS)), .val (.tuple (bs.map encB)), .val (.int g), .val (.int i), .val (encB t)], [.val (encP ss bs g), .val (.tuple (ss.map encS)), .val (.tuple (bs.map encB)), .val (.int g), .val (.int i), .val (encB t)], ?_, ?_, ⟨_, _, rfl, ni_val, ni_val⟩⟩
    · repeat (first | array_get_dec | exists (by first | ((with_reducible apply gN_ni (hx := n4)); rfl) | ((with_reducible apply gN_ni (hx := n5)); rfl)) | array_mem_dec)
    · unfold lb_need_problem_2
      repeat (first | array_get_dec | exists (by first | ((with_reducible apply v_at (e1)); rfl) | (with_reducible apply v_fn)) | array_mem_dec))
  unfold F_need_problem fb_need_problem
  dsimp only
  by_cases h1 : ss = []
  · have h2 : (bs.map encB).isEmpty = false := by cases bs with
      | nil => subst h1; exact absurd h.ne (by simp)
      | cons _ _ => rfl
    have h1' : (ss.map encS).isEmpty = true := by subst h1; rfl
    apply d_nxX
    repeat (first | array_get_dec | exists (by first | ((with_reducible apply l_at (l1)); rfl) | ((with_reducible apply l_at (l2)); rfl) | ((with_reducible apply v_at (ig)); rfl) | ((with_reducible apply Or.inl); (with_reducible apply And.intro); (focus (simp [h1', h2]; done))) | ((with_reducible apply Or.inr); (with_reducible apply And.intro); (focus (simp [h1', h2]; done))) | (with_reducible apply v_fn)) | array_mem_dec)
  · have h1' : (ss.map encS).isEmpty = false := by cases ss with
      | nil => exact absurd rfl h1
      | cons _ _ => rfl
    apply d_nxX
    repeat (first | array_get_dec | exists (by first | ((with_reducible apply l_at (l1)); rfl) | ((with_reducible apply l_at (l2)); rfl) | ((with_reducible apply v_at (ig)); rfl) | ((with_reducible apply Or.inl); (with_reducible apply And.intro); (focus (simp [h1']; done))) | ((with_reducible apply Or.inr); (with_reducible apply And.intro); (focus (simp [h1']; done))) | (with_reducible apply v_fn)) | array_mem_dec)

end LawX

set_option maxRecDepth 100000
set_option maxHeartbeats 1000000
namespace LawX
open PySem PySem.Spec PyProof.Rows L2 Ev
structure Sp5 where
  gv : Bool
  u : Int
  l : Int
  r : Int
  q : Int
def spS (g : Int) (t : Int × Int × Int) : Sp5 := ⟨decide (t.2.1 < t.1), (if t.2.1 > t.1 then t.2.1 else t.1) - (if t.2.1 < t.1 then g else 0), (if t.2.1 < t.1 then t.2.1 else t.1) - (if t.2.1 < t.1 then g else 0), t.2.2, 0⟩
def spB (g : Int) (t : Int × Int) : Sp5 := ⟨decide (0 < t.2), t.1 - (if 0 < t.2 then g else 0), t.1 - (if 0 < t.2 then g else 0), 0, if t.2 < 0 then -t.2 else t.2⟩
theorem giver1 (ss : List (Int × Int × Int)) (bs : List (Int × Int)) (g : Int) (i : Nat) (a b r : Int) (e : ss[i]? = some (a, b, r)) : F_is_giver.g [encP ss bs g, .int i] = some (.bool (decide (b < a)), [.none, .none]) := by
  have hi : i < ss.length := (List.getElem?_eq_some_iff.mp e).1
  unfold F_is_giver fb_is_giver encP
  dsimp only
  repeat (first | array_get_dec | exists (by first | ((with_reducible apply m_ixt (k := i)) <;> first | omega | (rw [List.getElem?_map, e]; rfl))) | array_mem_dec)
theorem giver2 (ss : List (Int × Int × Int)) (bs : List (Int × Int)) (g : Int) (i j : Nat) (t h : Int) (e : bs[j]? = some (t, h)) (hi : i = ss.length + j) : F_is_giver.g [encP ss bs g, .int i] = some (.bool (decide (0 < h)), [.none, .none]) := by
  unfold F_is_giver fb_is_giver encP
  dsimp only
  repeat (first | array_get_dec | exists (by first | ((with_reducible apply m_ixt (k := j)) <;> first | (simp; omega) | omega | (rw [List.getElem?_map, e]; rfl))) | array_mem_dec)
theorem span1 (ss : List (Int × Int × Int)) (bs : List (Int × Int)) (g : Int) (i : Nat) (a b r : Int) (e : ss[i]? = some (a, b, r)) : F_span_of.g [encP ss bs g, .int i] = some (.tuple [.int (spS g (a, b, r)).u, .int (spS g (a, b, r)).l, .int (spS g (a, b, r)).r, .int (spS g (a, b, r)).q], [.none, .none]) := by
  have hi : i < ss.length := (List.getElem?_eq_some_iff.mp e).1
  have e1 := giver1 ss bs g i a b r e
  unfold F_span_of fb_span_of
  dsimp only
  by_cases hb : b < a
  · rw [show (spS g (a, b, r)).u = (if b > a then b else a) - g by simp [spS, hb], show (spS g (a, b, r)).l = (if b < a then b else a) - g by simp [spS, hb]]
    repeat (first | array_get_dec | exists (by first | ((with_reducible apply v_at (e1)); rfl) | ((with_reducible apply m_ixt (k := i)) <;> first | omega | (rw [List.getElem?_map, e]; rfl)) | (with_reducible apply v_fn)) | array_mem_dec)
  · rw [show (spS g (a, b, r)).u = (if b > a then b else a) - 0 by simp [spS, hb], show (spS g (a, b, r)).l = (if b < a then b else a) - 0 by simp [spS, hb]]
    repeat (first | array_get_dec | exists (by first | ((with_reducible apply v_at (e1)); rfl) | ((with_reducible apply m_ixt (k := i)) <;> first | omega | (rw [List.getElem?_map, e]; rfl)) | (with_reducible apply v_fn)) | array_mem_dec)
theorem span2 (ss : List (Int × Int × Int)) (bs : List (Int × Int)) (g : Int) (i j : Nat) (t h : Int) (e : bs[j]? = some (t, h)) (hi : i = ss.length + j) : F_span_of.g [encP ss bs g, .int i] = some (.tuple [.int (spB g (t, h)).u, .int (spB g (t, h)).l, .int (spB g (t, h)).r, .int (spB g (t, h)).q], [.none, .none]) := by
  have e1 := giver2 ss bs g i j t h e hi
  unfold F_span_of fb_span_of
  dsimp only
  by_cases hb : 0 < h
  · rw [show (spB g (t, h)).u = t - g by simp [spB, hb], show (spB g (t, h)).l = t - g by simp [spB, hb]]
    repeat (first | array_get_dec | exists (by first | ((with_reducible apply v_at (e1)); rfl) | ((with_reducible apply m_ixt (k := j)) <;> first | (simp; omega) | omega | (rw [List.getElem?_map, e]; rfl)) | (with_reducible apply v_fn)) | array_mem_dec)
  · rw [show (spB g (t, h)).u = t - 0 by simp [spB, hb], show (spB g (t, h)).l = t - 0 by simp [spB, hb]]
    repeat (first | array_get_dec | exists (by first | ((with_reducible apply v_at (e1)); rfl) | ((with_reducible apply m_ixt (k := j)) <;> first | (simp; omega) | omega | (rw [List.getElem?_map, e]; rfl)) | (with_reducible apply v_fn)) | array_mem_dec)

end LawX

set_option maxRecDepth 100000
set_option maxHeartbeats 1000000
namespace LawX
open PySem PySem.Spec PyProof.Rows L2 Ev
def spans (ss : List (Int × Int × Int)) (bs : List (Int × Int)) (g : Int) : List Sp5 := ss.map (spS g) ++ bs.map (spB g)
theorem spAt (ss : List (Int × Int × Int)) (bs : List (Int × Int)) (g : Int) (h : OkP ss bs g) (i : Nat) (hi : i < ss.length + bs.length) : ∃ sp : Sp5, (spans ss bs g)[i]? = some sp ∧ F_is_giver.g [encP ss bs g, .int i] = some (.bool sp.gv, [.none, .none]) ∧
    F_span_of.g [encP ss bs g, .int i] = some (.tuple [.int sp.u, .int sp.l, .int sp.r, .int sp.q], [.none, .none]) := by
  by_cases h1 : i < ss.length
  · obtain ⟨t, e⟩ : ∃ t, ss[i]? = some t := ⟨_, List.getElem?_eq_getElem h1⟩
    obtain ⟨a, b, r⟩ := t
    refine ⟨spS g (a, b, r), ?_, giver1 ss bs g i a b r e, span1 ss bs g i a b r e⟩
    unfold spans
    rw [List.getElem?_append_left (by simpa using h1), List.getElem?_map, e]
    rfl
  · obtain ⟨t, e⟩ : ∃ t, bs[i - ss.length]? = some t := ⟨_, List.getElem?_eq_getElem (by omega)⟩
    obtain ⟨a, b⟩ := t
    refine ⟨spB g (a, b), ?_, giver2 ss bs g i _ a b e (by omega), span2 ss bs g i _ a b e (by omega)⟩
    unfold spans
    rw [List.getElem?_append_right (by simpa using h1), List.length_map, List.getElem?_map, e]
    rfl
theorem sp_len (ss : List (Int × Int × Int)) (bs : List (Int × Int)) (g : Int) : (spans ss bs g).length = ss.length + bs.length := by simp [spans]
theorem sp_ok (ss : List (Int × Int × Int)) (bs : List (Int × Int)) (g : Int) (h : OkP ss bs g) (sp : Sp5) (hm : sp ∈ spans ss bs g) : 0 ≤ sp.r ∧ sp.r ≤ 100 ∧ 0 ≤ sp.q ∧ sp.q ≤ 10000 ∧ sp.u ≤ 1000 ∧ -100 ≤ sp.l := by
  have g0 := h.g0
  have g1 := h.g1
  rcases List.mem_append.mp hm with hm | hm
  · obtain ⟨⟨a, b, r⟩, ht, rfl⟩ := List.mem_map.mp hm
    have o := h.s _ ht
    simp only [OkS] at o
    simp only [spS]
    split <;> split <;> omega
  · obtain ⟨⟨a, b⟩, ht, rfl⟩ := List.mem_map.mp hm
    have o := h.b _ ht
    simp only [OkB] at o
    simp only [spB]
    split <;> split <;> omega

end LawX

set_option maxRecDepth 100000
set_option maxHeartbeats 400000
namespace LawX
open PySem PySem.Spec PyProof.Rows L2 Ev
def lvF (l : List Sp5) : List Int := l.flatMap fun sp => [sp.u, sp.l]
def lvs (ss : List (Int × Int × Int)) (bs : List (Int × Int)) (g : Int) : List Int := (sset (lvF (spans ss bs g))).reverse
theorem take_sp {l : List Sp5} {j : Nat} {sp : Sp5} (h : l[j]? = some sp) : lvF (l.take (j + 1)) = lvF (l.take j) ++ [sp.u, sp.l] := by
  rw [List.take_succ, h]
  simp [lvF]
theorem lvF_len (l : List Sp5) : (lvF l).length = 2 * l.length := by
  induction l with
  | nil => rfl
  | cons a r ih =>
    have e : lvF (a :: r) = a.u :: a.l :: lvF r := rfl
    rw [e, List.length_cons, List.length_cons, ih, List.length_cons]
    omega
theorem levelsOf (ss : List (Int × Int × Int)) (bs : List (Int × Int)) (g : Int) (h : OkP ss bs g) : F_levels_of.g [encP ss bs g] = some (.list ((lvs ss bs g).map .int), [.none]) := by
  have hs := h.sl
  have hb := h.bl
  let J : Nat → Er → Prop := fun j ρ => ∃ (ks : List Int) (x2 x3 x4 x5 x6 : Sl), ρ = [.val (encP ss bs g), .own (.dict (encK ks)), x2, x3, x4, x5, x6] ∧ NI x2 ∧ NI x3 ∧ NI x4 ∧ NI x5 ∧ NI x6 ∧ ks.Nodup ∧ ks.length ≤ 2 * j ∧ ∀ x, x ∈ ks ↔ x ∈ lvF ((spans ss bs g).take j)
  obtain ⟨ρ1, l1, ks, x2, x3, x4, x5, x6, rfl, -, -, -, -, -, nd, len, mem⟩ := runL_rng (f := lb_levels_of_1) (gg := gN 2) (m := 7) (lo := 0) (ss.length + bs.length) J [.val (encP ss bs g), .own (.dict []), .un, .un, .un, .un, .un] ⟨[], _, _, _, _, _, rfl, ni_un, ni_un, ni_un, ni_un, ni_un, .nil, by simp, by simp [lvF]⟩ (fun j ρ hJ hj => by
    obtain ⟨ks, x2, x3, x4, x5, x6, rfl, n2, n3, n4, n5, n6, nd, len, mem⟩ := hJ
    obtain ⟨sp, e, _, e1⟩ := spAt ss bs g h j hj
    have q1 := len_addK (ks := ks) (u := sp.u)
    have q2 := len_addK (ks := addK ks sp.u) (u := sp.l)
    rw [Int.zero_add]
    apply stp (ρ3 := [.val (encP ss bs g), .own (.dict (encK (addK (addK ks sp.u) sp.l))), .val (.int j), .val (.int sp.u), .val (.int sp.l), .val (.int sp.r), .val (.int sp.q)]) (gN_ni rfl n2)
    · unfold lb_levels_of_1
      repeat (first | array_get_dec | exists (by first | ((with_reducible apply v_at (e1)); rfl) | ((with_reducible apply gN_ni (hx := n3)); rfl) | ((with_reducible apply gN_ni (hx := n4)); rfl) | ((with_reducible apply gN_ni (hx := n5)); rfl) | ((with_reducible apply gN_ni (hx := n6)); rfl) | ((with_reducible apply m_put) <;> omega) | (with_reducible apply v_fn)) | array_mem_dec)
    · rfl
    · refine ⟨_, _, _, _, _, _, rfl, ni_val, ni_val, ni_val, ni_val, ni_val, nodup_addK (nodup_addK nd), by omega, fun x => ?_⟩
      rw [take_sp e, mem_addK, mem_addK, mem]
      simp [or_assoc])
  have mm : ∀ x, x ∈ ks ↔ x ∈ lvF (spans ss bs g) := fun x => by
    rw [mem x, List.take_of_length_le (by rw [sp_len]; exact Nat.le_refl _)]
  have ms := m_sort ks (lvF (spans ss bs g)) (by omega) nd mm
  have md := m_listD ks
  have hn : ((ss.map encS).length : Int) + ((bs.map encB).length : Int) = ((ss.length + bs.length : Nat) : Int) := by simp
  have rv : semRevA (.list ((sset (lvF (spans ss bs g))).map .int)) = some (.list ((lvs ss bs g).map .int)) := by
    simp only [semRevA, lvs, List.map_reverse]
  have l9 : runL 7 (gN 2) lb_levels_of_1 (rngD 0 (((ss.map encS).length : Int) + ((bs.map encB).length : Int)).toNat) [.val (encP ss bs g), .own (.dict []), .un, .un, .un, .un, .un] = some (.nx [.val (encP ss bs g), .own (.dict (encK ks)), x2, x3, x4, x5, x6]) := by
    rw [hn, Int.toNat_natCast]
    exact l1
  have f1 : sFor 7 (iRg1 (aCons (fBin (fCall (aCons (fBin (fVar 0) (fC (.int 0)) semIx) aNil) semLen) (fCall (aCons (fBin (fVar 0) (fC (.int 1)) semIx) aNil) semLen) (semBin .Add)) aNil)) (gN 2) lb_levels_of_1 [.val (encP ss bs g), .own (.dict []), .un, .un, .un, .un, .un] = some (.nx [.val (encP ss bs g), .own (.dict (encK ks)), x2, x3, x4, x5, x6]) := by
    refine s_for (ds := rngD 0 (((ss.map encS).length : Int) + ((bs.map encB).length : Int)).toNat) (ρ1 := [.val (encP ss bs g), .own (.dict []), .un, .un, .un, .un, .un]) ?_ l9
    refine i_rg1 (hs := [.v (.int (((ss.map encS).length : Int) + ((bs.map encB).length : Int)))]) rfl rfl (m_bnd (by simp; omega) (by simp; omega))
  have f2 : (sRet (fUn (fNew (aCons (fNew (aCons (fVar 1) aNil) semListD) aNil) semSort) semRevA)) [.val (encP ss bs g), .own (.dict (encK ks)), x2, x3, x4, x5, x6] = some (.ret (.list ((lvs ss bs g).map .int)) [.val (encP ss bs g), .own (.dict (encK ks)), x2, x3, x4, x5, x6, .own (.list (ks.map .int)), .own (.list ((sset (lvF (spans ss bs g))).map .int))]) := by
    refine s_ret (p := .v (.list ((lvs ss bs g).map .int))) (ρ1 := [.val (encP ss bs g), .own (.dict (encK ks)), x2, x3, x4, x5, x6, .own (.list (ks.map .int)), .own (.list ((sset (lvF (spans ss bs g))).map .int))]) (v_un (p := .l 8) (v_new (hs := [.l 7]) (ρ1 := [.val (encP ss bs g), .own (.dict (encK ks)), x2, x3, x4, x5, x6, .own (.list (ks.map .int))]) (ds := [.list (ks.map .int)]) (v_cons (p := .l 7) (v_new (hs := [.l 1]) (ds := [.dict (encK ks)]) (ρ1 := [.val (encP ss bs g), .own (.dict (encK ks)), x2, x3, x4, x5, x6]) (v_cons rfl v_nil) rfl md) v_nil) rfl ms) rfl rv) rfl
  have f3 : (sSet 7 1 (fNewD (.dict []))) [.val (encP ss bs g), .un, .un, .un, .un, .un, .un] = some (.nx [.val (encP ss bs g), .own (.dict []), .un, .un, .un, .un, .un]) := s_set (p := .l 7) (ρ1 := [.val (encP ss bs g), .un, .un, .un, .un, .un, .un, .own (.dict [])]) (ρ2 := [.val (encP ss bs g), .own (.dict []), .un, .un, .un, .un, .un, .un]) rfl rfl rfl
  have f4 := s_seq f3 (s_seq f1 f2)
  unfold F_levels_of fb_levels_of
  dsimp only
  have e0 : startR [false] [encP ss bs g] ++ List.replicate (7 - [false].length) .un = [.val (encP ss bs g), .un, .un, .un, .un, .un, .un] := rfl
  exact d_retX (ios := [false]) (m := 7) (ds := [encP ss bs g]) rfl e0 f4 rfl rfl
theorem lvs_ne (ss : List (Int × Int × Int)) (bs : List (Int × Int)) (g : Int) (h : OkP ss bs g) : 0 < (lvs ss bs g).length ∧ (lvs ss bs g).length ≤ 1000 := by
  have hs := h.sl
  have hb := h.bl
  have hn := h.ne
  have h1 := len_sset (lvF (spans ss bs g))
  rw [lvF_len, sp_len] at h1
  refine ⟨?_, by simp [lvs]; omega⟩
  obtain ⟨sp, e⟩ : ∃ sp, (spans ss bs g)[0]? = some sp := ⟨_, List.getElem?_eq_getElem (by rw [sp_len]; omega)⟩
  have : sp.u ∈ lvs ss bs g := by
    simp only [lvs, List.mem_reverse, mem_sset, lvF, List.mem_flatMap]
    exact ⟨sp, List.mem_of_getElem? e, by simp⟩
  exact List.length_pos_of_mem this

end LawX

set_option maxRecDepth 100000
set_option maxHeartbeats 1000000
namespace LawX
open PySem PySem.Spec PyProof.Rows L2 Ev
def hO (sp : Sp5) (L : Int) (o : Bool) : Int := if sp.r = 0 then (if L < sp.u ∨ (sp.u = L ∧ o = false) then sp.q else 0) else sp.r * (if sp.u - (if sp.l > L then sp.l else L) > 0 then sp.u - (if sp.l > L then sp.l else L) else 0)
theorem heatAbove (ss : List (Int × Int × Int)) (bs : List (Int × Int)) (g : Int) (i : Nat) (sp : Sp5) (L : Int) (o : Bool) (hr : 0 ≤ sp.r ∧ sp.r ≤ 100) (e1 : F_span_of.g [encP ss bs g, .int i] = some (.tuple [.int sp.u, .int sp.l, .int sp.r, .int sp.q], [.none, .none])) :
    F_heat_above.g [encP ss bs g, .int i, .int L, .bool o] = some (.int (hO sp L o), [.none, .none, .none, .none]) := by
  unfold F_heat_above fb_heat_above
  dsimp only
  by_cases h0 : sp.r = 0
  · by_cases h1 : L < sp.u
    · rw [show hO sp L o = sp.q by simp [hO, h0, h1]]
      repeat (first | array_get_dec | exists (by first | ((with_reducible apply v_at (e1)); rfl) | (with_reducible apply v_fn)) | array_mem_dec)
    · by_cases h2 : sp.u = L
      · cases o with
        | true =>
          rw [show hO sp L true = 0 by simp [hO, h0, h1]]
          repeat (first | array_get_dec | exists (by first | ((with_reducible apply v_at (e1)); rfl) | (with_reducible apply v_fn)) | array_mem_dec)
        | false =>
          rw [show hO sp L false = sp.q by simp [hO, h0, h2]]
          repeat (first | array_get_dec | exists (by first | ((with_reducible apply v_at (e1)); rfl) | (with_reducible apply v_fn)) | array_mem_dec)
      · rw [show hO sp L o = 0 by simp [hO, h0, h1, h2]]
        repeat (first | array_get_dec | exists (by first | ((with_reducible apply v_at (e1)); rfl) | (with_reducible apply v_fn)) | array_mem_dec)
  · rw [show hO sp L o = sp.r * (if sp.u - (if sp.l > L then sp.l else L) > 0 then sp.u - (if sp.l > L then sp.l else L) else 0) by simp [hO, h0]]
    repeat (first | array_get_dec | exists (by first | ((with_reducible apply v_at (e1)); rfl) | (with_reducible apply v_fn)) | array_mem_dec)
def gvAt (l : List Sp5) (i : Nat) : Bool := (l[i]?.map Sp5.gv).getD false
def nums (l : List Sp5) (b : Bool) : List Nat := (List.range l.length).filter fun i => gvAt l i == b
def encN (k : Nat) : D := .int (k : Int)
theorem nums_lt {l : List Sp5} {b : Bool} {k : Nat} (h : k ∈ nums l b) : k < l.length := List.mem_range.mp (List.mem_filter.mp h).1
theorem nums_len {l : List Sp5} {b : Bool} : (nums l b).length ≤ l.length := by
  have := List.length_filter_le (fun i => gvAt l i == b) (List.range l.length)
  rw [List.length_range] at this
  exact this
theorem rng_N (n : Nat) : rngD 0 n = (List.range n).map encN := List.map_congr_left fun j _ => by simp [encN]
theorem numbersOf (ss : List (Int × Int × Int)) (bs : List (Int × Int)) (g : Int) (h : OkP ss bs g) (b : Bool) : F_numbers_of.g [encP ss bs g, .bool b] = some (.list ((nums (spans ss bs g) b).map encN), [.none, .none]) := by
  have hs := h.sl
  have hb := h.bl
  have hn : ((ss.map encS).length : Int) + ((bs.map encB).length : Int) = ((spans ss bs g).length : Int) := by simp [sp_len]
  have hl : (spans ss bs g).length ≤ 10 := by rw [sp_len]; omega
  have c := comp_filT (vs := [3]) (fg := gN 3) (ft' := ft (fBin (fFn (aCons (aFz (fVar 0)) (aCons (aFz (fVar 3)) aNil)) F_is_giver) (fVar 1) (semC .Eq))) (fe := fVar 3) (ρ2 := [.val (encP ss bs g), .val (.bool b), .val (.int ((spans ss bs g).length : Int)), .un]) (enc := encN) (P := fun i => gvAt (spans ss bs g) i == b) (y := encN) (List.range (spans ss bs g).length) [] (by simp; omega) fun t ht acc => by
    have ht := List.mem_range.mp ht
    obtain ⟨sp, e, e1, _⟩ := spAt ss bs g h t (by rw [sp_len] at ht; exact ht)
    have hP : gvAt (spans ss bs g) t = sp.gv := by simp [gvAt, e]
    refine f_step (ρ3 := [.val (encP ss bs g), .val (.bool b), .val (.int ((spans ss bs g).length : Int)), .val (encN t), .own (.list acc)]) (ρ1 := [.val (encP ss bs g), .val (.bool b), .val (.int ((spans ss bs g).length : Int)), .val (encN t), .own (.list acc)]) (c := sp.gv == b) (d := encN t) (p := .v (encN t)) rfl ?_ (by simp only [hP]) rfl rfl rfl rfl rfl rfl rfl
    exact t_ft (v_bin (p := .v (.bool sp.gv)) (v_fn (hs := [.v (encP ss bs g), .v (.int t)]) (ds := [encP ss bs g, .int t]) (v_cons (v_fz rfl rfl) (v_cons (v_fz rfl rfl) v_nil)) rfl rfl e1 rfl) rfl rfl rfl m_eqB) rfl rfl
  have f1 : sSet 4 2 (fBin (fCall (aCons (fBin (fVar 0) (fC (.int 0)) semIx) aNil) semLen) (fCall (aCons (fBin (fVar 0) (fC (.int 1)) semIx) aNil) semLen) (semBin .Add)) [.val (encP ss bs g), .val (.bool b), .un, .un] = some (.nx [.val (encP ss bs g), .val (.bool b), .val (.int ((spans ss bs g).length : Int)), .un]) := by
    rw [← hn]
    exact s_set (p := .v (.int (((ss.map encS).length : Int) + ((bs.map encB).length : Int)))) (ρ1 := [.val (encP ss bs g), .val (.bool b), .un, .un]) rfl rfl rfl
  have f2 : sRet (fLc [3] (iRg1 (aCons (aFz (fVar 2)) aNil)) (gN 3) (ft (fBin (fFn (aCons (aFz (fVar 0)) (aCons (aFz (fVar 3)) aNil)) F_is_giver) (fVar 1) (semC .Eq))) (fVar 3)) [.val (encP ss bs g), .val (.bool b), .val (.int ((spans ss bs g).length : Int)), .un] = some (.ret (.list ((nums (spans ss bs g) b).map encN)) [.val (encP ss bs g), .val (.bool b), .val (.int ((spans ss bs g).length : Int)), .un, .val (.list ((nums (spans ss bs g) b).map encN))]) := by
    have r := i_rg1 (fs := aCons (aFz (fVar 2)) aNil) (ρ := [.val (encP ss bs g), .val (.bool b), .val (.int ((spans ss bs g).length : Int)), .un]) (ρ1 := [.val (encP ss bs g), .val (.bool b), .val (.int ((spans ss bs g).length : Int)), .un]) (j := ((spans ss bs g).length : Int)) (hs := [.v (.int ((spans ss bs g).length : Int))]) rfl rfl (m_bnd (by omega) (by omega))
    rw [Int.toNat_natCast, rng_N] at r
    exact s_ret (v_lc (ρ2 := [.val (encP ss bs g), .val (.bool b), .val (.int ((spans ss bs g).length : Int)), .un]) r rfl c) rfl
  have f4 := s_seq f1 f2
  unfold F_numbers_of fb_numbers_of
  dsimp only
  have e0 : startR [false, false] [encP ss bs g, .bool b] ++ List.replicate (4 - [false, false].length) .un = [.val (encP ss bs g), .val (.bool b), .un, .un] := rfl
  exact d_retX (ios := [false, false]) (m := 4) rfl e0 f4 rfl rfl
theorem hO_bd (sp : Sp5) (L : Int) (o : Bool) (h : 0 ≤ sp.r ∧ sp.r ≤ 100 ∧ 0 ≤ sp.q ∧ sp.q ≤ 10000 ∧ sp.u ≤ 1000 ∧ -100 ≤ sp.l) : 0 ≤ hO sp L o ∧ hO sp L o ≤ 1000000 := by
  obtain ⟨h1, h2, h3, h4, h5, h6⟩ := h
  unfold hO
  by_cases h0 : sp.r = 0
  · rw [if_pos h0]
    split <;> omega
  · rw [if_neg h0]
    have q : 0 ≤ (if sp.u - (if sp.l > L then sp.l else L) > 0 then sp.u - (if sp.l > L then sp.l else L) else 0) ∧ (if sp.u - (if sp.l > L then sp.l else L) > 0 then sp.u - (if sp.l > L then sp.l else L) else 0) ≤ 1100 := by
      split <;> split at * <;> omega
    refine ⟨Int.mul_nonneg h1 q.1, ?_⟩
    have := Int.mul_le_mul h2 q.2 q.1 (by decide)
    omega
def yN (l : List Sp5) (L : Int) (o : Bool) (k : Nat) : Int := (l[k]?.map fun sp => hO sp L o).getD 0
def totO (l : List Sp5) (L : Int) (o b : Bool) : Int := (l.map fun sp => if sp.gv = b then hO sp L o else 0).sum
theorem tot_takeN (l : List Sp5) (L : Int) (o b : Bool) : ∀ k : Nat, k ≤ l.length → (((List.range k).filter fun i => gvAt l i == b).map (yN l L o)).sum = ((l.take k).map fun sp => if sp.gv = b then hO sp L o else 0).sum
  | 0, _ => by simp
  | k + 1, hk => by
    have ih := tot_takeN l L o b k (by omega)
    obtain ⟨sp, e⟩ : ∃ sp, l[k]? = some sp := ⟨_, List.getElem?_eq_getElem (by omega)⟩
    have e2 : gvAt l k = sp.gv := by simp [gvAt, e]
    have e3 : yN l L o k = hO sp L o := by simp [yN, e]
    rw [List.range_succ, List.filter_append, List.map_append, List.sum_append, ih, List.take_succ, e, List.map_append, List.sum_append]
    congr 1
    by_cases hb : sp.gv = b
    · rw [List.filter_cons_of_pos (by rw [e2]; simpa using hb)]
      simp [e3, hb]
    · rw [List.filter_cons_of_neg (by rw [e2]; simpa using hb)]
      simp [hb]
theorem tot_nums (l : List Sp5) (L : Int) (o b : Bool) : ((nums l b).map (yN l L o)).sum = totO l L o b := by
  unfold nums totO
  rw [tot_takeN _ _ _ _ _ (Nat.le_refl _), List.take_length]
theorem heatN (ss : List (Int × Int × Int)) (bs : List (Int × Int)) (g : Int) (h : OkP ss bs g) (L : Int) (o b : Bool) (k : Nat) (hk : k ∈ nums (spans ss bs g) b) : F_heat_above.g [encP ss bs g, encN k, .int L, .bool o] = some (.int (yN (spans ss bs g) L o k), [.none, .none, .none, .none]) := by
  obtain ⟨sp, e, _, e1⟩ := spAt ss bs g h k (by have := nums_lt hk; rw [sp_len] at this; exact this)
  have ok := sp_ok ss bs g h sp (List.mem_of_getElem? e)
  rw [show yN (spans ss bs g) L o k = hO sp L o by simp [yN, e]]
  exact heatAbove ss bs g k sp L o ⟨ok.1, ok.2.1⟩ e1
theorem yN_bd (ss : List (Int × Int × Int)) (bs : List (Int × Int)) (g : Int) (h : OkP ss bs g) (L : Int) (o b : Bool) (k : Nat) (hk : k ∈ nums (spans ss bs g) b) : 0 ≤ yN (spans ss bs g) L o k ∧ yN (spans ss bs g) L o k ≤ 1000000 := by
  obtain ⟨sp, e, _⟩ := spAt ss bs g h k (by have := nums_lt hk; rw [sp_len] at this; exact this)
  rw [show yN (spans ss bs g) L o k = hO sp L o by simp [yN, e]]
  exact hO_bd sp L o (sp_ok ss bs g h sp (List.mem_of_getElem? e))

end LawX

set_option maxRecDepth 100000
set_option maxHeartbeats 1000000
namespace LawX
open PySem PySem.Spec PyProof.Rows L2 Ev
def needS (l : List Sp5) (L : Int) (o : Bool) : Int := totO l L o false - totO l L o true
theorem needAbove (ss : List (Int × Int × Int)) (bs : List (Int × Int)) (g : Int) (h : OkP ss bs g) (L : Int) (o : Bool) : F_need_above.g [encP ss bs g, .int L, .bool o] = some (.int (needS (spans ss bs g) L o), [.none, .none, .none]) := by
  have e0 := numbersOf ss bs g h false
  have e1 := numbersOf ss bs g h true
  have hs := h.sl
  have hb := h.bl
  have n0 := nums_len (l := spans ss bs g) (b := false)
  have n1 := nums_len (l := spans ss bs g) (b := true)
  rw [sp_len] at n0 n1
  unfold needS
  rw [← tot_nums, ← tot_nums]
  unfold F_need_above fb_need_above
  dsimp only
  repeat (first | exists (by first | (with_reducible apply Ev.c_all); intro t ht acc; (with_reducible apply Ev.c_step); (try dsimp only [encS, encB]) | (with_reducible apply Ev.f_all); intro t ht acc; (with_reducible apply Ev.f_step); (try dsimp only [encS, encB]) | (with_reducible apply Ev.s_all); intro t ht; (with_reducible apply Ev.s_step); (try dsimp only [encS, encB]) | (with_reducible apply Ev.a_all); intro t ht; (with_reducible apply Ev.a_step); (try dsimp only [encS, encB])) | sizeOf_list_dec | array_get_dec | exists (by first | ((with_reducible apply v_at (e0)); rfl) | ((with_reducible apply v_at (e1)); rfl) | ((with_reducible apply v_at (heatN ss bs g h L o _ t ht)); rfl) | (exact yN_bd ss bs g h L o _) | omega | (with_reducible apply v_fn)) | array_mem_dec)

end LawX

set_option maxRecDepth 100000
set_option maxHeartbeats 1000000
namespace LawX
open PySem PySem.Spec PyProof.Rows L2 Ev
def lvL (l : List Sp5) : List Int := (sset (lvF l)).reverse
def mx3 (a b c : Int) : Int := if c > (if b > a then b else a) then c else (if b > a then b else a)
def heatF (l : List Sp5) (ls : List Int) : Int := ls.foldl (fun f L => mx3 f (needS l L true) (needS l L false)) 0
def heatL (l : List Sp5) : Int := heatF l (lvL l)
def topL (l : List Sp5) : Int := (lvL l)[0]?.getD 0
def botL (l : List Sp5) : Int := (lvL l)[(lvL l).length - 1]?.getD 0
def coolL (l : List Sp5) : Int := heatL l - needS l (botL l) false
theorem heatF_snoc (l : List Sp5) (p : List Int) (L : Int) : heatF l (p ++ [L]) = mx3 (heatF l p) (needS l L true) (needS l L false) := by
  unfold heatF
  rw [List.foldl_append]
  rfl
theorem heatingOf (ss : List (Int × Int × Int)) (bs : List (Int × Int)) (g : Int) (h : OkP ss bs g) : F_heating_of.g [encP ss bs g] = some (.int (heatL (spans ss bs g)), [.none]) := by
  have e0 := levelsOf ss bs g h
  have en := needAbove ss bs g h
  obtain ⟨ρ1, l1, x2, rfl, n2⟩ := loopP (f := lb_heating_of_1) (gg := gN 2) (m := 3) (enc := PyData.int) (fun p ρ => ∃ x2, ρ = [.val (encP ss bs g), .val (.int (heatF (spans ss bs g) p)), x2] ∧ NI x2) (lvs ss bs g) [.val (encP ss bs g), .val (.int 0), .un] ⟨_, rfl, ni_un⟩ (fun p t q ρ _ hJ => by
    obtain ⟨x2, rfl, n2⟩ := hJ
    apply stp (ρ3 := [.val (encP ss bs g), .val (.int (heatF (spans ss bs g) (p ++ [t]))), .val (.int t)]) (gN_ni rfl n2)
    · unfold lb_heating_of_1
      repeat (first | exists (by first | (with_reducible apply Ev.c_all); intro t ht acc; (with_reducible apply Ev.c_step); (try dsimp only [encS, encB]) | (with_reducible apply Ev.f_all); intro t ht acc; (with_reducible apply Ev.f_step); (try dsimp only [encS, encB]) | (with_reducible apply Ev.s_all); intro t ht; (with_reducible apply Ev.s_step); (try dsimp only [encS, encB]) | (with_reducible apply Ev.a_all); intro t ht; (with_reducible apply Ev.a_step); (try dsimp only [encS, encB])) | sizeOf_list_dec | array_get_dec | exists (by first | ((with_reducible apply v_at (en t true)); rfl) | ((with_reducible apply v_at (en t false)); rfl) | (with_reducible apply v_fn)) | array_mem_dec)
    · rw [heatF_snoc]; rfl
    · exact ⟨_, rfl, ni_val⟩)
  unfold F_heating_of fb_heating_of
  dsimp only
  repeat (first | exists (by first | (with_reducible apply Ev.c_all); intro t ht acc; (with_reducible apply Ev.c_step); (try dsimp only [encS, encB]) | (with_reducible apply Ev.f_all); intro t ht acc; (with_reducible apply Ev.f_step); (try dsimp only [encS, encB]) | (with_reducible apply Ev.s_all); intro t ht; (with_reducible apply Ev.s_step); (try dsimp only [encS, encB]) | (with_reducible apply Ev.a_all); intro t ht; (with_reducible apply Ev.a_step); (try dsimp only [encS, encB])) | sizeOf_list_dec | array_get_dec | exists (by first | ((with_reducible apply v_at (e0)); rfl) | ((with_reducible apply l_at (l1)); rfl) | (with_reducible apply v_fn)) | array_mem_dec)
theorem bot_ix (ss : List (Int × Int × Int)) (bs : List (Int × Int)) (g : Int) (h : OkP ss bs g) : semIx (.list ((lvs ss bs g).map .int)) (.int (-1)) = some (.int (botL (spans ss bs g))) := by
  obtain ⟨hl, -⟩ := lvs_ne ss bs g h
  refine m_ixn (by simpa using hl) ?_
  obtain ⟨z, e⟩ : ∃ z, (lvs ss bs g)[(lvs ss bs g).length - 1]? = some z := ⟨_, List.getElem?_eq_getElem (by omega)⟩
  have e2 : botL (spans ss bs g) = z := by
    have : (lvL (spans ss bs g))[(lvL (spans ss bs g)).length - 1]? = some z := e
    unfold botL
    rw [this]
    rfl
  rw [List.length_map, List.getElem?_map, e, e2]
  rfl

end LawX

set_option maxRecDepth 100000
set_option maxHeartbeats 1000000
namespace LawX
open PySem PySem.Spec PyProof.Rows L2 Ev
theorem fold_le (l : List Sp5) : ∀ (ls : List Int) (f : Int), f ≤ ls.foldl (fun f L => mx3 f (needS l L true) (needS l L false)) f ∧ (∀ L, L ∈ ls → ∀ o, needS l L o ≤ ls.foldl (fun f L => mx3 f (needS l L true) (needS l L false)) f) ∧ (ls.foldl (fun f L => mx3 f (needS l L true) (needS l L false)) f = f ∨ ∃ L, L ∈ ls ∧ ∃ o, ls.foldl (fun f L => mx3 f (needS l L true) (needS l L false)) f = needS l L o)
  | [], f => ⟨Int.le_refl _, (fun _ h => nomatch h), .inl rfl⟩
  | L :: r, f => by
    obtain ⟨h1, h2, h3⟩ := fold_le l r (mx3 f (needS l L true) (needS l L false))
    have m1 : f ≤ mx3 f (needS l L true) (needS l L false) := by unfold mx3; split <;> split <;> omega
    have m2 : needS l L true ≤ mx3 f (needS l L true) (needS l L false) := by unfold mx3; split <;> split <;> omega
    have m3 : needS l L false ≤ mx3 f (needS l L true) (needS l L false) := by unfold mx3; split <;> split <;> omega
    have m4 : mx3 f (needS l L true) (needS l L false) = f ∨ ∃ o, mx3 f (needS l L true) (needS l L false) = needS l L o := by
      unfold mx3
      by_cases a1 : needS l L true > f
      · rw [if_pos a1]
        by_cases a2 : needS l L false > needS l L true
        · exact .inr ⟨false, if_pos a2⟩
        · exact .inr ⟨true, if_neg a2⟩
      · rw [if_neg a1]
        by_cases a2 : needS l L false > f
        · exact .inr ⟨false, if_pos a2⟩
        · exact .inl (if_neg a2)
    simp only [List.foldl_cons]
    refine ⟨Int.le_trans m1 h1, fun K hK o => ?_, ?_⟩
    · rcases List.mem_cons.mp hK with rfl | hK
      · cases o
        · exact Int.le_trans m3 h1
        · exact Int.le_trans m2 h1
      · exact h2 K hK o
    · rcases h3 with h3 | ⟨K, hK, o, h3⟩
      · rcases m4 with m4 | ⟨o, m4⟩
        · exact .inl (h3.trans m4)
        · exact .inr ⟨L, List.mem_cons_self, o, h3.trans m4⟩
      · exact .inr ⟨K, List.mem_cons_of_mem _ hK, o, h3⟩
theorem heat_nn (l : List Sp5) : 0 ≤ heatL l := (fold_le l (lvL l) 0).1
theorem heat_ge (l : List Sp5) (L : Int) (h : L ∈ lvL l) (o : Bool) : needS l L o ≤ heatL l := (fold_le l (lvL l) 0).2.1 L h o
theorem heat_is (l : List Sp5) : heatL l = 0 ∨ ∃ L, L ∈ lvL l ∧ ∃ o, heatL l = needS l L o := (fold_le l (lvL l) 0).2.2
theorem heat_uniq (l : List Sp5) (v : Int) (h0 : 0 ≤ v) (h1 : ∀ L, L ∈ lvL l → ∀ o, needS l L o ≤ v) (h2 : v = 0 ∨ ∃ L, L ∈ lvL l ∧ ∃ o, v = needS l L o) : heatL l = v := by
  have a := heat_nn l
  have b := heat_ge l
  apply Int.le_antisymm
  · rcases heat_is l with h | ⟨L, hL, o, h⟩
    · omega
    · rw [h]; exact h1 L hL o
  · rcases h2 with h | ⟨L, hL, o, h⟩
    · omega
    · rw [h]; exact b L hL o
theorem mem_lvL {l : List Sp5} {x : Int} : x ∈ lvL l ↔ ∃ sp, sp ∈ l ∧ (x = sp.u ∨ x = sp.l) := by
  unfold lvL lvF
  rw [List.mem_reverse, mem_sset, List.mem_flatMap]
  constructor
  · rintro ⟨sp, h, e⟩
    exact ⟨sp, h, by simpa using e⟩
  · rintro ⟨sp, h, e⟩
    exact ⟨sp, h, by simpa using e⟩
theorem lvL_ne {l : List Sp5} (h : l ≠ []) : 0 < (lvL l).length := by
  cases l with
  | nil => exact absurd rfl h
  | cons sp r => exact List.length_pos_of_mem (mem_lvL.mpr ⟨sp, List.mem_cons_self, .inl rfl⟩)
theorem lvL_gt (l : List Sp5) : (lvL l).Pairwise (fun a b => b < a) := by
  unfold lvL
  rw [List.pairwise_reverse]
  exact sset_lt _
theorem top_mem {l : List Sp5} (h : l ≠ []) : topL l ∈ lvL l ∧ ∀ x, x ∈ lvL l → x ≤ topL l := by
  have h0 := lvL_ne h
  have hp := lvL_gt l
  unfold topL
  cases e : lvL l with
  | nil => rw [e] at h0; exact absurd h0 (by simp)
  | cons a r =>
    rw [e] at hp
    refine ⟨by simp, fun x hx => ?_⟩
    rcases List.mem_cons.mp hx with rfl | hx
    · simp
    · have := (List.pairwise_cons.mp hp).1 x hx
      simp
      omega
theorem bot_mem {l : List Sp5} (h : l ≠ []) : botL l ∈ lvL l ∧ ∀ x, x ∈ lvL l → botL l ≤ x := by
  have h0 := lvL_ne h
  have hp := lvL_gt l
  unfold botL
  have hr : (lvL l).reverse.Pairwise (fun a b => a < b) := by rw [List.pairwise_reverse]; exact hp
  have hx : (lvL l)[(lvL l).length - 1]? = (lvL l).reverse[0]? := by
    rw [List.getElem?_reverse h0]
    rfl
  rw [hx]
  have hm : ∀ x, x ∈ lvL l ↔ x ∈ (lvL l).reverse := fun x => List.mem_reverse.symm
  simp only [hm]
  cases e : (lvL l).reverse with
  | nil =>
    have := congrArg List.length e
    rw [List.length_reverse] at this
    simp at this
    rw [this] at h0
    exact absurd h0 (by simp)
  | cons a r =>
    rw [e] at hr
    refine ⟨by simp, fun x hx => ?_⟩
    rcases List.mem_cons.mp hx with rfl | hx
    · simp
    · have := (List.pairwise_cons.mp hr).1 x hx
      simp
      omega
/-- a span as it should be -/
structure OkSp (sp : Sp5) : Prop where
  lu : sp.l ≤ sp.u
  r0 : 0 ≤ sp.r
  eq : sp.r = 0 → sp.u = sp.l
  q0 : 0 ≤ sp.q
def fullS (sp : Sp5) : Int := if sp.r = 0 then sp.q else sp.r * (sp.u - sp.l)
theorem hO_top {sp : Sp5} (h : OkSp sp) {L : Int} (hL : sp.u ≤ L) : hO sp L true = 0 := by
  unfold hO
  have := h.lu
  by_cases h0 : sp.r = 0
  · rw [if_pos h0, if_neg (by rintro (h | ⟨_, h⟩); omega; exact absurd h (by decide))]
  · rw [if_neg h0]
    have : ¬ (sp.u - (if sp.l > L then sp.l else L) > 0) := by split <;> omega
    rw [if_neg this, Int.mul_zero]
theorem hO_bot {sp : Sp5} (h : OkSp sp) {L : Int} (hL : L ≤ sp.l) : hO sp L false = fullS sp := by
  unfold hO fullS
  have h1 := h.lu
  by_cases h0 : sp.r = 0
  · rw [if_pos h0, if_pos h0, if_pos (by have := h.eq h0; by_cases e : sp.u = L; exact .inr ⟨e, rfl⟩; exact .inl (by omega))]
  · rw [if_neg h0, if_neg h0]
    have e : (if sp.l > L then sp.l else L) = sp.l := by split <;> omega
    rw [e]
    congr 1
    split <;> omega
theorem totO_congr {l : List Sp5} {L : Int} {o b : Bool} {f : Sp5 → Int} (h : ∀ sp, sp ∈ l → sp.gv = b → hO sp L o = f sp) : totO l L o b = (l.map fun sp => if sp.gv = b then f sp else 0).sum := by
  unfold totO
  congr 1
  refine List.map_congr_left fun sp hs => ?_
  by_cases hb : sp.gv = b
  · rw [if_pos hb, if_pos hb, h sp hs hb]
  · rw [if_neg hb, if_neg hb]
def allT (l : List Sp5) (b : Bool) : Int := (l.map fun sp => if sp.gv = b then fullS sp else 0).sum
theorem sum_zero {α : Type} (l : List α) (f : α → Int) (h : ∀ x, x ∈ l → f x = 0) : (l.map f).sum = 0 := by
  induction l with
  | nil => rfl
  | cons a r ih => rw [List.map_cons, List.sum_cons, h a List.mem_cons_self, ih fun x hx => h x (List.mem_cons_of_mem _ hx)]; rfl
theorem need_top {l : List Sp5} (hk : ∀ sp, sp ∈ l → OkSp sp) {L : Int} (h : ∀ sp, sp ∈ l → sp.u ≤ L) : needS l L true = 0 := by
  have z : ∀ b, totO l L true b = 0 := fun b => by
    unfold totO
    exact sum_zero _ _ fun sp hs => by rw [hO_top (hk sp hs) (h sp hs)]; split <;> rfl
  unfold needS
  rw [z, z]
  rfl
theorem need_bot {l : List Sp5} (hk : ∀ sp, sp ∈ l → OkSp sp) {L : Int} (h : ∀ sp, sp ∈ l → L ≤ sp.l) : needS l L false = allT l false - allT l true := by
  unfold needS
  rw [totO_congr fun sp hs _ => hO_bot (hk sp hs) (h sp hs), totO_congr fun sp hs _ => hO_bot (hk sp hs) (h sp hs)]
  rfl
theorem spans_ok (ss : List (Int × Int × Int)) (bs : List (Int × Int)) (g : Int) (h : OkP ss bs g) (sp : Sp5) (hm : sp ∈ spans ss bs g) : OkSp sp := by
  have g0 := h.g0
  rcases List.mem_append.mp hm with hm | hm
  · obtain ⟨⟨a, b, r⟩, ht, rfl⟩ := List.mem_map.mp hm
    have o := h.s _ ht
    simp only [OkS] at o
    constructor
    · simp only [spS]
      by_cases hb : b < a
      · rw [if_neg (show ¬ b > a by omega), if_pos hb, if_pos hb]; omega
      · rw [if_pos (show b > a by omega), if_neg hb, if_neg hb]; omega
    · simp only [spS]; omega
    · simp only [spS]
      intro e
      omega
    · simp only [spS]; omega
  · obtain ⟨⟨a, b⟩, ht, rfl⟩ := List.mem_map.mp hm
    have o := h.b _ ht
    simp only [OkB] at o
    constructor
    · simp only [spB]; omega
    · simp only [spB]; omega
    · simp only [spB]; intro _; trivial
    · simp only [spB]
      split <;> omega
theorem spans_ne (ss : List (Int × Int × Int)) (bs : List (Int × Int)) (g : Int) (h : OkP ss bs g) : spans ss bs g ≠ [] := by
  intro e
  have := sp_len ss bs g
  rw [e] at this
  have := h.ne
  simp at *
  omega

end LawX

set_option maxRecDepth 100000
set_option maxHeartbeats 1000000
namespace LawX
open PySem PySem.Spec PyProof.Rows L2 Ev
def actS (sp : Sp5) (a b : Int) : Int := if a ≤ sp.u ∧ sp.l ≤ b then sp.r else 0
theorem hO_seg {sp : Sp5} (h : OkSp sp) {a b L : Int} {o : Bool} (hab : b < a) (hu : a ≤ sp.u ∨ sp.u ≤ b) (hl : a ≤ sp.l ∨ sp.l ≤ b) (h1 : b ≤ L) (h2 : L ≤ a) (h3 : L = b → o = true) (h4 : L = a → o = false) : hO sp L o = hO sp a false + actS sp a b * (a - L) := by
  have hlu := h.lu
  have heq := h.eq
  unfold hO actS
  by_cases h0 : sp.r = 0
  · have e := heq h0
    rw [if_pos h0, if_pos h0, h0, ite_self, Int.zero_mul, Int.add_zero]
    rcases hu with hu | hu
    · rw [if_pos (show a < sp.u ∨ (sp.u = a ∧ false = false) by by_cases z : sp.u = a; exact .inr ⟨z, rfl⟩; exact .inl (by omega))]
      rw [if_pos]
      by_cases z : L = a
      · by_cases z2 : sp.u = a
        · exact .inr ⟨by omega, h4 z⟩
        · exact .inl (by omega)
      · exact .inl (by omega)
    · rw [if_neg (show ¬ (a < sp.u ∨ (sp.u = a ∧ false = false)) by rintro (z | ⟨z, _⟩) <;> omega)]
      rw [if_neg]
      rintro (z | ⟨z, z2⟩)
      · omega
      · have := h3 (by omega)
        rw [this] at z2
        exact absurd z2 (by decide)
  · rw [if_neg h0, if_neg h0]
    rcases hu with hu | hu
    · rcases hl with hl | hl
      · rw [if_neg (show ¬ (a ≤ sp.u ∧ sp.l ≤ b) by omega), Int.zero_mul, Int.add_zero]
        congr 1
        split <;> split <;> split <;> omega
      · rw [if_pos (show a ≤ sp.u ∧ sp.l ≤ b from ⟨hu, hl⟩), ← Int.mul_add]
        congr 1
        split <;> split <;> split <;> omega
    · rw [if_neg (show ¬ (a ≤ sp.u ∧ sp.l ≤ b) by omega), Int.zero_mul, Int.add_zero]
      congr 1
      split <;> split <;> split <;> omega
def slope (l : List Sp5) (a b : Int) : Int := (l.map fun sp => if sp.gv then 0 - actS sp a b else actS sp a b).sum
theorem needS_sum (l : List Sp5) (L : Int) (o : Bool) : needS l L o = (l.map fun sp => if sp.gv then 0 - hO sp L o else hO sp L o).sum := by
  unfold needS totO
  induction l with
  | nil => rfl
  | cons sp r ih =>
    simp only [List.map_cons, List.sum_cons]
    rw [← ih]
    cases sp.gv <;> simp <;> omega
theorem sum_add {α : Type} (l : List α) (f k : α → Int) : (l.map fun x => f x + k x).sum = (l.map f).sum + (l.map k).sum := by
  induction l with
  | nil => rfl
  | cons a r ih => simp only [List.map_cons, List.sum_cons, ih]; omega
theorem sum_mulr {α : Type} (l : List α) (f : α → Int) (c : Int) : (l.map fun x => f x * c).sum = (l.map f).sum * c := by
  induction l with
  | nil => simp
  | cons a r ih => simp only [List.map_cons, List.sum_cons, ih, Int.add_mul]
theorem neg3 (y z : Int) : (0 : Int) - (y + z) = 0 - y + (0 - z) := by omega
theorem need_seg {l : List Sp5} (hk : ∀ sp, sp ∈ l → OkSp sp) {a b L : Int} {o : Bool} (hab : b < a) (hg : ∀ x, x ∈ lvL l → x ≤ b ∨ a ≤ x) (h1 : b ≤ L) (h2 : L ≤ a) (h3 : L = b → o = true) (h4 : L = a → o = false) : needS l L o = needS l a false + slope l a b * (a - L) := by
  rw [needS_sum, needS_sum]
  unfold slope
  rw [← sum_mulr, ← sum_add]
  congr 1
  refine List.map_congr_left fun sp hs => ?_
  have e := hO_seg (hk sp hs) hab ((hg _ (mem_lvL.mpr ⟨sp, hs, .inl rfl⟩)).symm) ((hg _ (mem_lvL.mpr ⟨sp, hs, .inr rfl⟩)).symm) h1 h2 h3 h4
  rw [e]
  cases sp.gv
  · simp
  · simp only [if_true]
    rw [Int.sub_mul, Int.zero_mul]
    generalize actS sp a b * (a - L) = z
    generalize hO sp a false = y
    show (0 : Int) - (y + z) = 0 - y + (0 - z)
    exact neg3 y z
theorem gap_split : ∀ (xs : List Int) (L : Int), xs.Pairwise (fun a b => b < a) → L ∉ xs → (∀ x, x ∈ xs → x < L) ∨ (∀ x, x ∈ xs → L < x) ∨ ∃ a b, a ∈ xs ∧ b ∈ xs ∧ b < L ∧ L < a ∧ ∀ x, x ∈ xs → x ≤ b ∨ a ≤ x
  | [], L, _, _ => .inl fun _ h => nomatch h
  | x :: r, L, hp, hn => by
    obtain ⟨h1, h2⟩ := List.pairwise_cons.mp hp
    have hx : L ≠ x := fun e => hn (e ▸ List.mem_cons_self)
    rcases gap_split r L h2 fun z => hn (List.mem_cons_of_mem _ z) with h | h | ⟨a, b, ha, hb, q1, q2, q3⟩
    · by_cases c : x < L
      · exact .inl fun y hy => (List.mem_cons.mp hy).elim (fun e => e ▸ c) (h y)
      · cases r with
        | nil => exact .inr (.inl fun y hy => by simp at hy; omega)
        | cons y s =>
          refine .inr (.inr ⟨x, y, List.mem_cons_self, List.mem_cons_of_mem _ List.mem_cons_self, h y List.mem_cons_self, by omega, fun z hz => ?_⟩)
          rcases List.mem_cons.mp hz with rfl | hz
          · exact .inr (Int.le_refl _)
          · rcases List.mem_cons.mp hz with rfl | hz
            · exact .inl (Int.le_refl _)
            · have := (List.pairwise_cons.mp h2).1 z hz
              exact .inl (by omega)
    · by_cases c : L < x
      · exact .inr (.inl fun y hy => (List.mem_cons.mp hy).elim (fun e => e ▸ c) (h y))
      · cases r with
        | nil => exact .inl fun y hy => by simp at hy; omega
        | cons y s =>
          have := h y List.mem_cons_self
          have := h1 y List.mem_cons_self
          omega
    · refine .inr (.inr ⟨a, b, List.mem_cons_of_mem _ ha, List.mem_cons_of_mem _ hb, q1, q2, fun z hz => ?_⟩)
      rcases List.mem_cons.mp hz with rfl | hz
      · have := h1 a ha
        exact .inr (by omega)
      · exact q3 z hz
theorem hO_above {sp : Sp5} (h : OkSp sp) {L : Int} {o : Bool} (hL : sp.u < L) : hO sp L o = 0 := by
  unfold hO
  have := h.lu
  by_cases h0 : sp.r = 0
  · rw [if_pos h0, if_neg (by rintro (h | ⟨h, _⟩) <;> omega)]
  · rw [if_neg h0]
    have : ¬ (sp.u - (if sp.l > L then sp.l else L) > 0) := by split <;> omega
    rw [if_neg this, Int.mul_zero]
theorem hO_below {sp : Sp5} (h : OkSp sp) {L : Int} {o : Bool} (hL : L < sp.l) : hO sp L o = fullS sp := by
  unfold hO fullS
  have h1 := h.lu
  by_cases h0 : sp.r = 0
  · rw [if_pos h0, if_pos h0, if_pos (.inl (by omega))]
  · rw [if_neg h0, if_neg h0]
    have e : (if sp.l > L then sp.l else L) = sp.l := by split <;> omega
    rw [e]
    congr 1
    split <;> omega
theorem need_out {l : List Sp5} (hk : ∀ sp, sp ∈ l → OkSp sp) {L : Int} {o : Bool} (h : ∀ x, x ∈ lvL l → x < L) : needS l L o = 0 := by
  rw [needS_sum]
  refine sum_zero _ _ fun sp hs => ?_
  rw [hO_above (hk sp hs) (h _ (mem_lvL.mpr ⟨sp, hs, .inl rfl⟩))]
  split <;> rfl
theorem need_in {l : List Sp5} (hk : ∀ sp, sp ∈ l → OkSp sp) {L : Int} {o : Bool} (h : ∀ x, x ∈ lvL l → L < x) : needS l L o = allT l false - allT l true := by
  unfold needS
  rw [totO_congr fun sp hs _ => hO_below (hk sp hs) (h _ (mem_lvL.mpr ⟨sp, hs, .inr rfl⟩)), totO_congr fun sp hs _ => hO_below (hk sp hs) (h _ (mem_lvL.mpr ⟨sp, hs, .inr rfl⟩))]
  rfl
/-- the heating suffices at every level -/
theorem heat_ge_all {l : List Sp5} (hk : ∀ sp, sp ∈ l → OkSp sp) (L : Int) (o : Bool) : needS l L o ≤ heatL l := by
  by_cases hm : L ∈ lvL l
  · exact heat_ge l L hm o
  · rcases gap_split (lvL l) L (lvL_gt l) hm with h | h | ⟨a, b, ha, hb, q1, q2, q3⟩
    · rw [need_out hk h]
      exact heat_nn l
    · by_cases hn : l = []
      · subst hn
        exact heat_nn []
      · rw [need_in hk h]
        have hb := bot_mem hn
        rw [← need_bot hk fun sp hs => hb.2 _ (mem_lvL.mpr ⟨sp, hs, .inr rfl⟩)]
        exact heat_ge l _ hb.1 false
    · have e1 := need_seg (L := L) (o := o) hk (show b < a by omega) q3 (by omega) (by omega) (fun z => by omega) (fun z => by omega)
      have e2 := need_seg (L := b) (o := true) hk (show b < a by omega) q3 (by omega) (by omega) (fun _ => rfl) (fun z => by omega)
      have g1 := heat_ge l a ha false
      have g2 := heat_ge l b hb true
      by_cases hs : slope l a b ≤ 0
      · have : slope l a b * (a - L) ≤ 0 := Int.mul_nonpos_of_nonpos_of_nonneg hs (by omega)
        omega
      · have : slope l a b * (a - L) ≤ slope l a b * (a - b) := Int.mul_le_mul_of_nonneg_left (by omega) (by omega)
        omega
theorem heat_mono {l k : List Sp5} (hk : ∀ sp, sp ∈ k → OkSp sp) {c : Int} (hc : 0 ≤ c) (h : ∀ L o, needS l L o ≤ needS k L o + c) : heatL l ≤ heatL k + c := by
  rcases heat_is l with e | ⟨L, _, o, e⟩
  · have := heat_nn k
    omega
  · rw [e]
    have := h L o
    have := heat_ge_all hk L o
    omega
theorem heat_same {l k : List Sp5} (hl : ∀ sp, sp ∈ l → OkSp sp) (hk : ∀ sp, sp ∈ k → OkSp sp) (h : ∀ L o, needS l L o = needS k L o) : heatL l = heatL k := by
  have h1 := heat_mono (l := l) hk (Int.le_refl 0) fun L o => by rw [h]; omega
  have h2 := heat_mono (l := k) hl (Int.le_refl 0) fun L o => by rw [h]; omega
  omega
theorem cool_eq (l : List Sp5) (hn : l ≠ []) (hk : ∀ sp, sp ∈ l → OkSp sp) : coolL l = heatL l + (allT l true - allT l false) := by
  have hb := bot_mem hn
  unfold coolL
  rw [need_bot hk fun sp hs => hb.2 _ (mem_lvL.mpr ⟨sp, hs, .inr rfl⟩)]
  omega
theorem need_at_top (l : List Sp5) (hn : l ≠ []) (hk : ∀ sp, sp ∈ l → OkSp sp) : needS l (topL l) true = 0 := need_top hk fun sp hs => (top_mem hn).2 _ (mem_lvL.mpr ⟨sp, hs, .inl rfl⟩)
theorem sum_le {α : Type} (l : List α) (f k : α → Int) (h : ∀ x, x ∈ l → f x ≤ k x) : (l.map f).sum ≤ (l.map k).sum := by
  induction l with
  | nil => exact Int.le_refl _
  | cons a r ih =>
    simp only [List.map_cons, List.sum_cons]
    have h1 := h a List.mem_cons_self
    have h2 := ih fun x hx => h x (List.mem_cons_of_mem _ hx)
    omega

end LawX

set_option maxRecDepth 100000
set_option maxHeartbeats 1000000
namespace LawX
open PySem PySem.Spec PyProof.Rows L2 Ev
def Alk : Nat → D → Bool
  | 0, _ => false
  | _ + 1, .int _ => true
  | _ + 1, .bool _ => true
  | m + 1, .tuple ds => decide (ds.length ≤ 1000) && ds.all (Alk m)
  | m + 1, .list ds => decide (ds.length ≤ 1000) && ds.all (Alk m)
  | _, _ => false

end LawX

set_option maxRecDepth 100000
set_option maxHeartbeats 1000000
namespace LawX
open PySem PySem.Spec PyProof.Rows L2 Ev
theorem shp_all {ds : List D} (h : ∀ x ∈ ds, x.canLay0 = true ∧ x.depth ≤ 5) : SeqAt.shaped (.tuple ds) = true := by
  obtain ⟨h1, h2⟩ := lay_list h
  simp [SeqAt.shaped, PyData.canLay0, h1, PyData.depth]
  omega
theorem shpP (ss : List (Int × Int × Int)) (bs : List (Int × Int)) (g : Int) : SeqAt.shaped (encP ss bs g) = true := by
  obtain ⟨h1, h2⟩ := lay_list (layS ss)
  obtain ⟨h3, h4⟩ := lay_list (layB bs)
  simp [encP, SeqAt.shaped, PyData.canLay0, PyData.canLayAll0, h1, h3, PyData.depth, PyData.depthAll]
  omega
theorem alkS (m : Nat) (ss : List (Int × Int × Int)) (f : Int × Int × Int → D) (h : ∀ t, Alk m (f t) = true) (hl : ss.length ≤ 1000) : Alk (m + 1) (.tuple (ss.map f)) = true := by
  simp only [Alk, Bool.and_eq_true, decide_eq_true_eq, List.length_map, List.all_eq_true]
  refine ⟨hl, fun x hx => ?_⟩
  obtain ⟨t, _, rfl⟩ := List.mem_map.mp hx
  exact h t
theorem alkB (m : Nat) (ss : List (Int × Int)) (f : Int × Int → D) (h : ∀ t, Alk m (f t) = true) (hl : ss.length ≤ 1000) : Alk (m + 1) (.tuple (ss.map f)) = true := by
  simp only [Alk, Bool.and_eq_true, decide_eq_true_eq, List.length_map, List.all_eq_true]
  refine ⟨hl, fun x hx => ?_⟩
  obtain ⟨t, _, rfl⟩ := List.mem_map.mp hx
  exact h t
theorem shpE {τ : Type} (l : List τ) (f : τ → D) (h : ∀ t, (f t).canLay0 = true ∧ (f t).depth ≤ 5) : SeqAt.shaped (.tuple (l.map f)) = true := shp_all fun x hx => by
  obtain ⟨t, _, rfl⟩ := List.mem_map.mp hx
  exact h t
theorem alkE (m : Nat) {τ : Type} (l : List τ) (f : τ → D) (h : ∀ t, Alk m (f t) = true) (hl : l.length ≤ 1000) : Alk (m + 1) (.tuple (l.map f)) = true := by
  simp only [Alk, Bool.and_eq_true, decide_eq_true_eq, List.length_map, List.all_eq_true]
  refine ⟨hl, fun x hx => ?_⟩
  obtain ⟨t, _, rfl⟩ := List.mem_map.mp hx
  exact h t
theorem tr_bool {c b : Bool} (h : c = b) : truth (.bool c) = some b := by rw [h]; rfl
theorem call_at {sem : List D → Option D} {ds ds0 : List D} {x : D} (h : sem ds0 = some x) (e : ds = ds0) : sem ds = some x := e ▸ h
theorem call_at2 {d d0 : D} {lo hi : Option Int} {x : D} (h : semSl d0 lo hi = some x) (e : d = d0) : semSl d lo hi = some x := e ▸ h

end LawX

set_option maxRecDepth 100000
set_option maxHeartbeats 1000000
namespace LawX
open PySem PySem.Spec PyProof.Rows L2 Ev
theorem top_ixT (ss : List (Int × Int × Int)) (bs : List (Int × Int)) (g : Int) (h : OkP ss bs g) : semIx (.tuple ((lvs ss bs g).map .int)) (.int 0) = some (.int (topL (spans ss bs g))) := by
  have hl := (lvs_ne ss bs g h).1
  have e : ((lvs ss bs g).map PyData.int)[0]? = some (.int (topL (spans ss bs g))) := by
    rw [List.getElem?_map]
    show ((lvL (spans ss bs g))[0]?).map PyData.int = some (PyData.int ((lvL (spans ss bs g))[0]?.getD 0))
    have : 0 < (lvL (spans ss bs g)).length := hl
    rw [List.getElem?_eq_getElem this]
    rfl
  exact m_ixt (k := 0) (by omega) rfl e
theorem bot_ixT (ss : List (Int × Int × Int)) (bs : List (Int × Int)) (g : Int) (h : OkP ss bs g) : semIx (.tuple ((lvs ss bs g).map .int)) (.int (-1)) = some (.int (botL (spans ss bs g))) := by
  have hb := bot_ix ss bs g h
  exact hb

end LawX

set_option maxRecDepth 100000
set_option maxHeartbeats 2000000
namespace LawX
open PySem PySem.Spec PyProof.Rows L2 Ev
def valN (l : List Sp5) (f : Sp5 → Int) (k : Nat) : Int := (l[k]?.map f).getD 0
def sumB (l : List Sp5) (b : Bool) (f : Sp5 → Int) : Int := (l.map fun sp => if sp.gv = b then f sp else 0).sum
theorem sum_takeN (l : List Sp5) (f : Sp5 → Int) (b : Bool) : ∀ k : Nat, k ≤ l.length → (((List.range k).filter fun i => gvAt l i == b).map (valN l f)).sum = ((l.take k).map fun sp => if sp.gv = b then f sp else 0).sum
  | 0, _ => by simp
  | k + 1, hk => by
    have ih := sum_takeN l f b k (by omega)
    obtain ⟨sp, e⟩ : ∃ sp, l[k]? = some sp := ⟨_, List.getElem?_eq_getElem (by omega)⟩
    have e2 : gvAt l k = sp.gv := by simp [gvAt, e]
    have e3 : valN l f k = f sp := by simp [valN, e]
    rw [List.range_succ, List.filter_append, List.map_append, List.sum_append, ih, List.take_succ, e, List.map_append, List.sum_append]
    congr 1
    by_cases hb : sp.gv = b
    · rw [List.filter_cons_of_pos (by rw [e2]; simpa using hb)]
      simp [e3, hb]
    · rw [List.filter_cons_of_neg (by rw [e2]; simpa using hb)]
      simp [hb]
theorem sum_nums (l : List Sp5) (f : Sp5 → Int) (b : Bool) : ((nums l b).map (valN l f)).sum = sumB l b f := by
  unfold nums sumB
  rw [sum_takeN _ _ _ _ (Nat.le_refl _), List.take_length]
theorem gv_0 (ss : List (Int × Int × Int)) (bs : List (Int × Int)) (g : Int) (b : Bool) : nums (spans ss bs g) b = nums (spans ss bs 0) b := by
  have e : (spans ss bs g).map Sp5.gv = (spans ss bs 0).map Sp5.gv := by
    unfold spans
    simp only [List.map_append, List.map_map]
    rfl
  have e2 : ∀ i, gvAt (spans ss bs g) i = gvAt (spans ss bs 0) i := fun i => by
    unfold gvAt
    rw [← List.getElem?_map, ← List.getElem?_map, e]
  unfold nums
  rw [sp_len, sp_len]
  simp only [e2]
def endsN (l : List Sp5) (p : List Nat) (x : Int) : Prop := ∃ k ∈ p, ∃ sp, l[k]? = some sp ∧ (x = sp.u ∨ x = sp.l)
theorem ends_snoc {l : List Sp5} {p : List Nat} {k : Nat} {sp : Sp5} (e : l[k]? = some sp) (x : Int) : endsN l (p ++ [k]) x ↔ endsN l p x ∨ (x = sp.u ∨ x = sp.l) := by
  unfold endsN
  constructor
  · rintro ⟨j, hj, q, e1, h⟩
    rcases List.mem_append.mp hj with hj | hj
    · exact .inl ⟨j, hj, q, e1, h⟩
    · rw [List.mem_singleton.mp hj, e] at e1
      cases e1
      exact .inr h
  · rintro (⟨j, hj, h⟩ | h)
    · exact ⟨j, List.mem_append_left _ hj, h⟩
    · exact ⟨k, List.mem_append_right _ (List.mem_singleton.mpr rfl), sp, e, h⟩
def plL (l : List Sp5) (b : Bool) : List Int := sset (lvF (l.filter fun sp => sp.gv == b))
theorem mem_plL {l : List Sp5} {b : Bool} {x : Int} : x ∈ plL l b ↔ ∃ sp, sp ∈ l ∧ sp.gv = b ∧ (x = sp.u ∨ x = sp.l) := by
  unfold plL lvF
  rw [mem_sset, List.mem_flatMap]
  constructor
  · rintro ⟨sp, h, e⟩
    obtain ⟨h1, h2⟩ := List.mem_filter.mp h
    exact ⟨sp, h1, by simpa using h2, by simpa using e⟩
  · rintro ⟨sp, h, h2, e⟩
    exact ⟨sp, List.mem_filter.mpr ⟨h, by simpa using h2⟩, by simpa using e⟩
theorem ends_nums {l : List Sp5} {b : Bool} (x : Int) : endsN l (nums l b) x ↔ x ∈ plL l b := by
  rw [mem_plL]
  constructor
  · rintro ⟨k, hk, sp, e, h⟩
    have h2 := (List.mem_filter.mp hk).2
    have e2 : gvAt l k = sp.gv := by simp [gvAt, e]
    rw [e2] at h2
    exact ⟨sp, List.mem_of_getElem? e, by simpa using h2, h⟩
  · rintro ⟨sp, hs, hb, h⟩
    obtain ⟨k, hk, e⟩ := List.getElem_of_mem hs
    have e1 : l[k]? = some sp := by rw [List.getElem?_eq_getElem hk, e]
    refine ⟨k, List.mem_filter.mpr ⟨List.mem_range.mpr hk, ?_⟩, sp, e1, h⟩
    have e2 : gvAt l k = sp.gv := by simp [gvAt, e1]
    rw [e2]
    simpa using hb
/-- the k-th stream or box, and its span in temperatures -/
theorem numAt (ss : List (Int × Int × Int)) (bs : List (Int × Int)) (k : Nat) (hk : k < ss.length + bs.length) :
    (∃ a b r, k < ss.length ∧ ss[k]? = some (a, b, r) ∧ (spans ss bs 0)[k]? = some (spS 0 (a, b, r)) ∧ semIx (.tuple (ss.map encS)) (encN k) = some (.tuple [.int a, .int b, .int r])) ∨
    (∃ t h, ¬ k < ss.length ∧ bs[k - ss.length]? = some (t, h) ∧ (spans ss bs 0)[k]? = some (spB 0 (t, h)) ∧ semIx (.tuple (bs.map encB)) (.int ((k : Int) - ((ss.map encS).length : Int))) = some (.tuple [.int t, .int h])) := by
  by_cases h1 : k < ss.length
  · obtain ⟨⟨a, b, r⟩, e⟩ : ∃ t, ss[k]? = some t := ⟨_, List.getElem?_eq_getElem h1⟩
    refine .inl ⟨a, b, r, h1, e, ?_, ?_⟩
    · unfold spans
      rw [List.getElem?_append_left (by simpa using h1), List.getElem?_map, e]
      rfl
    · exact m_ixt (k := k) (by omega) (by omega) (by rw [List.getElem?_map, e]; rfl)
  · obtain ⟨⟨t, h⟩, e⟩ : ∃ t, bs[k - ss.length]? = some t := ⟨_, List.getElem?_eq_getElem (by omega)⟩
    refine .inr ⟨t, h, h1, e, ?_, ?_⟩
    · unfold spans
      rw [List.getElem?_append_right (by simpa using h1), List.length_map, List.getElem?_map, e]
      rfl
    · exact m_ixt (k := k - ss.length) (by rw [List.length_map]; omega) (by rw [List.length_map]; omega) (by rw [List.getElem?_map, e]; rfl)
theorem places1 (ss : List (Int × Int × Int)) (bs : List (Int × Int)) (g : Int) (h : OkP ss bs g) (b : Bool) : ∃ (ks : List Int) (x5 : Sl), runL 18 (gN 5) lb_corners_of_1 ((nums (spans ss bs 0) b).map encN) [.val (encP ss bs g), .val (.bool b), .val (.int g), .val (.list ((nums (spans ss bs 0) b).map encN)), .own (.dict []), .un, .un, .un, .un, .un, .un, .un, .un, .un, .val (.tuple (bs.map encB)), .un, .val (.tuple (ss.map encS)), .un] =
    some (.nx [.val (encP ss bs g), .val (.bool b), .val (.int g), .val (.list ((nums (spans ss bs 0) b).map encN)), .own (.dict (encK ks)), x5, .un, .un, .un, .un, .un, .un, .un, .un, .val (.tuple (bs.map encB)), .un, .val (.tuple (ss.map encS)), .un]) ∧ NI x5 ∧ ks.Nodup ∧ ks.length ≤ 1000 ∧ ∀ x, x ∈ ks ↔ x ∈ plL (spans ss bs 0) b := by
  have hs := h.sl
  have hb := h.bl
  have n0 := nums_len (l := spans ss bs 0) (b := b)
  rw [sp_len] at n0
  obtain ⟨ρ1, l9, ks, x5, rfl, n5, nd, len, mem⟩ := loopP (f := lb_corners_of_1) (gg := gN 5) (m := 18) (enc := encN) (fun p ρ => ∃ (ks : List Int) (x5 : Sl), ρ = [.val (encP ss bs g), .val (.bool b), .val (.int g), .val (.list ((nums (spans ss bs 0) b).map encN)), .own (.dict (encK ks)), x5, .un, .un, .un, .un, .un, .un, .un, .un, .val (.tuple (bs.map encB)), .un, .val (.tuple (ss.map encS)), .un] ∧ NI x5 ∧ ks.Nodup ∧ ks.length ≤ 2 * p.length ∧ ∀ x, x ∈ ks ↔ endsN (spans ss bs 0) p x) (nums (spans ss bs 0) b) [.val (encP ss bs g), .val (.bool b), .val (.int g), .val (.list ((nums (spans ss bs 0) b).map encN)), .own (.dict []), .un, .un, .un, .un, .un, .un, .un, .un, .un, .val (.tuple (bs.map encB)), .un, .val (.tuple (ss.map encS)), .un]
    ⟨[], .un, rfl, ni_un, .nil, by simp, fun x => ⟨fun z => (nomatch z), fun ⟨_, z, _⟩ => nomatch z⟩⟩ (fun p k q ρ hp hJ => by
    obtain ⟨ks, x5, rfl, n5, nd, len, mem⟩ := hJ
    have hkm : k ∈ nums (spans ss bs 0) b := by rw [← hp]; simp
    have hk := nums_lt hkm
    rw [sp_len] at hk
    have hpl : p.length ≤ 10 := by
      have := congrArg List.length hp
      simp at this
      omega
    rcases numAt ss bs k hk with ⟨a, c, r, h1, e, e1, ix⟩ | ⟨t, w, h1, e, e1, ix⟩
    · have q1 := len_addK (ks := ks) (u := a)
      have q2 := len_addK (ks := addK ks a) (u := c)
      have hlt : (k : Int) < ((ss.map encS).length : Int) := by rw [List.length_map]; omega
      apply stp (ρ3 := [.val (encP ss bs g), .val (.bool b), .val (.int g), .val (.list ((nums (spans ss bs 0) b).map encN)), .own (.dict (encK (addK (addK ks a) c))), .val (encN k), .un, .un, .un, .un, .un, .un, .un, .un, .val (.tuple (bs.map encB)), .un, .val (.tuple (ss.map encS)), .un]) (gN_ni rfl n5)
      · unfold lb_corners_of_1
        repeat (first | exists (by first | (with_reducible apply ix)) | exists (by first | (with_reducible apply Ev.c_all); intro t ht acc; (with_reducible apply Ev.c_step); (try dsimp only [encS, encB]) | (with_reducible apply Ev.f_all); intro t ht acc; (with_reducible apply Ev.f_step); (try dsimp only [encS, encB]) | (with_reducible apply Ev.s_all); intro t ht; (with_reducible apply Ev.s_step); (try dsimp only [encS, encB]) | (with_reducible apply Ev.a_all); intro t ht; (with_reducible apply Ev.a_step); (try dsimp only [encS, encB])) | sizeOf_list_dec | array_get_dec | exists (by first | ((with_reducible apply m_put) <;> omega) | (with_reducible apply v_fn)) | array_mem_dec)
      · rfl
      · refine ⟨_, .val (encN k), rfl, ni_val, nodup_addK (nodup_addK nd), by simp; omega, fun x => ?_⟩
        rw [ends_snoc e1, mem_addK, mem_addK, mem, or_assoc]
        have hu : ((spS 0 (a, c, r)).u = a ∧ (spS 0 (a, c, r)).l = c) ∨ ((spS 0 (a, c, r)).u = c ∧ (spS 0 (a, c, r)).l = a) := by
          simp only [spS]
          by_cases z1 : c > a
          · exact .inr ⟨by rw [if_pos z1, if_neg (by omega)]; omega, by rw [if_neg (by omega), if_neg (by omega)]; omega⟩
          · by_cases z2 : c < a
            · exact .inl ⟨by rw [if_neg z1, if_pos z2]; omega, by rw [if_pos z2, if_pos z2]; omega⟩
            · exact .inl ⟨by rw [if_neg z1, if_neg z2]; omega, by rw [if_neg z2, if_neg z2]; omega⟩
        rcases hu with ⟨u1, u2⟩ | ⟨u1, u2⟩
        · rw [u1, u2]
        · rw [u1, u2, or_comm (a := x = c)]
    · have q1 := len_addK (ks := ks) (u := t)
      have hlt : ¬ (k : Int) < ((ss.map encS).length : Int) := by rw [List.length_map]; omega
      apply stp (ρ3 := [.val (encP ss bs g), .val (.bool b), .val (.int g), .val (.list ((nums (spans ss bs 0) b).map encN)), .own (.dict (encK (addK ks t))), .val (encN k), .un, .un, .un, .un, .un, .un, .un, .un, .val (.tuple (bs.map encB)), .un, .val (.tuple (ss.map encS)), .un]) (gN_ni rfl n5)
      · unfold lb_corners_of_1
        repeat (first | exists (by first | (with_reducible apply ix)) | exists (by first | (with_reducible apply Ev.c_all); intro t ht acc; (with_reducible apply Ev.c_step); (try dsimp only [encS, encB]) | (with_reducible apply Ev.f_all); intro t ht acc; (with_reducible apply Ev.f_step); (try dsimp only [encS, encB]) | (with_reducible apply Ev.s_all); intro t ht; (with_reducible apply Ev.s_step); (try dsimp only [encS, encB]) | (with_reducible apply Ev.a_all); intro t ht; (with_reducible apply Ev.a_step); (try dsimp only [encS, encB])) | sizeOf_list_dec | array_get_dec | exists (by first | ((with_reducible apply m_put) <;> omega) | (with_reducible apply v_fn)) | array_mem_dec)
      · rfl
      · refine ⟨_, .val (encN k), rfl, ni_val, nodup_addK nd, by simp; omega, fun x => ?_⟩
        rw [ends_snoc e1, mem_addK, mem]
        have u1 : (spB 0 (t, w)).u = t := by simp only [spB]; split <;> omega
        have u2 : (spB 0 (t, w)).l = t := by simp only [spB]; split <;> omega
        rw [u1, u2, or_self])
  exact ⟨ks, x5, l9, n5, nd, by omega, fun x => (mem x).trans (ends_nums x)⟩

end LawX

set_option maxRecDepth 100000
set_option maxHeartbeats 2000000
namespace LawX
open PySem PySem.Spec PyProof.Rows L2 Ev
theorem sumF {τ : Type} {vs : List Nat} {fg : FG} {ft' : FT} {fe : FE} {ρ2 : Er} {enc : τ → D} (y : τ → Int) : ∀ (ts : List τ) (a : Int), (∀ t, t ∈ ts → 0 ≤ y t ∧ y t ≤ 1000000) → 0 ≤ a → a + 1000000 * (ts.length : Int) ≤ 4611686018427387904 →
    (∀ t, t ∈ ts → ∃ ρ3 ρ4, fg (enc t) ρ2 = some ρ3 ∧ ((ft' ρ3 = some (false, ρ4) ∧ y t = 0 ∧ wipeR vs (ρ4.take ρ2.length) = some ρ2) ∨ (ft' ρ3 = some (true, ρ4) ∧ ∃ ρ5, fz fe ρ4 = some (.int (y t), ρ5) ∧ wipeR vs (ρ5.take ρ2.length) = some ρ2))) →
    sumG vs fg ft' fe ρ2.length a (ts.map enc) ρ2 = some (a + (ts.map y).sum, ρ2)
  | [], a, _, _, _, _ => by simp [sumG]
  | t :: r, a, hb, h0, h1, h => by
    obtain ⟨ρ3, ρ4, e1, e2⟩ := h t List.mem_cons_self
    obtain ⟨b0, b1⟩ := hb t List.mem_cons_self
    rw [List.length_cons] at h1
    rcases e2 with ⟨e2, e3, e4⟩ | ⟨e2, ρ5, e3, e4⟩
    · have ih := sumF (vs := vs) (fg := fg) (ft' := ft') (fe := fe) (ρ2 := ρ2) (enc := enc) y r a (fun z hz => hb z (List.mem_cons_of_mem _ hz)) h0 (by omega) fun z hz => h z (List.mem_cons_of_mem _ hz)
      simp only [List.map_cons, sumG, e1, e2, e4, Option.bind_some]
      rw [List.sum_cons, e3, Int.zero_add]
      exact ih
    · have l1 : inLong (y t) = true := in_longB (by omega) (by omega)
      have l2 : inLong (a + y t) = true := in_longB (by omega) (by omega)
      have ih := sumF (vs := vs) (fg := fg) (ft' := ft') (fe := fe) (ρ2 := ρ2) (enc := enc) y r (a + y t) (fun z hz => hb z (List.mem_cons_of_mem _ hz)) (by omega) (by omega) fun z hz => h z (List.mem_cons_of_mem _ hz)
      simp only [List.map_cons, sumG, e1, e2, e3, e4, Option.bind_some, if_true, l1, l2, Bool.and_self]
      rw [ih, List.sum_cons, Int.add_assoc]
def act2 (T Tp : Int) (sp : Sp5) : Int := actS sp T Tp * (T - Tp)
abbrev isS (ss : List (Int × Int × Int)) (k : Nat) : Bool := decide ((k : Int) < ((ss.map encS).length : Int))
theorem corners2 (ss : List (Int × Int × Int)) (bs : List (Int × Int)) (g : Int) (h : OkP ss bs g) (b : Bool) (T Tp hh : Int) (F Dk : D) (pls : List Int) (i : Nat) (ixp : semIx (.list (pls.map .int)) (.int ((i : Int) - 1)) = some (.int Tp)) (x5 x10 x11 x12 x13 x17 : Sl) (n5 : NI x5) (n10 : NI x10) (n11 : NI x11) (n12 : NI x12) :
    ∃ y5 y10 y11 y12, runL 18 (gN 5) lb_corners_of_2 (((nums (spans ss bs 0) b).filter (isS ss)).map encN) [.val (encP ss bs g), .val (.bool b), .val (.int g), .val (.list ((nums (spans ss bs 0) b).map encN)), .own Dk, x5, .own F, .val (.int hh), .val (.list (pls.map .int)), .val (.int i), x10, x11, x12, x13, .val (.tuple (bs.map encB)), .val (.int T), .val (.tuple (ss.map encS)), x17] =
    some (.nx [.val (encP ss bs g), .val (.bool b), .val (.int g), .val (.list ((nums (spans ss bs 0) b).map encN)), .own Dk, y5, .own F, .val (.int (hh + (((nums (spans ss bs 0) b).filter (isS ss)).map (valN (spans ss bs 0) (act2 T Tp))).sum)), .val (.list (pls.map .int)), .val (.int i), y10, y11, y12, x13, .val (.tuple (bs.map encB)), .val (.int T), .val (.tuple (ss.map encS)), x17]) ∧ NI y5 ∧ NI y10 ∧ NI y11 ∧ NI y12 := by
  obtain ⟨ρ1, l9, y5, y10, y11, y12, rfl, hn⟩ := loopP (f := lb_corners_of_2) (gg := gN 5) (m := 18) (enc := encN) (fun p ρ => ∃ y5 y10 y11 y12, ρ = [.val (encP ss bs g), .val (.bool b), .val (.int g), .val (.list ((nums (spans ss bs 0) b).map encN)), .own Dk, y5, .own F, .val (.int (hh + (p.map (valN (spans ss bs 0) (act2 T Tp))).sum)), .val (.list (pls.map .int)), .val (.int i), y10, y11, y12, x13, .val (.tuple (bs.map encB)), .val (.int T), .val (.tuple (ss.map encS)), x17] ∧ NI y5 ∧ NI y10 ∧ NI y11 ∧ NI y12)
    ((nums (spans ss bs 0) b).filter (isS ss)) [.val (encP ss bs g), .val (.bool b), .val (.int g), .val (.list ((nums (spans ss bs 0) b).map encN)), .own Dk, x5, .own F, .val (.int hh), .val (.list (pls.map .int)), .val (.int i), x10, x11, x12, x13, .val (.tuple (bs.map encB)), .val (.int T), .val (.tuple (ss.map encS)), x17] ⟨x5, x10, x11, x12, by simp, n5, n10, n11, n12⟩ (fun p k q ρ hp hJ => by
    obtain ⟨y5, y10, y11, y12, rfl, n5, n10, n11, n12⟩ := hJ
    have hkm : k ∈ (nums (spans ss bs 0) b).filter (isS ss) := by rw [← hp]; simp
    obtain ⟨hk1, hk2⟩ := List.mem_filter.mp hkm
    have hk2 : (k : Int) < ((ss.map encS).length : Int) := of_decide_eq_true hk2
    rw [List.length_map] at hk2
    rcases numAt ss bs k (by omega) with ⟨a, c, r, h1, e, e1, ix⟩ | ⟨t, w, h1, e, e1, ix⟩
    · have os := h.s _ (List.mem_of_getElem? e)
      simp only [OkS] at os
      obtain ⟨f1, hf⟩ : ∃ f1, f1 = hh + (p.map (valN (spans ss bs 0) (act2 T Tp))).sum := ⟨_, rfl⟩
      have hv : valN (spans ss bs 0) (act2 T Tp) k = act2 T Tp (spS 0 (a, c, r)) := by simp [valN, e1]
      have ht : hh + ((p ++ [k]).map (valN (spans ss bs 0) (act2 T Tp))).sum = f1 + act2 T Tp (spS 0 (a, c, r)) := by
        rw [List.map_append, List.sum_append, List.map_singleton, List.sum_singleton, hv, hf]
        omega
      have ha : act2 T Tp (spS 0 (a, c, r)) = if T ≤ (if c > a then c else a) ∧ (if c < a then c else a) ≤ Tp then r * (T - Tp) else 0 := by
        unfold act2 actS
        simp only [spS, ite_self, Int.sub_zero]
        by_cases z : T ≤ (if c > a then c else a) ∧ (if c < a then c else a) ≤ Tp
        · rw [if_pos z, if_pos z]
        · rw [if_neg z, if_neg z, Int.zero_mul]
      rw [← hf]
      simp only [ht, ha]
      generalize hmn : (if c < a then c else a) = mn
      generalize hmx : (if c > a then c else a) = mx
      have emn : semMin2 [.int a, .int c] = some (.int mn) := by rw [← hmn]; rfl
      have emx : semMax2 [.int a, .int c] = some (.int mx) := by rw [← hmx]; rfl
      by_cases z1 : mn ≤ Tp
      · by_cases z2 : T ≤ mx
        · rw [if_pos ⟨z2, z1⟩]
          apply stp (ρ3 := [.val (encP ss bs g), .val (.bool b), .val (.int g), .val (.list ((nums (spans ss bs 0) b).map encN)), .own Dk, .val (encN k), .own F, .val (.int (f1 + r * (T - Tp))), .val (.list (pls.map .int)), .val (.int i), .val (.int a), .val (.int c), .val (.int r), x13, .val (.tuple (bs.map encB)), .val (.int T), .val (.tuple (ss.map encS)), x17]) (gN_ni rfl n5)
          · unfold lb_corners_of_2
            repeat (first | exists (by first | (with_reducible apply ix) | (with_reducible apply ixp) | (with_reducible apply emn) | (with_reducible apply emx)) | exists (by first | (with_reducible apply Ev.c_all); intro t ht acc; (with_reducible apply Ev.c_step); (try dsimp only [encS, encB]) | (with_reducible apply Ev.f_all); intro t ht acc; (with_reducible apply Ev.f_step); (try dsimp only [encS, encB]) | (with_reducible apply Ev.s_all); intro t ht; (with_reducible apply Ev.s_step); (try dsimp only [encS, encB]) | (with_reducible apply Ev.a_all); intro t ht; (with_reducible apply Ev.a_step); (try dsimp only [encS, encB])) | sizeOf_list_dec | array_get_dec | exists (by first | ((with_reducible apply gN_ni (hx := n10)); rfl) | ((with_reducible apply gN_ni (hx := n11)); rfl) | ((with_reducible apply gN_ni (hx := n12)); rfl) | (with_reducible apply v_fn)) | array_mem_dec)
          · rfl
          · exact ⟨.val (encN k), .val (.int a), .val (.int c), .val (.int r), rfl, ni_val, ni_val, ni_val, ni_val⟩
        · rw [if_neg (fun z => z2 z.1), Int.add_zero]
          apply stp (ρ3 := [.val (encP ss bs g), .val (.bool b), .val (.int g), .val (.list ((nums (spans ss bs 0) b).map encN)), .own Dk, .val (encN k), .own F, .val (.int f1), .val (.list (pls.map .int)), .val (.int i), .val (.int a), .val (.int c), .val (.int r), x13, .val (.tuple (bs.map encB)), .val (.int T), .val (.tuple (ss.map encS)), x17]) (gN_ni rfl n5)
          · unfold lb_corners_of_2
            repeat (first | exists (by first | (with_reducible apply ix) | (with_reducible apply ixp) | (with_reducible apply emn) | (with_reducible apply emx)) | exists (by first | (with_reducible apply Ev.c_all); intro t ht acc; (with_reducible apply Ev.c_step); (try dsimp only [encS, encB]) | (with_reducible apply Ev.f_all); intro t ht acc; (with_reducible apply Ev.f_step); (try dsimp only [encS, encB]) | (with_reducible apply Ev.s_all); intro t ht; (with_reducible apply Ev.s_step); (try dsimp only [encS, encB]) | (with_reducible apply Ev.a_all); intro t ht; (with_reducible apply Ev.a_step); (try dsimp only [encS, encB])) | sizeOf_list_dec | array_get_dec | exists (by first | ((with_reducible apply gN_ni (hx := n10)); rfl) | ((with_reducible apply gN_ni (hx := n11)); rfl) | ((with_reducible apply gN_ni (hx := n12)); rfl) | (with_reducible apply v_fn)) | array_mem_dec)
          · rfl
          · exact ⟨.val (encN k), .val (.int a), .val (.int c), .val (.int r), rfl, ni_val, ni_val, ni_val, ni_val⟩
      · rw [if_neg (fun z => z1 z.2), Int.add_zero]
        apply stp (ρ3 := [.val (encP ss bs g), .val (.bool b), .val (.int g), .val (.list ((nums (spans ss bs 0) b).map encN)), .own Dk, .val (encN k), .own F, .val (.int f1), .val (.list (pls.map .int)), .val (.int i), .val (.int a), .val (.int c), .val (.int r), x13, .val (.tuple (bs.map encB)), .val (.int T), .val (.tuple (ss.map encS)), x17]) (gN_ni rfl n5)
        · unfold lb_corners_of_2
          repeat (first | exists (by first | (with_reducible apply ix) | (with_reducible apply ixp) | (with_reducible apply emn) | (with_reducible apply emx)) | exists (by first | (with_reducible apply Ev.c_all); intro t ht acc; (with_reducible apply Ev.c_step); (try dsimp only [encS, encB]) | (with_reducible apply Ev.f_all); intro t ht acc; (with_reducible apply Ev.f_step); (try dsimp only [encS, encB]) | (with_reducible apply Ev.s_all); intro t ht; (with_reducible apply Ev.s_step); (try dsimp only [encS, encB]) | (with_reducible apply Ev.a_all); intro t ht; (with_reducible apply Ev.a_step); (try dsimp only [encS, encB])) | sizeOf_list_dec | array_get_dec | exists (by first | ((with_reducible apply gN_ni (hx := n10)); rfl) | ((with_reducible apply gN_ni (hx := n11)); rfl) | ((with_reducible apply gN_ni (hx := n12)); rfl) | (with_reducible apply v_fn)) | array_mem_dec)
        · rfl
        · exact ⟨.val (encN k), .val (.int a), .val (.int c), .val (.int r), rfl, ni_val, ni_val, ni_val, ni_val⟩
    · omega)
  exact ⟨y5, y10, y11, y12, l9, hn⟩

end LawX

set_option maxRecDepth 100000
set_option maxHeartbeats 4000000
namespace LawX
open PySem PySem.Spec PyProof.Rows L2 Ev
theorem s_par3P {n i j l : Nat} {fs : FA} {p q o : Hd} {ρ ρ1 ρ2 ρ3 ρ4 ρ5 : Er} (h1 : fs ρ = some ([p, q, o], ρ1)) (h2 : [p, q, o].all (apart n 0) = true) (h3 : stH n i p ρ1 = some ρ2) (h4 : stH n j q ρ2 = some ρ3) (h5 : stH n l o ρ3 = some ρ4) (h9 : ρ4.take n = ρ5) : sPar3 n i j l fs ρ = some (.nx ρ5) := by
  subst h9
  simp only [sPar3, h1, h2, h3, h4, h5, Option.bind_some, Option.map_some, if_true]
def uT (l : List Sp5) (b : Bool) (T : Int) : Int := allT l b - totO l T false b
def wT (l : List Sp5) (b : Bool) (T : Int) : Int := allT l b - totO l T true b
def stepV (T : Int) (sp : Sp5) : Int := if sp.r = 0 ∧ sp.u = T then sp.q else 0
theorem sumB_congr {l : List Sp5} {b : Bool} {f k : Sp5 → Int} (h : ∀ sp, sp ∈ l → sp.gv = b → f sp = k sp) : sumB l b f = sumB l b k := by
  unfold sumB
  congr 1
  refine List.map_congr_left fun sp hs => ?_
  by_cases hb : sp.gv = b
  · rw [if_pos hb, if_pos hb, h sp hs hb]
  · rw [if_neg hb, if_neg hb]
theorem sumB_add {l : List Sp5} {b : Bool} {f k : Sp5 → Int} : sumB l b (fun sp => f sp + k sp) = sumB l b f + sumB l b k := by
  unfold sumB
  rw [← sum_add]
  congr 1
  refine List.map_congr_left fun sp _ => ?_
  split <;> simp
theorem tot_B (l : List Sp5) (T : Int) (o b : Bool) : totO l T o b = sumB l b fun sp => hO sp T o := rfl
theorem all_B (l : List Sp5) (b : Bool) : allT l b = sumB l b fullS := rfl
theorem step_eq (l : List Sp5) (b : Bool) (T : Int) : sumB l b (stepV T) = wT l b T - uT l b T := by
  have e : totO l T false b = totO l T true b + sumB l b (stepV T) := by
    rw [tot_B, tot_B, ← sumB_add]
    refine sumB_congr fun sp _ _ => ?_
    unfold stepV hO
    by_cases h0 : sp.r = 0
    · simp only [h0, if_true, true_and]
      by_cases h1 : sp.u = T
      · subst h1
        simp
      · simp [h1]
    · simp [h0]
  unfold wT uT
  omega
theorem u_first {l : List Sp5} (hk : ∀ sp, sp ∈ l → OkSp sp) {b : Bool} {T : Int} (h : ∀ x, x ∈ plL l b → T ≤ x) : uT l b T = 0 := by
  unfold uT
  rw [tot_B, all_B, sumB_congr (f := fun sp => hO sp T false) (k := fullS) fun sp hs hb => hO_bot (hk sp hs) (h _ (mem_plL.mpr ⟨sp, hs, hb, .inr rfl⟩))]
  omega
theorem u_next {l : List Sp5} (hk : ∀ sp, sp ∈ l → OkSp sp) {b : Bool} {T Tp : Int} (hlt : Tp < T) (h : ∀ x, x ∈ plL l b → x ≤ Tp ∨ T ≤ x) : wT l b Tp + sumB l b (act2 T Tp) = uT l b T := by
  have e : totO l Tp true b = totO l T false b + sumB l b (act2 T Tp) := by
    rw [tot_B, tot_B, ← sumB_add]
    refine sumB_congr fun sp hs hb => ?_
    exact hO_seg (hk sp hs) hlt ((h _ (mem_plL.mpr ⟨sp, hs, hb, .inl rfl⟩)).symm) ((h _ (mem_plL.mpr ⟨sp, hs, hb, .inr rfl⟩)).symm) (Int.le_refl _) (by omega) (fun _ => rfl) (fun z => by omega)
  unfold wT uT
  omega
theorem sum_filter0 {α : Type} (P : α → Bool) (f : α → Int) : ∀ ns : List α, (∀ k, k ∈ ns → P k = false → f k = 0) → ((ns.filter P).map f).sum = (ns.map f).sum
  | [], _ => rfl
  | k :: r, h => by
    have ih := sum_filter0 P f r fun x hx => h x (List.mem_cons_of_mem _ hx)
    cases hp : P k with
    | true => rw [List.filter_cons_of_pos hp, List.map_cons, List.map_cons, List.sum_cons, List.sum_cons, ih]
    | false => rw [List.filter_cons_of_neg (by rw [hp]; decide), List.map_cons, List.sum_cons, ih, h k List.mem_cons_self hp, Int.zero_add]
theorem act_sum (ss : List (Int × Int × Int)) (bs : List (Int × Int)) (b : Bool) (T Tp : Int) : (((nums (spans ss bs 0) b).filter (isS ss)).map (valN (spans ss bs 0) (act2 T Tp))).sum = sumB (spans ss bs 0) b (act2 T Tp) := by
  rw [sum_filter0, sum_nums]
  intro k hk hP
  have hk := nums_lt hk
  rw [sp_len] at hk
  have hP : ¬ (k : Int) < ((ss.map encS).length : Int) := of_decide_eq_false hP
  rw [List.length_map] at hP
  rcases numAt ss bs k hk with ⟨a, c, r, h1, e, e1, ix⟩ | ⟨t, w, h1, e, e1, ix⟩
  · omega
  · have : valN (spans ss bs 0) (act2 T Tp) k = act2 T Tp (spB 0 (t, w)) := by simp [valN, e1]
    rw [this]
    unfold act2 actS
    simp only [spB, ite_self, Int.zero_mul]
def cornU (l : List Sp5) (b : Bool) (T : Int) : List (Int × Int) := (uT l b T, T) :: if wT l b T - uT l b T > 0 then [(wT l b T, T)] else []
def cornL (l : List Sp5) (b : Bool) : List (Int × Int) := (plL l b).flatMap (cornU l b)
theorem stepSum (ss : List (Int × Int × Int)) (bs : List (Int × Int)) (g : Int) (h : OkP ss bs g) (b : Bool) (T hh : Int) (F Dk : D) (pls : List Int) (i : Nat) (x5 x10 x11 x12 x13 : Sl) :
    fSum [17] (iSeq (fVar 3)) (gN 17) (tAndB (ft (fBin (fVar 17) (fCall (aCons (fVar 16) aNil) semLen) (semC .GtE))) (ft (fBin (fBin (fBin (fVar 14) (fBin (fVar 17) (fCall (aCons (fVar 16) aNil) semLen) (semBin .Sub)) semIx) (fC (.int 0)) semIx) (fVar 15) (semC .Eq)))) (fCall (aCons (fBin (fBin (fVar 14) (fBin (fVar 17) (fCall (aCons (fVar 16) aNil) semLen) (semBin .Sub)) semIx) (fC (.int 1)) semIx) aNil) semAbs)
      [.val (encP ss bs g), .val (.bool b), .val (.int g), .val (.list ((nums (spans ss bs 0) b).map encN)), .own Dk, x5, .own F, .val (.int hh), .val (.list (pls.map .int)), .val (.int i), x10, x11, x12, x13, .val (.tuple (bs.map encB)), .val (.int T), .val (.tuple (ss.map encS)), .un] =
    some (.v (.int (wT (spans ss bs 0) b T - uT (spans ss bs 0) b T)), [.val (encP ss bs g), .val (.bool b), .val (.int g), .val (.list ((nums (spans ss bs 0) b).map encN)), .own Dk, x5, .own F, .val (.int hh), .val (.list (pls.map .int)), .val (.int i), x10, x11, x12, x13, .val (.tuple (bs.map encB)), .val (.int T), .val (.tuple (ss.map encS)), .un]) := by
  have hs := h.sl
  have hb := h.bl
  have n0 := nums_len (l := spans ss bs 0) (b := b)
  rw [sp_len] at n0
  rw [← step_eq, ← sum_nums, ← Int.zero_add ((nums (spans ss bs 0) b).map _).sum]
  refine v_sum (ρ1 := [.val (encP ss bs g), .val (.bool b), .val (.int g), .val (.list ((nums (spans ss bs 0) b).map encN)), .own Dk, x5, .own F, .val (.int hh), .val (.list (pls.map .int)), .val (.int i), x10, x11, x12, x13, .val (.tuple (bs.map encB)), .val (.int T), .val (.tuple (ss.map encS)), .un]) (ρ2 := [.val (encP ss bs g), .val (.bool b), .val (.int g), .val (.list ((nums (spans ss bs 0) b).map encN)), .own Dk, x5, .own F, .val (.int hh), .val (.list (pls.map .int)), .val (.int i), x10, x11, x12, x13, .val (.tuple (bs.map encB)), .val (.int T), .val (.tuple (ss.map encS)), .un]) (i_seq rfl rfl rfl) rfl (sumF (enc := encN) _ _ _ (fun k hk => ?_) (Int.le_refl 0) (by omega) fun k hk => ?_)
  · have hk := nums_lt hk
    rw [sp_len] at hk
    obtain ⟨sp, e, -⟩ := spAt ss bs 0 ⟨h.s, h.b, h.sl, h.bl, Int.le_refl 0, by omega, h.ne⟩ k hk
    have q := sp_ok ss bs 0 ⟨h.s, h.b, h.sl, h.bl, Int.le_refl 0, by omega, h.ne⟩ sp (List.mem_of_getElem? e)
    rw [show valN (spans ss bs 0) (stepV T) k = stepV T sp by simp [valN, e]]
    unfold stepV
    split <;> omega
  · have hk := nums_lt hk
    rw [sp_len] at hk
    rcases numAt ss bs k hk with ⟨a, c, r, h1, e, e1, ix⟩ | ⟨t, w, h1, e, e1, ix⟩
    · have os := h.s _ (List.mem_of_getElem? e)
      simp only [OkS] at os
      have hlt : (k : Int) < ((ss.map encS).length : Int) := by rw [List.length_map]; omega
      refine ⟨_, [.val (encP ss bs g), .val (.bool b), .val (.int g), .val (.list ((nums (spans ss bs 0) b).map encN)), .own Dk, x5, .own F, .val (.int hh), .val (.list (pls.map .int)), .val (.int i), x10, x11, x12, x13, .val (.tuple (bs.map encB)), .val (.int T), .val (.tuple (ss.map encS)), .val (encN k)], rfl, .inl ⟨?_, ?_, rfl⟩⟩
      · repeat (first | exists (by first | (with_reducible apply Ev.c_all); intro t ht acc; (with_reducible apply Ev.c_step); (try dsimp only [encS, encB]) | (with_reducible apply Ev.f_all); intro t ht acc; (with_reducible apply Ev.f_step); (try dsimp only [encS, encB]) | (with_reducible apply Ev.s_all); intro t ht; (with_reducible apply Ev.s_step); (try dsimp only [encS, encB]) | (with_reducible apply Ev.a_all); intro t ht; (with_reducible apply Ev.a_step); (try dsimp only [encS, encB])) | sizeOf_list_dec | array_get_dec | array_mem_dec)
      · rw [show valN (spans ss bs 0) (stepV T) k = stepV T (spS 0 (a, c, r)) by simp [valN, e1]]
        unfold stepV
        exact if_neg fun z => by have := z.1; simp only [spS] at this; omega
    · have hlt : ¬ (k : Int) < ((ss.map encS).length : Int) := by rw [List.length_map]; omega
      have hv : valN (spans ss bs 0) (stepV T) k = if t = T then (if w < 0 then -w else w) else 0 := by
        rw [show valN (spans ss bs 0) (stepV T) k = stepV T (spB 0 (t, w)) by simp [valN, e1]]
        unfold stepV
        simp only [spB, ite_self, Int.sub_zero, true_and]
      by_cases ht : t = T
      · rw [if_pos ht] at hv
        refine ⟨_, [.val (encP ss bs g), .val (.bool b), .val (.int g), .val (.list ((nums (spans ss bs 0) b).map encN)), .own Dk, x5, .own F, .val (.int hh), .val (.list (pls.map .int)), .val (.int i), x10, x11, x12, x13, .val (.tuple (bs.map encB)), .val (.int T), .val (.tuple (ss.map encS)), .val (encN k)], rfl, .inr ⟨?_, [.val (encP ss bs g), .val (.bool b), .val (.int g), .val (.list ((nums (spans ss bs 0) b).map encN)), .own Dk, x5, .own F, .val (.int hh), .val (.list (pls.map .int)), .val (.int i), x10, x11, x12, x13, .val (.tuple (bs.map encB)), .val (.int T), .val (.tuple (ss.map encS)), .val (encN k)], ?_, rfl⟩⟩
        · repeat (first | exists (by first | (with_reducible apply ix)) | exists (by first | (with_reducible apply Ev.c_all); intro t ht acc; (with_reducible apply Ev.c_step); (try dsimp only [encS, encB]) | (with_reducible apply Ev.f_all); intro t ht acc; (with_reducible apply Ev.f_step); (try dsimp only [encS, encB]) | (with_reducible apply Ev.s_all); intro t ht; (with_reducible apply Ev.s_step); (try dsimp only [encS, encB]) | (with_reducible apply Ev.a_all); intro t ht; (with_reducible apply Ev.a_step); (try dsimp only [encS, encB])) | sizeOf_list_dec | array_get_dec | exists (by first | ((with_reducible apply tr_bool); apply decide_eq_true; omega)) | array_mem_dec)
        · rw [hv]
          refine v_fzz (p := .v _) ?_ rfl
          repeat (first | exists (by first | (with_reducible apply ix)) | exists (by first | (with_reducible apply Ev.c_all); intro t ht acc; (with_reducible apply Ev.c_step); (try dsimp only [encS, encB]) | (with_reducible apply Ev.f_all); intro t ht acc; (with_reducible apply Ev.f_step); (try dsimp only [encS, encB]) | (with_reducible apply Ev.s_all); intro t ht; (with_reducible apply Ev.s_step); (try dsimp only [encS, encB]) | (with_reducible apply Ev.a_all); intro t ht; (with_reducible apply Ev.a_step); (try dsimp only [encS, encB])) | sizeOf_list_dec | array_get_dec | array_mem_dec)
      · rw [if_neg ht] at hv
        refine ⟨_, [.val (encP ss bs g), .val (.bool b), .val (.int g), .val (.list ((nums (spans ss bs 0) b).map encN)), .own Dk, x5, .own F, .val (.int hh), .val (.list (pls.map .int)), .val (.int i), x10, x11, x12, x13, .val (.tuple (bs.map encB)), .val (.int T), .val (.tuple (ss.map encS)), .val (encN k)], rfl, .inl ⟨?_, hv, rfl⟩⟩
        repeat (first | exists (by first | (with_reducible apply ix)) | exists (by first | (with_reducible apply Ev.c_all); intro t ht acc; (with_reducible apply Ev.c_step); (try dsimp only [encS, encB]) | (with_reducible apply Ev.f_all); intro t ht acc; (with_reducible apply Ev.f_step); (try dsimp only [encS, encB]) | (with_reducible apply Ev.s_all); intro t ht; (with_reducible apply Ev.s_step); (try dsimp only [encS, encB]) | (with_reducible apply Ev.a_all); intro t ht; (with_reducible apply Ev.a_step); (try dsimp only [encS, encB])) | sizeOf_list_dec | array_get_dec | exists (by first | ((with_reducible apply tr_bool); apply decide_eq_false; omega)) | array_mem_dec)

end LawX

set_option maxRecDepth 100000
set_option maxHeartbeats 4000000
namespace LawX
open PySem PySem.Spec PyProof.Rows L2 Ev
def enc2 (t : Nat × Int) : D := .tuple [.int (t.1 : Int), .int t.2]
def idxL (pls : List Int) : List (Nat × Int) := pls.mapIdx fun i x => (i, x)
theorem enum_idx (pls : List Int) : enumD (pls.map .int) = (idxL pls).map enc2 := by
  unfold enumD idxL
  refine List.ext_getElem? fun i => ?_
  simp only [List.getElem?_mapIdx, List.getElem?_map, Option.map_map]
  rfl
theorem idx_at {pls : List Int} {p q : List (Nat × Int)} {t : Nat × Int} (h : p ++ t :: q = idxL pls) : t.1 = p.length ∧ pls[p.length]? = some t.2 := by
  have e : (idxL pls)[p.length]? = some t := by rw [← h, List.getElem?_append_right (Nat.le_refl _), Nat.sub_self]; rfl
  unfold idxL at e
  rw [List.getElem?_mapIdx] at e
  obtain ⟨x, e1, e2⟩ := Option.map_eq_some_iff.mp e
  subst e2
  exact ⟨rfl, e1⟩
def hAft (l : List Sp5) (b : Bool) (p : List (Nat × Int)) : Int := (p.getLast?.map fun t => wT l b t.2).getD 0
def fnd (l : List Sp5) (b : Bool) (p : List (Nat × Int)) : List (Int × Int) := p.flatMap fun t => cornU l b t.2
theorem fnd_all (l : List Sp5) (b : Bool) : fnd l b (idxL (plL l b)) = cornL l b := by
  have key : ∀ (pls : List Int) (k : Nat), (pls.mapIdx fun i x => (i + k, x)).flatMap (fun t => cornU l b t.2) = pls.flatMap (cornU l b) := by
    intro pls
    induction pls with
    | nil => intro k; rfl
    | cons x r ih =>
      intro k
      rw [List.mapIdx_cons, List.flatMap_cons, List.flatMap_cons]
      have := ih (k + 1)
      rw [← this]
      congr 2
      refine List.mapIdx_eq_mapIdx_iff.mpr fun i hi => ?_
      congr 1
      omega
  have := key (plL l b) 0
  exact this
theorem fnd_len (l : List Sp5) (b : Bool) : ∀ p : List (Nat × Int), (fnd l b p).length ≤ 2 * p.length
  | [] => by simp [fnd]
  | t :: r => by
    have := fnd_len l b r
    unfold fnd at this ⊢
    rw [List.flatMap_cons, List.length_append, List.length_cons]
    have : (cornU l b t.2).length ≤ 2 := by unfold cornU; split <;> simp
    omega
theorem lt_sset {pls : List Int} (hp : pls.Pairwise fun a b => a < b) {i : Nat} {a c : Int} (ha : pls[i]? = some a) (hc : pls[i + 1]? = some c) : a < c ∧ ∀ x, x ∈ pls → x ≤ a ∨ c ≤ x := by
  obtain ⟨hi, ea⟩ := List.getElem?_eq_some_iff.mp ha
  obtain ⟨hi2, eb⟩ := List.getElem?_eq_some_iff.mp hc
  have key := List.pairwise_iff_getElem.mp hp
  refine ⟨by rw [← ea, ← eb]; exact key i (i + 1) hi hi2 (by omega), fun x hx => ?_⟩
  obtain ⟨k, hk, ek⟩ := List.getElem_of_mem hx
  by_cases c : k ≤ i
  · refine .inl ?_
    by_cases z : k = i
    · subst z; omega
    · have := key k i hk hi (by omega)
      omega
  · refine .inr ?_
    by_cases z : k = i + 1
    · subst z; omega
    · have := key (i + 1) k hi2 hk (by omega)
      omega
theorem first_sset {pls : List Int} (hp : pls.Pairwise fun a b => a < b) {a : Int} (ha : pls[0]? = some a) : ∀ x, x ∈ pls → a ≤ x := by
  obtain ⟨hi, ea⟩ := List.getElem?_eq_some_iff.mp ha
  have key := List.pairwise_iff_getElem.mp hp
  intro x hx
  obtain ⟨k, hk, ek⟩ := List.getElem_of_mem hx
  by_cases z : k = 0
  · subst z; omega
  · have := key 0 k hi hk (by omega)
    omega
theorem corners3 (ss : List (Int × Int × Int)) (bs : List (Int × Int)) (g : Int) (h : OkP ss bs g) (b : Bool) (Dk : D) (x5 : Sl) (n5 : NI x5) :
    ∃ y5 y7 y9 y10 y11 y12 y13 y15, runL 18 (gT (gsCons (gN 9) (gsCons (gN 15) gsNil)) 2) lb_corners_of_3 (enumD ((plL (spans ss bs 0) b).map .int)) [.val (encP ss bs g), .val (.bool b), .val (.int g), .val (.list ((nums (spans ss bs 0) b).map encN)), .own Dk, x5, .own (.list []), .val (.int 0), .val (.list ((plL (spans ss bs 0) b).map .int)), .un, .un, .un, .un, .un, .val (.tuple (bs.map encB)), .un, .val (.tuple (ss.map encS)), .un] =
    some (.nx [.val (encP ss bs g), .val (.bool b), .val (.int g), .val (.list ((nums (spans ss bs 0) b).map encN)), .own Dk, y5, .own (.list ((cornL (spans ss bs 0) b).map encB)), y7, .val (.list ((plL (spans ss bs 0) b).map .int)), y9, y10, y11, y12, y13, .val (.tuple (bs.map encB)), y15, .val (.tuple (ss.map encS)), .un]) := by
  have h0 : OkP ss bs 0 := ⟨h.s, h.b, h.sl, h.bl, Int.le_refl 0, by omega, h.ne⟩
  have hk := spans_ok ss bs 0 h0
  have hlt : (plL (spans ss bs 0) b).Pairwise fun a c => a < c := sset_lt _
  have hs := h.sl
  have hb := h.bl
  have n0 := nums_len (l := spans ss bs 0) (b := b)
  rw [sp_len] at n0
  have nn : (nums (spans ss bs 0) b).length ≤ 1000000 := by omega
  have pl0 : (plL (spans ss bs 0) b).length ≤ 1000 := by
    have h1 := len_sset (lvF ((spans ss bs 0).filter fun sp => sp.gv == b))
    have h2 := lvF_len ((spans ss bs 0).filter fun sp => sp.gv == b)
    have h3 := List.length_filter_le (fun sp : Sp5 => sp.gv == b) (spans ss bs 0)
    rw [sp_len] at h3
    unfold plL
    omega
  generalize hpl : plL (spans ss bs 0) b = pls at *
  rw [enum_idx]
  obtain ⟨ρ1, l9, y5, y9, y10, y11, y12, y13, y15, rfl, -⟩ := loopP (f := lb_corners_of_3) (gg := gT (gsCons (gN 9) (gsCons (gN 15) gsNil)) 2) (m := 18) (enc := enc2) (fun p ρ => ∃ y5 y9 y10 y11 y12 y13 y15, ρ = [.val (encP ss bs g), .val (.bool b), .val (.int g), .val (.list ((nums (spans ss bs 0) b).map encN)), .own Dk, y5, .own (.list ((fnd (spans ss bs 0) b p).map encB)), .val (.int (hAft (spans ss bs 0) b p)), .val (.list (pls.map .int)), y9, y10, y11, y12, y13, .val (.tuple (bs.map encB)), y15, .val (.tuple (ss.map encS)), .un] ∧ NI y5 ∧ NI y9 ∧ NI y10 ∧ NI y11 ∧ NI y12 ∧ NI y13 ∧ NI y15)
    (idxL pls) [.val (encP ss bs g), .val (.bool b), .val (.int g), .val (.list ((nums (spans ss bs 0) b).map encN)), .own Dk, x5, .own (.list []), .val (.int 0), .val (.list (pls.map .int)), .un, .un, .un, .un, .un, .val (.tuple (bs.map encB)), .un, .val (.tuple (ss.map encS)), .un] ⟨x5, _, _, _, _, _, _, rfl, n5, ni_un, ni_un, ni_un, ni_un, ni_un, ni_un⟩ (fun p t q ρ hp hJ => by
    obtain ⟨y5, y9, y10, y11, y12, y13, y15, rfl, n5, n9, n10, n11, n12, n13, n15⟩ := hJ
    obtain ⟨i, T⟩ := t
    obtain ⟨hi, eT⟩ := idx_at hp
    simp only at hi eT
    subst hi
    have hpl2 : p.length ≤ 1000 := by
      have := congrArg List.length hp
      unfold idxL at this
      simp at this
      omega
    have fl := fnd_len (spans ss bs 0) b p
    have fl1 : ((fnd (spans ss bs 0) b p).map encB).length ≤ 1000000 := by rw [List.length_map]; omega
    have fl2 : ((fnd (spans ss bs 0) b p).map encB ++ [PyData.tuple [.int (uT (spans ss bs 0) b T), .int T]]).length ≤ 1000000 := by simp; omega
    have tk1 : wT (spans ss bs 0) b T - uT (spans ss bs 0) b T > 0 → (fnd (spans ss bs 0) b (p ++ [(p.length, T)])).map encB = (fnd (spans ss bs 0) b p).map encB ++ [PyData.tuple [.int (uT (spans ss bs 0) b T), .int T]] ++ [PyData.tuple [.int (uT (spans ss bs 0) b T + (wT (spans ss bs 0) b T - uT (spans ss bs 0) b T)), .int T]] := fun c => by
      rw [show uT (spans ss bs 0) b T + (wT (spans ss bs 0) b T - uT (spans ss bs 0) b T) = wT (spans ss bs 0) b T by omega]
      unfold fnd cornU
      rw [List.flatMap_append, List.flatMap_singleton, if_pos c, List.map_append, List.append_assoc]
      rfl
    have tk2 : ¬ wT (spans ss bs 0) b T - uT (spans ss bs 0) b T > 0 → (fnd (spans ss bs 0) b (p ++ [(p.length, T)])).map encB = (fnd (spans ss bs 0) b p).map encB ++ [PyData.tuple [.int (uT (spans ss bs 0) b T), .int T]] := fun c => by
      unfold fnd cornU
      rw [List.flatMap_append, List.flatMap_singleton, if_neg c, List.map_append]
      rfl
    have th : hAft (spans ss bs 0) b (p ++ [(p.length, T)]) = wT (spans ss bs 0) b T := by simp [hAft]
    have wu : uT (spans ss bs 0) b T ≤ wT (spans ss bs 0) b T := by
      have e := step_eq (spans ss bs 0) b T
      have : 0 ≤ sumB (spans ss bs 0) b (stepV T) := by
        have z := sum_le (spans ss bs 0) (fun _ => (0 : Int)) (fun sp => if sp.gv = b then stepV T sp else 0) fun sp hs => by
          have := (hk sp hs).q0
          simp only [stepV]
          split
          · split <;> omega
          · exact Int.le_refl 0
        have z0 : ((spans ss bs 0).map fun _ => (0 : Int)).sum = 0 := sum_zero _ _ fun _ _ => rfl
        rw [z0] at z
        exact z
      omega
    rcases List.eq_nil_or_concat p with rfl | ⟨p', ⟨i', Tp⟩, hpc⟩
    · have hU : hAft (spans ss bs 0) b [] = uT (spans ss bs 0) b T := by
        have : uT (spans ss bs 0) b T = 0 := u_first hk fun x hx => by
          rw [hpl] at hx
          exact first_sset hlt eT x hx
        rw [this]
        rfl
      rw [hU]
      have st := stepSum ss bs g h b T (uT (spans ss bs 0) b T) (.list ((fnd (spans ss bs 0) b []).map encB ++ [PyData.tuple [.int (uT (spans ss bs 0) b T), .int T]])) Dk pls ([] : List (Nat × Int)).length y5 y10 y11 y12 y13
      have hi0 : (([] : List (Nat × Int)).length : Int) = 0 := rfl
      clear hU
      generalize uT (spans ss bs 0) b T = U at *
      generalize wT (spans ss bs 0) b T = W at *
      by_cases c : W - U > 0
      · refine ⟨[.val (encP ss bs g), .val (.bool b), .val (.int g), .val (.list ((nums (spans ss bs 0) b).map encN)), .own Dk, y5, .own (.list ((fnd (spans ss bs 0) b []).map encB)), .val (.int U), .val (.list (pls.map .int)), .val (.int (([] : List (Nat × Int)).length : Int)), y10, y11, y12, y13, .val (.tuple (bs.map encB)), .val (.int T), .val (.tuple (ss.map encS)), .un], [.val (encP ss bs g), .val (.bool b), .val (.int g), .val (.list ((nums (spans ss bs 0) b).map encN)), .own Dk, y5, .own (.list ((fnd (spans ss bs 0) b []).map encB ++ [PyData.tuple [.int U, .int T]] ++ [PyData.tuple [.int (U + (W - U)), .int T]])), .val (.int (U + (W - U))), .val (.list (pls.map .int)), .val (.int (([] : List (Nat × Int)).length : Int)), y10, y11, y12, .val (.int (W - U)), .val (.tuple (bs.map encB)), .val (.int T), .val (.tuple (ss.map encS)), .un], ?_, ?_, ⟨y5, .val (.int (([] : List (Nat × Int)).length : Int)), y10, y11, y12, .val (.int (W - U)), .val (.int T), by rw [tk1 c, th, show U + (W - U) = W by omega], n5, ni_val, n10, n11, n12, ni_val, ni_val⟩⟩
        · unfold enc2
          repeat (first | array_get_dec | exists (by first | ((with_reducible apply gN_ni (hx := n9)); rfl) | ((with_reducible apply gN_ni (hx := n15)); rfl)) | array_mem_dec)
        · unfold lb_corners_of_3
          repeat (first | exists (by first | ((with_reducible apply e_at st); rfl)) | exists (by first | (with_reducible apply Ev.c_all); intro t ht acc; (with_reducible apply Ev.c_step); (try dsimp only [encS, encB]) | (with_reducible apply Ev.f_all); intro t ht acc; (with_reducible apply Ev.f_step); (try dsimp only [encS, encB]) | (with_reducible apply Ev.s_all); intro t ht; (with_reducible apply Ev.s_step); (try dsimp only [encS, encB]) | (with_reducible apply Ev.a_all); intro t ht; (with_reducible apply Ev.a_step); (try dsimp only [encS, encB])) | sizeOf_list_dec | array_get_dec | exists (by first | ((with_reducible apply m_app); first | exact fl1 | exact fl2) | ((with_reducible apply stH_ni (hx := n13)); rfl)) | array_mem_dec)
      · refine ⟨[.val (encP ss bs g), .val (.bool b), .val (.int g), .val (.list ((nums (spans ss bs 0) b).map encN)), .own Dk, y5, .own (.list ((fnd (spans ss bs 0) b []).map encB)), .val (.int U), .val (.list (pls.map .int)), .val (.int (([] : List (Nat × Int)).length : Int)), y10, y11, y12, y13, .val (.tuple (bs.map encB)), .val (.int T), .val (.tuple (ss.map encS)), .un], [.val (encP ss bs g), .val (.bool b), .val (.int g), .val (.list ((nums (spans ss bs 0) b).map encN)), .own Dk, y5, .own (.list ((fnd (spans ss bs 0) b []).map encB ++ [PyData.tuple [.int U, .int T]])), .val (.int U), .val (.list (pls.map .int)), .val (.int (([] : List (Nat × Int)).length : Int)), y10, y11, y12, .val (.int (W - U)), .val (.tuple (bs.map encB)), .val (.int T), .val (.tuple (ss.map encS)), .un], ?_, ?_, ⟨y5, .val (.int (([] : List (Nat × Int)).length : Int)), y10, y11, y12, .val (.int (W - U)), .val (.int T), by rw [tk2 c, th, show W = U by omega], n5, ni_val, n10, n11, n12, ni_val, ni_val⟩⟩
        · unfold enc2
          repeat (first | array_get_dec | exists (by first | ((with_reducible apply gN_ni (hx := n9)); rfl) | ((with_reducible apply gN_ni (hx := n15)); rfl)) | array_mem_dec)
        · unfold lb_corners_of_3
          repeat (first | exists (by first | ((with_reducible apply e_at st); rfl)) | exists (by first | (with_reducible apply Ev.c_all); intro t ht acc; (with_reducible apply Ev.c_step); (try dsimp only [encS, encB]) | (with_reducible apply Ev.f_all); intro t ht acc; (with_reducible apply Ev.f_step); (try dsimp only [encS, encB]) | (with_reducible apply Ev.s_all); intro t ht; (with_reducible apply Ev.s_step); (try dsimp only [encS, encB]) | (with_reducible apply Ev.a_all); intro t ht; (with_reducible apply Ev.a_step); (try dsimp only [encS, encB])) | sizeOf_list_dec | array_get_dec | exists (by first | ((with_reducible apply m_app); first | exact fl1 | exact fl2) | ((with_reducible apply stH_ni (hx := n13)); rfl)) | array_mem_dec)
    · rw [List.concat_eq_append] at hpc
      subst hpc
      obtain ⟨hi2, eP⟩ := idx_at (p := p') (t := (i', Tp)) (q := ((p' ++ [(i', Tp)]).length, T) :: q) (by rw [← hp]; simp)
      simp only at hi2 eP
      have hl2 : (p' ++ [(i', Tp)]).length = p'.length + 1 := by simp
      have eT2 : pls[p'.length + 1]? = some T := by rw [← hl2]; exact eT
      obtain ⟨q1, q2⟩ := lt_sset hlt eP eT2
      have hh : hAft (spans ss bs 0) b (p' ++ [(i', Tp)]) = wT (spans ss bs 0) b Tp := by simp [hAft]
      have hN := u_next hk q1 fun x hx => by
        rw [hpl] at hx
        exact q2 x hx
      have ixp : semIx (.list (pls.map .int)) (.int (((p' ++ [(i', Tp)]).length : Int) - 1)) = some (.int Tp) := m_ix (k := p'.length) (by rw [hl2]; omega) (by rw [hl2]; omega) (by rw [List.getElem?_map, eP]; rfl)
      obtain ⟨z5, z10, z11, z12, l2, m5, m10, m11, m12⟩ := corners2 ss bs g h b T Tp (wT (spans ss bs 0) b Tp) (.list ((fnd (spans ss bs 0) b (p' ++ [(i', Tp)])).map encB)) Dk pls (p' ++ [(i', Tp)]).length ixp y5 y10 y11 y12 y13 .un n5 n10 n11 n12
      rw [act_sum, hN] at l2
      rw [hh]
      have hi1 : 0 < ((p' ++ [(i', Tp)]).length : Int) := by rw [hl2]; omega
      have st := stepSum ss bs g h b T (uT (spans ss bs 0) b T) (.list ((fnd (spans ss bs 0) b (p' ++ [(i', Tp)])).map encB ++ [PyData.tuple [.int (uT (spans ss bs 0) b T), .int T]])) Dk pls (p' ++ [(i', Tp)]).length z5 z10 z11 z12 y13
      clear hp hpl2 hi2 eP hl2 eT2 hN fl hh
      generalize p' ++ [(i', Tp)] = pp at *
      generalize uT (spans ss bs 0) b T = U at *
      generalize wT (spans ss bs 0) b T = W at *
      generalize wT (spans ss bs 0) b Tp = hh at *
      by_cases c : W - U > 0
      · refine ⟨[.val (encP ss bs g), .val (.bool b), .val (.int g), .val (.list ((nums (spans ss bs 0) b).map encN)), .own Dk, y5, .own (.list ((fnd (spans ss bs 0) b pp).map encB)), .val (.int hh), .val (.list (pls.map .int)), .val (.int (pp.length : Int)), y10, y11, y12, y13, .val (.tuple (bs.map encB)), .val (.int T), .val (.tuple (ss.map encS)), .un], [.val (encP ss bs g), .val (.bool b), .val (.int g), .val (.list ((nums (spans ss bs 0) b).map encN)), .own Dk, z5, .own (.list ((fnd (spans ss bs 0) b pp).map encB ++ [PyData.tuple [.int U, .int T]] ++ [PyData.tuple [.int (U + (W - U)), .int T]])), .val (.int (U + (W - U))), .val (.list (pls.map .int)), .val (.int (pp.length : Int)), z10, z11, z12, .val (.int (W - U)), .val (.tuple (bs.map encB)), .val (.int T), .val (.tuple (ss.map encS)), .un], ?_, ?_, ⟨z5, .val (.int (pp.length : Int)), z10, z11, z12, .val (.int (W - U)), .val (.int T), by rw [tk1 c, th, show U + (W - U) = W by omega], m5, ni_val, m10, m11, m12, ni_val, ni_val⟩⟩
        · unfold enc2
          repeat (first | array_get_dec | exists (by first | ((with_reducible apply gN_ni (hx := n9)); rfl) | ((with_reducible apply gN_ni (hx := n15)); rfl)) | array_mem_dec)
        · unfold lb_corners_of_3
          repeat (first | exists (by first | ((with_reducible apply e_at st); rfl) | (with_reducible apply ixp)) | exists (by first | (with_reducible apply Ev.c_all); intro t ht acc; (with_reducible apply Ev.c_step); (try dsimp only [encS, encB]) | (with_reducible apply Ev.f_all); intro t ht acc; (with_reducible apply Ev.f_step); (try dsimp only [encS, encB]) | (with_reducible apply Ev.s_all); intro t ht; (with_reducible apply Ev.s_step); (try dsimp only [encS, encB]) | (with_reducible apply Ev.a_all); intro t ht; (with_reducible apply Ev.a_step); (try dsimp only [encS, encB])) | sizeOf_list_dec | array_get_dec | exists (by first | ((with_reducible apply l_at (l2)); rfl) | (exact nn) | ((with_reducible apply m_app); first | exact fl1 | exact fl2) | ((with_reducible apply stH_ni (hx := n13)); rfl)) | array_mem_dec)
      · refine ⟨[.val (encP ss bs g), .val (.bool b), .val (.int g), .val (.list ((nums (spans ss bs 0) b).map encN)), .own Dk, y5, .own (.list ((fnd (spans ss bs 0) b pp).map encB)), .val (.int hh), .val (.list (pls.map .int)), .val (.int (pp.length : Int)), y10, y11, y12, y13, .val (.tuple (bs.map encB)), .val (.int T), .val (.tuple (ss.map encS)), .un], [.val (encP ss bs g), .val (.bool b), .val (.int g), .val (.list ((nums (spans ss bs 0) b).map encN)), .own Dk, z5, .own (.list ((fnd (spans ss bs 0) b pp).map encB ++ [PyData.tuple [.int U, .int T]])), .val (.int U), .val (.list (pls.map .int)), .val (.int (pp.length : Int)), z10, z11, z12, .val (.int (W - U)), .val (.tuple (bs.map encB)), .val (.int T), .val (.tuple (ss.map encS)), .un], ?_, ?_, ⟨z5, .val (.int (pp.length : Int)), z10, z11, z12, .val (.int (W - U)), .val (.int T), by rw [tk2 c, th, show W = U by omega], m5, ni_val, m10, m11, m12, ni_val, ni_val⟩⟩
        · unfold enc2
          repeat (first | array_get_dec | exists (by first | ((with_reducible apply gN_ni (hx := n9)); rfl) | ((with_reducible apply gN_ni (hx := n15)); rfl)) | array_mem_dec)
        · unfold lb_corners_of_3
          repeat (first | exists (by first | ((with_reducible apply e_at st); rfl) | (with_reducible apply ixp)) | exists (by first | (with_reducible apply Ev.c_all); intro t ht acc; (with_reducible apply Ev.c_step); (try dsimp only [encS, encB]) | (with_reducible apply Ev.f_all); intro t ht acc; (with_reducible apply Ev.f_step); (try dsimp only [encS, encB]) | (with_reducible apply Ev.s_all); intro t ht; (with_reducible apply Ev.s_step); (try dsimp only [encS, encB]) | (with_reducible apply Ev.a_all); intro t ht; (with_reducible apply Ev.a_step); (try dsimp only [encS, encB])) | sizeOf_list_dec | array_get_dec | exists (by first | ((with_reducible apply l_at (l2)); rfl) | (exact nn) | ((with_reducible apply m_app); first | exact fl1 | exact fl2) | ((with_reducible apply stH_ni (hx := n13)); rfl)) | array_mem_dec))
  rw [← fnd_all, hpl]
  exact ⟨y5, _, y9, y10, y11, y12, y13, y15, l9⟩

end LawX

set_option maxRecDepth 100000
set_option maxHeartbeats 2000000
namespace LawX
open PySem PySem.Spec PyProof.Rows L2 Ev
theorem cornersOf (ss : List (Int × Int × Int)) (bs : List (Int × Int)) (g : Int) (h : OkP ss bs g) (b : Bool) : F_corners_of.g [encP ss bs g, .bool b] = some (.list ((cornL (spans ss bs 0) b).map encB), [.none, .none]) := by
  have e1 := numbersOf ss bs g h b
  rw [gv_0] at e1
  obtain ⟨ks, x5, l1, n5, nd, len, mem⟩ := places1 ss bs g h b
  have ld := m_listD ks
  have ms : semSort [.list (ks.map .int)] = some (.list ((plL (spans ss bs 0) b).map .int)) := m_sort ks _ (by omega) nd fun x => (mem x).trans (mem_sset (l := lvF ((spans ss bs 0).filter fun sp => sp.gv == b)))
  obtain ⟨y5, y7, y9, y10, y11, y12, y13, y15, l3⟩ := corners3 ss bs g h b (.dict (encK ks)) x5 n5
  unfold F_corners_of fb_corners_of
  dsimp only
  repeat (first | exists (by first | (with_reducible apply s_par3P) | (with_reducible apply Ev.i_enumL) | ((with_reducible apply call_at ld); rfl) | ((with_reducible apply call_at ms); rfl)) | exists (by first | (with_reducible apply Ev.c_all); intro t ht acc; (with_reducible apply Ev.c_step); (try dsimp only [encS, encB]) | (with_reducible apply Ev.f_all); intro t ht acc; (with_reducible apply Ev.f_step); (try dsimp only [encS, encB]) | (with_reducible apply Ev.s_all); intro t ht; (with_reducible apply Ev.s_step); (try dsimp only [encS, encB]) | (with_reducible apply Ev.a_all); intro t ht; (with_reducible apply Ev.a_step); (try dsimp only [encS, encB])) | sizeOf_list_dec | array_get_dec | exists (by first | ((with_reducible apply v_at (e1)); rfl) | ((with_reducible apply l_at (l1)); rfl) | ((with_reducible apply l_at (l3)); rfl) | (with_reducible apply v_fn)) | array_mem_dec)
theorem curve_ (ss : List (Int × Int × Int)) (bs : List (Int × Int)) (g : Int) (h : OkP ss bs g) (b : Bool) : F_curve.g [encP ss bs g, .bool b] = some (.tuple ((cornL (spans ss bs 0) b).map encB), [.none, .none]) := by
  have e0 := needProblem ss bs g h
  have e1 := cornersOf ss bs g h b
  unfold F_curve fb_curve
  dsimp only
  repeat (first | exists (by first | (with_reducible apply Ev.c_all); intro t ht acc; (with_reducible apply Ev.c_step); (try dsimp only [encS, encB]) | (with_reducible apply Ev.f_all); intro t ht acc; (with_reducible apply Ev.f_step); (try dsimp only [encS, encB]) | (with_reducible apply Ev.s_all); intro t ht; (with_reducible apply Ev.s_step); (try dsimp only [encS, encB]) | (with_reducible apply Ev.a_all); intro t ht; (with_reducible apply Ev.a_step); (try dsimp only [encS, encB])) | sizeOf_list_dec | array_get_dec | exists (by first | ((with_reducible apply v_at (e0)); rfl) | ((with_reducible apply v_at (e1)); rfl) | (with_reducible apply v_fn)) | array_mem_dec)

end LawX

set_option maxRecDepth 100000
set_option maxHeartbeats 1000000
namespace LawX
open PySem PySem.Spec PyProof.Rows L2 Ev
theorem runL_consN {f : FS} {m : Nat} {gg : FG} {d : D} {r : List D} {ρ ρ1 ρ2 ρ9 : Er} {x : Rs} (h1 : gg d ρ = some ρ1) (h9 : ρ1.take m = ρ9) (h2 : f ρ9 = some (.nx ρ2)) (h3 : runL m gg f r ρ2 = some x) : runL m gg f (d :: r) ρ = some x := by
  subst h9
  exact runL_cons h1 h2 h3
theorem givenAbove (ss : List (Int × Int × Int)) (bs : List (Int × Int)) (g : Int) (h : OkP ss bs g) (L : Int) : F_given_above.g [encP ss bs g, .int L] = some (.tuple [.int (totO (spans ss bs g) L true true), .int (totO (spans ss bs g) L true false)], [.none, .none]) := by
  have e0 := needProblem ss bs g h
  have e1 := numbersOf ss bs g h true
  have e2 := numbersOf ss bs g h false
  have hs := h.sl
  have hb := h.bl
  have n0 := nums_len (l := spans ss bs g) (b := false)
  have n1 := nums_len (l := spans ss bs g) (b := true)
  rw [sp_len] at n0 n1
  rw [← tot_nums, ← tot_nums]
  unfold F_given_above fb_given_above
  dsimp only
  repeat (first | exists (by first | (with_reducible apply runL_consN) | ((with_reducible apply m_app); (simp <;> omega))) | exists (by first | (with_reducible apply Ev.c_all); intro t ht acc; (with_reducible apply Ev.c_step); (try dsimp only [encS, encB]) | (with_reducible apply Ev.f_all); intro t ht acc; (with_reducible apply Ev.f_step); (try dsimp only [encS, encB]) | (with_reducible apply Ev.s_all); intro t ht; (with_reducible apply Ev.s_step); (try dsimp only [encS, encB]) | (with_reducible apply Ev.a_all); intro t ht; (with_reducible apply Ev.a_step); (try dsimp only [encS, encB])) | sizeOf_list_dec | array_get_dec | exists (by first | (unfold lb_given_above_1) | ((with_reducible apply v_at (e0)); rfl) | ((with_reducible apply v_at (e1)); rfl) | ((with_reducible apply v_at (e2)); rfl) | ((with_reducible apply v_at (heatN ss bs g h L true _ t ht)); rfl) | (exact yN_bd ss bs g h L true _) | omega | (with_reducible apply v_fn)) | array_mem_dec)

end LawX

set_option maxRecDepth 100000
set_option maxHeartbeats 1000000
namespace LawX
open PySem PySem.Spec PyProof.Rows L2 Ev
theorem okG {ss : List (Int × Int × Int)} {bs : List (Int × Int)} {g k : Int} (h : OkP ss bs g) (h0 : 0 ≤ k) (h1 : k ≤ 100) : OkP ss bs k := ⟨h.s, h.b, h.sl, h.bl, h0, h1, h.ne⟩
def hG (ss : List (Int × Int × Int)) (bs : List (Int × Int)) (t : Nat) : Int := heatL (spans ss bs (0 + (t : Int)))
theorem gapCurve (ss : List (Int × Int × Int)) (bs : List (Int × Int)) (g : Int) (h : OkP ss bs g) (m : Nat) (hm : m ≤ 100) : F_gap_curve.g [encP ss bs g, .int (m : Int)] = some (.tuple ((List.range ((m : Int) + 1).toNat).map fun t => .int (hG ss bs t)), [.none, .none]) := by
  have e0 := needProblem ss bs g h
  have e1 := isIn (m : Int) 0 100 (by omega) (by omega)
  unfold F_gap_curve fb_gap_curve
  dsimp only
  repeat (first | exists (by first | ((with_reducible apply m_bnd) <;> omega)) | exists (by first | (with_reducible apply Ev.c_all); intro t ht acc; (with_reducible apply Ev.c_step); (try dsimp only [encS, encB]) | (with_reducible apply Ev.f_all); intro t ht acc; (with_reducible apply Ev.f_step); (try dsimp only [encS, encB]) | (with_reducible apply Ev.s_all); intro t ht; (with_reducible apply Ev.s_step); (try dsimp only [encS, encB]) | (with_reducible apply Ev.a_all); intro t ht; (with_reducible apply Ev.a_step); (try dsimp only [encS, encB])) | sizeOf_list_dec | array_get_dec | exists (by first | ((with_reducible apply v_at (e0)); rfl) | ((with_reducible apply v_at (e1)); rfl) | ((with_reducible apply v_at (heatingOf ss bs (0 + (t : Int)) (okG h (by omega) (by have := List.mem_range.mp ht; omega)))); rfl) | ((rw [List.length_range]); omega) | (with_reducible apply v_fn)) | array_mem_dec)

end LawX

set_option maxRecDepth 100000
set_option maxHeartbeats 1000000
namespace LawX
open PySem PySem.Spec PyProof.Rows L2 Ev
theorem ite_andB {A B C D : Prop} (h : (A ∧ B) ∨ (C ∧ D)) : (A ∧ B) ∨ (C ∧ D) := h
theorem m_neNil {ds : List D} (h : ∀ x ∈ ds, x.canLay0 = true ∧ x.depth ≤ 5) : semC .NotEq (.tuple ds) (.tuple []) = some (.bool (!ds.isEmpty)) := by
  have e : semC .NotEq (.tuple ds) (.tuple []) = semNe (.tuple ds) (.tuple []) := by unfold semC semCmp; rfl
  rw [e]
  have n : SeqAt.shaped (.tuple []) = true := shp_all (ds := []) (fun _ h => nomatch h)
  simp only [semNe, shp_all h, n, Bool.and_self, if_true]
  cases ds <;> simp [PyData.eqv, PyData.eqvAll]
theorem m_eqNilT {ds : List D} (h : ∀ x ∈ ds, x.canLay0 = true ∧ x.depth ≤ 5) : semC .Eq (.tuple ds) (.tuple []) = some (.bool ds.isEmpty) := by
  have e : semC .Eq (.tuple ds) (.tuple []) = semEq (.tuple ds) (.tuple []) := by unfold semC semCmp; rfl
  rw [e]
  have n : SeqAt.shaped (.tuple []) = true := shp_all (ds := []) (fun _ h => nomatch h)
  simp only [semEq, shp_all h, n, Bool.and_self, if_true]
  cases ds <;> simp [PyData.eqv, PyData.eqvAll]
theorem cut1 {ds : List D} (j : Nat) (hj : j ≤ ds.length) : semSl (.tuple ds) none (some (j : Int)) = some (.tuple (ds.take j)) := by
  simp only [semSl, Ev.cutD, HT.sIx_none, HT.sIx_nat, List.drop_zero, Nat.sub_zero]
  rw [Nat.min_eq_left (by omega : j ≤ ds.length)]
theorem cut2 {ds : List D} (j : Nat) (hj : j + 1 ≤ ds.length) : semSl (.tuple ds) (some ((j : Int) + 1)) none = some (.tuple (ds.drop (j + 1))) := by
  have e : ((j : Int) + 1) = ((j + 1 : Nat) : Int) := by omega
  rw [e]
  simp only [semSl, Ev.cutD, HT.sIx_none, HT.sIx_nat]
  rw [Nat.min_eq_left hj, ← List.length_drop, List.take_length]
theorem m_addT {a b : List D} (h : a.length + b.length ≤ 1000000) : semBin .Add (.tuple a) (.tuple b) = some (.tuple (a ++ b)) := if_pos h
theorem ix_last {ds : List D} {d : D} (h : ds.getLast? = some d) : semIx (.tuple ds) (.int (-1)) = some d := by
  have h0 : 0 < ds.length := by
    cases ds with
    | nil => simp at h
    | cons a r => simp
  have e : semIx (.list ds) (.int (-1)) = some d := m_ixn h0 (by rw [← List.getLast?_eq_getElem?]; exact h)
  exact e
theorem eqv_B (s t : Int × Int) : PyData.eqv (encB s) (encB t) = decide (s = t) := by
  obtain ⟨a, b⟩ := s
  obtain ⟨c, d⟩ := t
  by_cases h1 : a = c <;> by_cases h2 : b = d <;> simp [encB, PyData.eqv, PyData.eqvAll, h1, h2]
theorem eqv_S (s t : Int × Int × Int) : PyData.eqv (encS s) (encS t) = decide (s = t) := by
  obtain ⟨a, b, e⟩ := s
  obtain ⟨c, d, f⟩ := t
  by_cases h1 : a = c <;> by_cases h2 : b = d <;> by_cases h3 : e = f <;> simp [encS, PyData.eqv, PyData.eqvAll, h1, h2, h3]
theorem shpB (t : Int × Int) : SeqAt.shaped (encB t) = true := by
  simp [SeqAt.shaped, encB, PyData.canLay0, PyData.canLayAll0, PyData.depth, PyData.depthAll]
theorem shpS (t : Int × Int × Int) : SeqAt.shaped (encS t) = true := by
  simp [SeqAt.shaped, encS, PyData.canLay0, PyData.canLayAll0, PyData.depth, PyData.depthAll]
theorem any_dec {τ : Type} [DecidableEq τ] (enc : τ → D) (e : ∀ s t, PyData.eqv (enc s) (enc t) = decide (s = t)) (t : τ) (ts : List τ) : ((ts.map enc).any fun z => PyData.eqv z (enc t)) = decide (t ∈ ts) := by
  induction ts with
  | nil => rfl
  | cons a r ih =>
    rw [List.map_cons, List.any_cons, ih, e]
    by_cases h : a = t
    · subst h; simp
    · have h' : ¬ t = a := fun z => h z.symm
      simp [h, h']
theorem m_inT {τ : Type} [DecidableEq τ] (enc : τ → D) (e : ∀ s t, PyData.eqv (enc s) (enc t) = decide (s = t)) (t : τ) (ts : List τ) (h1 : SeqAt.shaped (enc t) = true) (h2 : SeqAt.shaped (.tuple (ts.map enc)) = true) : semC .In (enc t) (.tuple (ts.map enc)) = some (.bool (decide (t ∈ ts))) := by
  show (inD _ _).map _ = _
  simp only [inD, h1, h2, Bool.and_self, if_true, Option.map_some, any_dec enc e]
  rfl
theorem m_notInT {τ : Type} [DecidableEq τ] (enc : τ → D) (e : ∀ s t, PyData.eqv (enc s) (enc t) = decide (s = t)) (t : τ) (ts : List τ) (h1 : SeqAt.shaped (enc t) = true) (h2 : SeqAt.shaped (.tuple (ts.map enc)) = true) : semC .NotIn (enc t) (.tuple (ts.map enc)) = some (.bool (!decide (t ∈ ts))) := by
  show (inD _ _).map _ = _
  simp only [inD, h1, h2, Bool.and_self, if_true, Option.map_some, any_dec enc e]
theorem m_notInB (t : Int × Int) (ts : List (Int × Int)) (h : t ∈ ts) : semC .NotIn (encB t) (.tuple (ts.map encB)) = some (.bool false) := by
  rw [m_notInT encB eqv_B t ts (shpB t) (shpE _ _ fun t => by simp [encB, PyData.canLay0, PyData.canLayAll0, PyData.depth, PyData.depthAll])]
  simp [h]
theorem eq_nil : semC .Eq (.list []) (.list []) = some (.bool true) := by
  have e : semC .Eq (.list []) (.list []) = semEq (.list []) (.list []) := by unfold semC semCmp; rfl
  have n : SeqAt.shaped (.list []) = true := by simp [SeqAt.shaped, PyData.canLay0, PyData.canLayAll0, PyData.depth, PyData.depthAll]
  rw [e]
  simp only [semEq, n, Bool.and_self, if_true, PyData.eqv, PyData.eqvAll]
theorem hd_at {τ : Type} {enc : τ → D} {ts : List τ} {ds : List D} (e : ds = ts.map enc) : ds = ts.map enc := e
theorem nat_of {r : Int} (h : 0 ≤ r) : ∃ j : Nat, r = (j : Int) := ⟨r.toNat, by omega⟩

end LawX

set_option maxRecDepth 100000
set_option maxHeartbeats 2000000
namespace LawX
open PySem PySem.Spec PyProof.Rows L2 Ev
def lt2 (x y : Int × Int) : Prop := x.1 < y.1 ∨ (x.1 = y.1 ∧ x.2 < y.2)
theorem le_pair {x y : Int × Int} (h : lt2 x y) : PySem.W.dataLe false (fun d : D => d) (encB x) (encB y) = true := by
  obtain ⟨a, b⟩ := x
  obtain ⟨c, d⟩ := y
  unfold lt2 at h
  dsimp only at h
  simp [PySem.W.dataLe, PySem.W.sortLe, encB, PySem.W.keyToks, PySem.W.keyToksAll, PyProof.Rows.lexLt, PyProof.Rows.itemLt]
  omega
theorem srt_pairs {cs : List (Int × Int)} (h : cs.Pairwise lt2) : srt (cs.map encB) = cs.map encB := by
  unfold srt
  refine List.mergeSort_of_pairwise ?_
  rw [List.pairwise_map]
  exact h.imp fun h => le_pair h
theorem sort_pairs {cs : List (Int × Int)} (h : cs.Pairwise lt2) (hl : cs.length ≤ 1000000) : semSort [.list (cs.map encB)] = some (.list (cs.map encB)) := by
  have ok : sortOk (cs.map encB) = true := by
    have l := lay_list (ds := cs.map encB) fun x hx => by
      obtain ⟨k, _, rfl⟩ := List.mem_map.mp hx
      exact ⟨rfl, by simp [encB, PyData.depth, PyData.depthAll]⟩
    simp [sortOk, few, hl, l.1, PySem.W.alike, PySem.W.alikeAll, isTup1, encB, PyData.depth, PyData.depthAll]
  simp only [semSort, ok, if_true, srt_pairs h]
theorem nodup2 {cs : List (Int × Int)} (h : cs.Pairwise lt2) : (cs.map fun t => [t.1, t.2]).Nodup := by
  rw [List.Nodup, List.pairwise_map]
  refine h.imp fun {x y} h e => ?_
  unfold lt2 at h
  injection e with e1 e2
  injection e2 with e2 _
  omega
theorem ne_same {ds : List D} (h : ∀ x ∈ ds, x.canLay0 = true ∧ x.depth ≤ 5) : semC .NotEq (.list ds) (.list ds) = some (.bool false) := by
  refine m_neS ?_ rfl
  obtain ⟨h1, h2⟩ := lay_list h
  simp [SeqAt.shaped, PyData.canLay0, h1, PyData.depth]
  omega
/-! how the corners lie -/
theorem hO_anti {sp : Sp5} (h : OkSp sp) {L M : Int} (hlm : L < M) : hO sp M false ≤ hO sp L true := by
  have h1 := h.lu
  have h2 := h.r0
  have h3 := h.q0
  unfold hO
  by_cases c : sp.r = 0
  · rw [if_pos c, if_pos c]
    split <;> split <;> omega
  · rw [if_neg c, if_neg c]
    refine Int.mul_le_mul_of_nonneg_left ?_ h2
    split <;> split <;> split <;> (try split) <;> omega
theorem hO_oc_le {sp : Sp5} (h : OkSp sp) (L : Int) : hO sp L true ≤ hO sp L false := by
  have h3 := h.q0
  unfold hO
  by_cases c : sp.r = 0
  · rw [if_pos c, if_pos c]
    split <;> split <;> simp_all
  · rw [if_neg c, if_neg c]
    exact Int.le_refl _
theorem sum_le_map {α : Type} (l : List α) (f k : α → Int) (h : ∀ x, x ∈ l → f x ≤ k x) : (l.map f).sum ≤ (l.map k).sum := by
  induction l with
  | nil => exact Int.le_refl _
  | cons a r ih =>
    have i1 := ih fun x hx => h x (List.mem_cons_of_mem _ hx)
    have i2 := h a List.mem_cons_self
    rw [List.map_cons, List.map_cons, List.sum_cons, List.sum_cons]
    omega
theorem tot_anti {l : List Sp5} (hk : ∀ sp, sp ∈ l → OkSp sp) (b : Bool) {L M : Int} (hlm : L < M) : totO l M false b ≤ totO l L true b := by
  refine sum_le_map _ _ _ fun sp hs => ?_
  by_cases c : sp.gv = b
  · rw [if_pos c, if_pos c]
    exact hO_anti (hk sp hs) hlm
  · rw [if_neg c, if_neg c]
    exact Int.le_refl _
theorem tot_oc {l : List Sp5} (hk : ∀ sp, sp ∈ l → OkSp sp) (b : Bool) (L : Int) : totO l L true b ≤ totO l L false b := by
  refine sum_le_map _ _ _ fun sp hs => ?_
  by_cases c : sp.gv = b
  · rw [if_pos c, if_pos c]
    exact hO_oc_le (hk sp hs) L
  · rw [if_neg c, if_neg c]
    exact Int.le_refl _
theorem u_le_w {l : List Sp5} (hk : ∀ sp, sp ∈ l → OkSp sp) (b : Bool) (T : Int) : uT l b T ≤ wT l b T := by
  have := tot_oc hk b T
  unfold uT wT
  omega
theorem w_le_u {l : List Sp5} (hk : ∀ sp, sp ∈ l → OkSp sp) (b : Bool) {S T : Int} (h : S < T) : wT l b S ≤ uT l b T := by
  have := tot_anti hk b h
  unfold uT wT
  omega
theorem corn_mem {l : List Sp5} (hk : ∀ sp, sp ∈ l → OkSp sp) {b : Bool} {T : Int} {c : Int × Int} (h : c ∈ cornU l b T) : c.2 = T ∧ uT l b T ≤ c.1 ∧ c.1 ≤ wT l b T := by
  have := u_le_w hk b T
  unfold cornU at h
  rcases List.mem_cons.mp h with e | h
  · subst e
    exact ⟨rfl, Int.le_refl _, this⟩
  · split at h
    · rw [List.mem_singleton] at h
      subst h
      exact ⟨rfl, this, Int.le_refl _⟩
    · cases h
theorem corn_pw {l : List Sp5} (hk : ∀ sp, sp ∈ l → OkSp sp) (b : Bool) : (cornL l b).Pairwise lt2 := by
  unfold cornL
  rw [List.flatMap, List.pairwise_flatten, List.pairwise_map]
  refine ⟨fun c hc => ?_, ?_⟩
  · obtain ⟨T, _, rfl⟩ := List.mem_map.mp hc
    unfold cornU
    split
    · refine List.pairwise_cons.mpr ⟨fun y hy => ?_, List.pairwise_singleton _ _⟩
      rw [List.mem_singleton] at hy
      subst hy
      exact .inl (by dsimp only; omega)
    · exact List.pairwise_singleton _ _
  · refine (sset_lt _).imp fun {S T} hST x hx y hy => ?_
    obtain ⟨x1, x2, x3⟩ := corn_mem hk hx
    obtain ⟨y1, y2, y3⟩ := corn_mem hk hy
    have := w_le_u hk b hST
    unfold lt2
    omega
theorem sum_0 {α : Type} (l : List α) (f : α → Int) (h : ∀ x, x ∈ l → f x = 0) : (l.map f).sum = 0 := by
  induction l with
  | nil => rfl
  | cons a r ih =>
    rw [List.map_cons, List.sum_cons, h a List.mem_cons_self, ih fun x hx => h x (List.mem_cons_of_mem _ hx)]
    rfl
theorem all_nil {l : List Sp5} {b : Bool} (h : plL l b = []) : allT l b = 0 := by
  refine sum_0 _ _ fun sp hs => ?_
  by_cases c : sp.gv = b
  · have : sp.u ∈ plL l b := mem_plL.mpr ⟨sp, hs, c, .inl rfl⟩
    rw [h] at this
    cases this
  · rw [if_neg c]
theorem tot_last {l : List Sp5} (hk : ∀ sp, sp ∈ l → OkSp sp) {b : Bool} {T : Int} (h : ∀ x, x ∈ plL l b → x ≤ T) : totO l T true b = 0 := by
  refine sum_0 _ _ fun sp hs => ?_
  by_cases c : sp.gv = b
  · rw [if_pos c]
    exact hO_top (hk sp hs) (h _ (mem_plL.mpr ⟨sp, hs, c, .inl rfl⟩))
  · rw [if_neg c]
theorem corn_w {l : List Sp5} (hk : ∀ sp, sp ∈ l → OkSp sp) (b : Bool) (T : Int) : ∃ p, cornU l b T = p ++ [(wT l b T, T)] := by
  have := u_le_w hk b T
  unfold cornU
  split
  · exact ⟨[(uT l b T, T)], rfl⟩
  · exact ⟨[], by rw [show uT l b T = wT l b T by omega]; rfl⟩
theorem corn_first {l : List Sp5} (hk : ∀ sp, sp ∈ l → OkSp sp) {b : Bool} (h : plL l b ≠ []) : ∃ T r, cornL l b = (0, T) :: r := by
  cases hp : plL l b with
  | nil => exact absurd hp h
  | cons T r =>
    have pw := sset_lt (lvF (l.filter fun sp => sp.gv == b))
    have hp2 : sset (lvF (l.filter fun sp => sp.gv == b)) = T :: r := hp
    rw [hp2] at pw
    have u0 : uT l b T = 0 := u_first hk fun x hx => by
      rw [hp] at hx
      rcases List.mem_cons.mp hx with e | hx
      · omega
      · have := (List.pairwise_cons.mp pw).1 x hx
        omega
    unfold cornL
    rw [hp, List.flatMap_cons]
    unfold cornU
    rw [u0]
    exact ⟨T, _, rfl⟩
theorem corn_last {l : List Sp5} (hk : ∀ sp, sp ∈ l → OkSp sp) {b : Bool} (h : plL l b ≠ []) : ∃ T p, cornL l b = p ++ [(allT l b, T)] := by
  rcases List.eq_nil_or_concat (plL l b) with hp | ⟨q, T, hp⟩
  · exact absurd hp h
  · have pw := sset_lt (lvF (l.filter fun sp => sp.gv == b))
    have hp2 : sset (lvF (l.filter fun sp => sp.gv == b)) = q ++ [T] := by
      rw [← List.concat_eq_append]
      exact hp
    rw [hp2] at pw
    have t0 : totO l T true b = 0 := tot_last hk fun x hx => by
      have hx : x ∈ q ++ [T] := by
        rw [← hp2]
        exact hx
      rcases List.mem_append.mp hx with hx | hx
      · have := (List.pairwise_append.mp pw).2.2 x hx T (List.mem_singleton.mpr rfl)
        omega
      · rw [List.mem_singleton.mp hx]
        exact Int.le_refl _
    obtain ⟨p, e⟩ := corn_w hk b T
    refine ⟨T, q.flatMap (cornU l b) ++ p, ?_⟩
    unfold cornL
    have hp3 : plL l b = q ++ [T] := hp2
    rw [hp3, List.flatMap_append, List.flatMap_singleton, e, List.append_assoc]
    have : wT l b T = allT l b := by
      unfold wT
      omega
    rw [this]
theorem corn_ne {l : List Sp5} {b : Bool} (h : plL l b = []) : cornL l b = [] := by
  unfold cornL
  rw [h]
  rfl
theorem max_is {ns : List Int} {m : Int} (hm : m ∈ ns) (hx : ∀ x, x ∈ ns → x ≤ m) : semMaxL [.list (ns.map .int)] = some (.int m) := by
  cases ns with
  | nil => cases hm
  | cons n r =>
    have sp := maxI_spec (r := r) (n := n)
    simp only [semMaxL, intsOf_map, Option.bind_some]
    show some (PyData.int _) = _
    congr 2
    have a1 := hx _ sp.1
    have a2 := sp.2 m hm
    omega
/-- the highest corner at a temperature -/
theorem corn_high {l : List Sp5} (hk : ∀ sp, sp ∈ l → OkSp sp) {b : Bool} {c : Int × Int} (hc : c ∈ cornL l b) : semMaxL [.list (((cornL l b).filter fun t => decide (t.2 = c.2)).map fun t => PyData.int t.1)] = some (.int (wT l b c.2)) := by
  obtain ⟨T, hT, hc2⟩ := List.mem_flatMap.mp hc
  obtain ⟨e, _, _⟩ := corn_mem hk hc2
  rw [e]
  have e2 : ((cornL l b).filter fun t => decide (t.2 = T)).map (fun t => PyData.int t.1) = (((cornL l b).filter fun t => decide (t.2 = T)).map (·.1)).map .int := by
    rw [List.map_map]
    rfl
  rw [e2]
  refine max_is ?_ fun x hx => ?_
  · obtain ⟨p, ep⟩ := corn_w hk b T
    refine List.mem_map.mpr ⟨(wT l b T, T), List.mem_filter.mpr ⟨List.mem_flatMap.mpr ⟨T, hT, ?_⟩, decide_eq_true rfl⟩, rfl⟩
    rw [ep]
    exact List.mem_append_right _ (List.mem_singleton.mpr rfl)
  · obtain ⟨y, hy, rfl⟩ := List.mem_map.mp hx
    obtain ⟨hy1, hy2⟩ := List.mem_filter.mp hy
    obtain ⟨S, hS, hy3⟩ := List.mem_flatMap.mp hy1
    obtain ⟨y1, _, y3⟩ := corn_mem hk hy3
    have : y.2 = T := of_decide_eq_true hy2
    have : S = T := by omega
    subst this
    exact y3
/-! the gap moves the givers alone -/
theorem hO_sh (v : Bool) (u l r q d T : Int) (o : Bool) : hO ⟨v, u - d, l - d, r, q⟩ (T - d) o = hO ⟨v, u, l, r, q⟩ T o := by
  unfold hO
  dsimp only
  by_cases c : r = 0
  · rw [if_pos c, if_pos c]
    have c1 : (T - d < u - d) = (T < u) := propext ⟨fun _ => by omega, fun _ => by omega⟩
    have c2 : (u - d = T - d) = (u = T) := propext ⟨fun _ => by omega, fun _ => by omega⟩
    simp only [c1, c2]
  · rw [if_neg c, if_neg c]
    congr 1
    split <;> split <;> split <;> (try split) <;> omega
theorem tot_gap (ss : List (Int × Int × Int)) (bs : List (Int × Int)) (g T : Int) (o b : Bool) : totO (spans ss bs g) (T - if b then g else 0) o b = totO (spans ss bs 0) T o b := by
  unfold totO spans
  rw [List.map_append, List.map_append, List.map_map, List.map_map, List.map_map, List.map_map]
  congr 1
  congr 1
  · refine List.map_congr_left fun t _ => ?_
    obtain ⟨s, e, r⟩ := t
    show (if (decide (e < s)) = b then hO (spS g (s, e, r)) (T - if b then g else 0) o else 0) = if (decide (e < s)) = b then hO (spS 0 (s, e, r)) T o else 0
    by_cases c : e < s
    · rw [decide_eq_true c]
      cases b with
      | false => rfl
      | true =>
        rw [if_pos rfl, if_pos rfl, if_pos rfl]
        have e1 : spS g (s, e, r) = ⟨true, s - g, e - g, r, 0⟩ := by
          unfold spS
          simp only [decide_eq_true c, if_pos c]
          rw [if_neg (by omega)]
        have e2 : spS 0 (s, e, r) = ⟨true, s, e, r, 0⟩ := by
          unfold spS
          simp only [decide_eq_true c, if_pos c, Int.sub_zero]
          rw [if_neg (by omega)]
        rw [e1, e2]
        exact hO_sh _ _ _ _ _ _ _ _
    · rw [decide_eq_false c]
      cases b with
      | true => rfl
      | false =>
        rw [if_pos rfl, if_pos rfl]
        have e1 : spS g (s, e, r) = spS 0 (s, e, r) := by
          unfold spS
          simp only [if_neg c]
        rw [e1]
        show hO _ (T - 0) o = _
        rw [Int.sub_zero]
  · refine List.map_congr_left fun t _ => ?_
    obtain ⟨u, q⟩ := t
    by_cases c : q > 0
    · have e1 : spB g (u, q) = ⟨true, u - g, u - g, 0, q⟩ := by
        show (⟨decide (0 < q), u - (if 0 < q then g else 0), u - (if 0 < q then g else 0), 0, if q < 0 then -q else q⟩ : Sp5) = _
        rw [decide_eq_true c, if_pos c, if_neg (by omega)]
      have e2 : spB 0 (u, q) = ⟨true, u, u, 0, q⟩ := by
        show (⟨decide (0 < q), u - (if 0 < q then 0 else 0), u - (if 0 < q then 0 else 0), 0, if q < 0 then -q else q⟩ : Sp5) = _
        rw [decide_eq_true c, if_pos c, if_neg (by omega), Int.sub_zero]
      show (if (spB g (u, q)).gv = b then hO (spB g (u, q)) (T - if b then g else 0) o else 0) = if (spB 0 (u, q)).gv = b then hO (spB 0 (u, q)) T o else 0
      rw [e1, e2]
      cases b with
      | false => rfl
      | true =>
        rw [if_pos rfl, if_pos rfl, if_pos rfl]
        exact hO_sh _ _ _ _ _ _ _ _
    · have e1 : spB g (u, q) = spB 0 (u, q) := by
        show (⟨decide (0 < q), u - (if 0 < q then g else 0), u - (if 0 < q then g else 0), 0, if q < 0 then -q else q⟩ : Sp5) = ⟨decide (0 < q), u - (if 0 < q then 0 else 0), u - (if 0 < q then 0 else 0), 0, if q < 0 then -q else q⟩
        rw [if_neg (show ¬ 0 < q by omega), if_neg (show ¬ 0 < q by omega)]
      have e2 : (spB 0 (u, q)).gv = false := decide_eq_false (show ¬ 0 < q by omega)
      show (if (spB g (u, q)).gv = b then hO (spB g (u, q)) (T - if b then g else 0) o else 0) = if (spB 0 (u, q)).gv = b then hO (spB 0 (u, q)) T o else 0
      rw [e1, e2]
      cases b with
      | true => rfl
      | false =>
        rw [if_pos rfl, if_pos rfl]
        show hO _ (T - 0) o = _
        rw [Int.sub_zero]
theorem corn_len (l : List Sp5) (b : Bool) : (cornL l b).length ≤ 4 * l.length := by
  have h1 := fnd_len l b (idxL (plL l b))
  rw [fnd_all] at h1
  have h2 : (idxL (plL l b)).length = (plL l b).length := by
    unfold idxL
    rw [List.length_mapIdx]
  have h3 := len_sset (lvF (l.filter fun sp => sp.gv == b))
  rw [lvF_len] at h3
  have h4 := List.length_filter_le (fun sp : Sp5 => sp.gv == b) l
  have h5 : (plL l b).length ≤ 2 * (l.filter fun sp => sp.gv == b).length := h3
  omega
theorem tot_low (ss : List (Int × Int × Int)) (bs : List (Int × Int)) (g : Int) (ok : OkP ss bs g) (b : Bool) : totO (spans ss bs g) (-2000) true b = allT (spans ss bs 0) b := by
  have ok0 : OkP ss bs 0 := okG ok (by omega) (by omega)
  have hk := spans_ok ss bs 0 ok0
  have g0 := ok.g0
  have g1 := ok.g1
  have e := tot_gap ss bs g (-2000 + if b then g else 0) true b
  rw [show (-2000 + if b then g else 0) - (if b then g else 0) = (-2000 : Int) by split <;> omega] at e
  rw [e]
  unfold totO allT
  congr 1
  refine List.map_congr_left fun sp hs => ?_
  by_cases c : sp.gv = b
  · rw [if_pos c, if_pos c]
    have s := sp_ok ss bs 0 ok0 sp hs
    exact hO_below (hk sp hs) (by split <;> omega)
  · rw [if_neg c, if_neg c]
theorem all_nn {l : List Sp5} (hk : ∀ sp, sp ∈ l → OkSp sp) (b : Bool) : 0 ≤ allT l b := by
  have : ((l.map fun _ => (0 : Int))).sum ≤ allT l b := sum_le_map _ _ _ fun sp hs => by
    by_cases c : sp.gv = b
    · rw [if_pos c]
      have h := hk sp hs
      unfold fullS
      split
      · exact h.q0
      · exact Int.mul_nonneg h.r0 (by have := h.lu; omega)
    · rw [if_neg c]
      exact Int.le_refl _
  rw [sum_0 l (fun _ => (0 : Int)) fun _ _ => rfl] at this
  exact this
theorem all_pos {l : List Sp5} (hk : ∀ sp, sp ∈ l → OkSp sp) {sp : Sp5} (hs : sp ∈ l) (h0 : 0 < fullS sp) : 0 < allT l sp.gv := by
  obtain ⟨p, q, rfl⟩ := List.append_of_mem hs
  have a1 := all_nn (l := p) (fun x hx => hk x (List.mem_append_left _ hx)) sp.gv
  have a2 := all_nn (l := q) (fun x hx => hk x (List.mem_append_right _ (List.mem_cons_of_mem _ hx))) sp.gv
  unfold allT at *
  rw [List.map_append, List.sum_append, List.map_cons, List.sum_cons, if_pos rfl]
  omega
theorem corn_two {l : List Sp5} (hk : ∀ sp, sp ∈ l → OkSp sp) {b : Bool} (h : 0 < allT l b) : 2 ≤ (cornL l b).length := by
  have hn : plL l b ≠ [] := fun z => by
    rw [all_nil z] at h
    omega
  obtain ⟨T, r, e1⟩ := corn_first hk hn
  obtain ⟨S, p, e2⟩ := corn_last hk hn
  cases r with
  | cons x y =>
    rw [e1]
    simp
  | nil =>
    rw [e1] at e2
    cases p with
    | nil =>
      injection e2 with e3 _
      injection e3 with e4 _
      omega
    | cons x y =>
      injection e2 with _ e3
      cases y <;> cases e3
theorem corn_many (ss : List (Int × Int × Int)) (bs : List (Int × Int)) (g : Int) (ok : OkP ss bs g) : 2 ≤ (cornL (spans ss bs 0) true).length + (cornL (spans ss bs 0) false).length := by
  have hk : ∀ sp, sp ∈ spans ss bs 0 → OkSp sp := spans_ok ss bs 0 (okG ok (by omega) (by omega))
  have pos : ∃ sp, sp ∈ spans ss bs 0 ∧ 0 < fullS sp := by
    unfold spans
    cases hs : ss with
    | cons t r =>
      refine ⟨spS 0 t, List.mem_append_left _ (List.mem_map_of_mem List.mem_cons_self), ?_⟩
      have o := ok.s t (by rw [hs]; exact List.mem_cons_self)
      obtain ⟨s, e, r⟩ := t
      simp only [OkS] at o
      unfold fullS
      rw [if_neg (show ¬ (spS 0 (s, e, r)).r = 0 from by show ¬ r = 0; omega)]
      refine Int.mul_pos (show 0 < r by omega) ?_
      simp only [spS]
      split <;> split <;> omega
    | nil =>
      cases hb : bs with
      | cons t r =>
        refine ⟨spB 0 t, List.mem_append_right _ (List.mem_map_of_mem List.mem_cons_self), ?_⟩
        have o := ok.b t (by rw [hb]; exact List.mem_cons_self)
        obtain ⟨u, q⟩ := t
        simp only [OkB] at o
        unfold fullS
        rw [if_pos (show (spB 0 (u, q)).r = 0 from rfl)]
        show 0 < if q < 0 then -q else q
        split <;> omega
      | nil =>
        have := ok.ne
        rw [hs, hb] at this
        simp at this
  obtain ⟨sp, hs, h0⟩ := pos
  have h := corn_two hk (all_pos hk hs h0)
  cases hg : sp.gv with
  | true =>
    rw [hg] at h
    omega
  | false =>
    rw [hg] at h
    omega

end LawX

set_option maxRecDepth 100000
set_option maxHeartbeats 6000000
namespace LawX
open PySem PySem.Spec PyProof.Rows L2 Ev
theorem high (S R : D) (ss : List (Int × Int × Int)) (bs : List (Int × Int)) (g : Int) (b : Bool) (c : Int × Int) (L A : D) (hl : (cornL (spans ss bs 0) b).length ≤ 1000) : fLc [11] (iSeq (fVar 4)) (gN 11) (ft (fBin (fBin (fVar 11) (fC (.int 1)) semIx) (fVar 7) (semC .Eq))) (fBin (fVar 11) (fC (.int 0)) semIx) [.val S, .val R, .val (encP ss bs g), .val (.bool b), .val (.tuple ((cornL (spans ss bs 0) b).map encB)), .val (.int (allT (spans ss bs 0) b)), .val (.int c.1), .val (.int c.2), .val L, .val A, .un, .un] = some (.l 12, [.val S, .val R, .val (encP ss bs g), .val (.bool b), .val (.tuple ((cornL (spans ss bs 0) b).map encB)), .val (.int (allT (spans ss bs 0) b)), .val (.int c.1), .val (.int c.2), .val L, .val A, .un, .un] ++ [.own (.list (((cornL (spans ss bs 0) b).filter fun t => decide (t.2 = c.2)).map fun t => PyData.int t.1))]) := by
  refine v_lcF (enc := encB) (ts := cornL (spans ss bs 0) b) (P := fun t => decide (t.2 = c.2)) (y := fun t => PyData.int t.1) (ρ1 := [.val S, .val R, .val (encP ss bs g), .val (.bool b), .val (.tuple ((cornL (spans ss bs 0) b).map encB)), .val (.int (allT (spans ss bs 0) b)), .val (.int c.1), .val (.int c.2), .val L, .val A, .un, .un]) (ρ2 := [.val S, .val R, .val (encP ss bs g), .val (.bool b), .val (.tuple ((cornL (spans ss bs 0) b).map encB)), .val (.int (allT (spans ss bs 0) b)), .val (.int c.1), .val (.int c.2), .val L, .val A, .un, .un]) rfl rfl rfl ?_ (by omega)
  intro t ht acc
  obtain ⟨x, y⟩ := t
  generalize (cornL (spans ss bs 0) b).map encB = Z at *
  generalize allT (spans ss bs 0) b = W at *
  refine f_step (ρ3 := [.val S, .val R, .val (encP ss bs g), .val (.bool b), .val (.tuple Z), .val (.int W), .val (.int c.1), .val (.int c.2), .val L, .val A, .un, .val (.tuple [.int x, .int y]), .own (.list acc)]) (ρ1 := [.val S, .val R, .val (encP ss bs g), .val (.bool b), .val (.tuple Z), .val (.int W), .val (.int c.1), .val (.int c.2), .val L, .val A, .un, .val (.tuple [.int x, .int y]), .own (.list acc)]) (c := decide (y = c.2)) (d := .int x) (p := .v (.int x)) rfl ?_ rfl rfl rfl rfl rfl rfl rfl rfl
  generalize encP ss bs g = P at *
  repeat (first | exists (by first | (with_reducible apply Ev.c_all); intro t ht acc; (with_reducible apply Ev.c_step); (try dsimp only [encS, encB]) | (with_reducible apply Ev.f_all); intro t ht acc; (with_reducible apply Ev.f_step); (try dsimp only [encS, encB]) | (with_reducible apply Ev.s_all); intro t ht; (with_reducible apply Ev.s_step); (try dsimp only [encS, encB]) | (with_reducible apply Ev.a_all); intro t ht; (with_reducible apply Ev.a_step); (try dsimp only [encS, encB])) | sizeOf_list_dec | array_get_dec | array_mem_dec)
theorem turn1 (S R : D) (ss : List (Int × Int × Int)) (bs : List (Int × Int)) (g : Int) (ok : OkP ss bs g) (b : Bool) (hl : (cornL (spans ss bs 0) b).length ≤ 1000) (c : Int × Int) (hc : c ∈ cornL (spans ss bs 0) b) : fKill [6, 7, 8, 9, 10, 11] lb_law_1 [.val S, .val R, .val (encP ss bs g), .val (.bool b), .val (.tuple ((cornL (spans ss bs 0) b).map encB)), .val (.int (allT (spans ss bs 0) b)), .val (.int c.1), .val (.int c.2), .un, .un, .un, .un] = some (.nx [.val S, .val R, .val (encP ss bs g), .val (.bool b), .val (.tuple ((cornL (spans ss bs 0) b).map encB)), .val (.int (allT (spans ss bs 0) b)), .un, .un, .un, .un, .un, .un]) := by
  have hk : ∀ sp, sp ∈ spans ss bs 0 → OkSp sp := spans_ok ss bs 0 (okG ok (by omega) (by omega))
  have hh := corn_high hk hc
  have h10 := high S R ss bs g b c (.int (c.2 - if b then g else 0)) (.int (totO (spans ss bs 0) c.2 true b)) hl
  have gA := givenAbove ss bs g ok (c.2 - if b then g else 0)
  have tg := tot_gap ss bs g c.2 true b
  have hi : semIx (encP ss bs g) (.int 2) = some (.int g) := m_ixt (k := 2) (by omega) rfl rfl
  have ew : allT (spans ss bs 0) b - wT (spans ss bs 0) b c.2 = totO (spans ss bs 0) c.2 true b := by
    unfold wT
    omega
  obtain ⟨x, y⟩ := c
  dsimp only at *
  clear hc hk
  generalize wT (spans ss bs 0) b y = w at *
  generalize totO (spans ss bs 0) y true b = tt at *
  generalize allT (spans ss bs 0) b = W at *
  generalize ((cornL (spans ss bs 0) b).filter fun t => decide (t.2 = y)).map (fun t => PyData.int t.1) = FC at *
  generalize (cornL (spans ss bs 0) b).map encB = Z at *
  cases b with
  | true =>
    rw [if_pos rfl] at *
    rw [tg] at gA
    generalize totO (spans ss bs g) (y - g) true false = t2 at *
    generalize encP ss bs g = P at *
    unfold lb_law_1
    repeat (first | exists (by first | ((with_reducible apply Ev.s2_at (hi)) <;> rfl) | ((with_reducible apply e2_at h10); rfl) | ((with_reducible apply call_at hh); rfl)) | exists (by first | (with_reducible apply Ev.c_all); intro t ht acc; (with_reducible apply Ev.c_step); (try dsimp only [encS, encB]) | (with_reducible apply Ev.f_all); intro t ht acc; (with_reducible apply Ev.f_step); (try dsimp only [encS, encB]) | (with_reducible apply Ev.s_all); intro t ht; (with_reducible apply Ev.s_step); (try dsimp only [encS, encB]) | (with_reducible apply Ev.a_all); intro t ht; (with_reducible apply Ev.a_step); (try dsimp only [encS, encB])) | sizeOf_list_dec | array_get_dec | exists (by first | (with_reducible apply k_any) | ((with_reducible apply v_at (gA)); rfl) | (with_reducible apply v_fn)) | array_mem_dec)
  | false =>
    rw [if_neg (by decide)] at *
    rw [Int.sub_zero] at *
    rw [tg] at gA
    generalize totO (spans ss bs g) y true true = t2 at *
    generalize encP ss bs g = P at *
    unfold lb_law_1
    repeat (first | exists (by first | ((with_reducible apply Ev.s2_at (hi)) <;> rfl) | ((with_reducible apply e2_at h10); rfl) | ((with_reducible apply call_at hh); rfl)) | exists (by first | (with_reducible apply Ev.c_all); intro t ht acc; (with_reducible apply Ev.c_step); (try dsimp only [encS, encB]) | (with_reducible apply Ev.f_all); intro t ht acc; (with_reducible apply Ev.f_step); (try dsimp only [encS, encB]) | (with_reducible apply Ev.s_all); intro t ht; (with_reducible apply Ev.s_step); (try dsimp only [encS, encB]) | (with_reducible apply Ev.a_all); intro t ht; (with_reducible apply Ev.a_step); (try dsimp only [encS, encB])) | sizeOf_list_dec | array_get_dec | exists (by first | (with_reducible apply k_any) | ((with_reducible apply v_at (gA)); rfl) | (with_reducible apply v_fn)) | array_mem_dec)
theorem turn2 (S R : D) (ss : List (Int × Int × Int)) (bs : List (Int × Int)) (g : Int) (ok : OkP ss bs g) (b : Bool) : fKill [3, 4, 5, 6, 7, 8, 9, 10, 11] lb_law_2 [.val S, .val R, .val (encP ss bs g), .val (.bool b), .un, .un, .un, .un, .un, .un, .un, .un] = some (.nx [.val S, .val R, .val (encP ss bs g), .un, .un, .un, .un, .un, .un, .un, .un, .un]) := by
  have hk : ∀ sp, sp ∈ spans ss bs 0 → OkSp sp := spans_ok ss bs 0 (okG ok (by omega) (by omega))
  have eC := curve_ ss bs g ok b
  have gA := givenAbove ss bs g ok (-2000)
  have hlen : (cornL (spans ss bs 0) b).length < 64 := by
    have h1 := corn_len (spans ss bs 0) b
    rw [sp_len] at h1
    have h2 := ok.sl
    have h3 := ok.bl
    omega
  have lp := for_same (f := fKill [6, 7, 8, 9, 10, 11] lb_law_1) (gg := gT (gsCons (gN 6) (gsCons (gN 7) gsNil)) 2) (m := 12) (enc := encB) (ρ := [.val S, .val R, .val (encP ss bs g), .val (.bool b), .val (.tuple ((cornL (spans ss bs 0) b).map encB)), .val (.int (allT (spans ss bs 0) b)), .un, .un, .un, .un, .un, .un]) (cornL (spans ss bs 0) b) (fun c hc => ⟨_, rfl, turn1 S R ss bs g ok b (by omega) c hc⟩)
  have gA2 : ∃ x y, F_given_above.g [encP ss bs g, .int (-2000)] = some (.tuple [.int x, .int y], [.none, .none]) ∧ (if b then x else y) = allT (spans ss bs 0) b := by
    refine ⟨_, _, gA, ?_⟩
    have := tot_low ss bs g ok b
    cases b with
    | true => exact this
    | false => exact this
  obtain ⟨gx, gy, gA2, gz⟩ := gA2
  by_cases hn : plL (spans ss bs 0) b = []
  · have e0 := corn_ne hn
    have a0 := all_nil hn
    rw [e0] at eC
    have eC : F_curve.g [encP ss bs g, .bool b] = some (.tuple [], [.none, .none]) := eC
    rw [a0] at gz
    have nn : semC .NotEq (.tuple []) (.tuple []) = some (.bool false) := m_neNil (ds := []) (fun _ z => nomatch z)
    clear lp gA hk
    generalize encP ss bs g = P at *
    cases b with
    | true =>
      have gz : gx = 0 := gz
      subst gz
      unfold lb_law_2 ib_law_1
      repeat (first | exists (by first | ((with_reducible apply Ev.s2_at (nn)) <;> rfl)) | exists (by first | (with_reducible apply Ev.c_all); intro t ht acc; (with_reducible apply Ev.c_step); (try dsimp only [encS, encB]) | (with_reducible apply Ev.f_all); intro t ht acc; (with_reducible apply Ev.f_step); (try dsimp only [encS, encB]) | (with_reducible apply Ev.s_all); intro t ht; (with_reducible apply Ev.s_step); (try dsimp only [encS, encB]) | (with_reducible apply Ev.a_all); intro t ht; (with_reducible apply Ev.a_step); (try dsimp only [encS, encB])) | sizeOf_list_dec | array_get_dec | exists (by first | (with_reducible apply k_any) | ((with_reducible apply v_at (eC)); rfl) | ((with_reducible apply v_at (gA2)); rfl) | (with_reducible apply Ev.i_kill) | (with_reducible apply Ev.i_fz) | (with_reducible apply v_fn)) | array_mem_dec)
      done
    | false =>
      have gz : gy = 0 := gz
      subst gz
      unfold lb_law_2 ib_law_1
      repeat (first | exists (by first | ((with_reducible apply Ev.s2_at (nn)) <;> rfl)) | exists (by first | (with_reducible apply Ev.c_all); intro t ht acc; (with_reducible apply Ev.c_step); (try dsimp only [encS, encB]) | (with_reducible apply Ev.f_all); intro t ht acc; (with_reducible apply Ev.f_step); (try dsimp only [encS, encB]) | (with_reducible apply Ev.s_all); intro t ht; (with_reducible apply Ev.s_step); (try dsimp only [encS, encB]) | (with_reducible apply Ev.a_all); intro t ht; (with_reducible apply Ev.a_step); (try dsimp only [encS, encB])) | sizeOf_list_dec | array_get_dec | exists (by first | (with_reducible apply k_any) | ((with_reducible apply v_at (eC)); rfl) | ((with_reducible apply v_at (gA2)); rfl) | (with_reducible apply Ev.i_kill) | (with_reducible apply Ev.i_fz) | (with_reducible apply v_fn)) | array_mem_dec)
      done
  · obtain ⟨T0, r0, cf⟩ := corn_first hk hn
    obtain ⟨T1, p1, cl⟩ := corn_last hk hn
    have pw := corn_pw hk b
    have nn : semC .NotEq (.tuple ((cornL (spans ss bs 0) b).map encB)) (.tuple []) = some (.bool true) := by
      rw [m_neNil (layB _), cf]
      rfl
    have i0 : semIx (.tuple ((cornL (spans ss bs 0) b).map encB)) (.int 0) = some (.tuple [.int 0, .int T0]) := m_ixt (k := 0) (by omega) rfl (by rw [cf]; rfl)
    have i1 : semIx (.tuple ((cornL (spans ss bs 0) b).map encB)) (.int (-1)) = some (.tuple [.int (allT (spans ss bs 0) b), .int T1]) := ix_last (by rw [List.getLast?_map, cl, List.getLast?_concat]; rfl)
    have so := sort_pairs pw (by omega)
    have ne := ne_same (layB (cornL (spans ss bs 0) b))
    have eS : ∀ ρ : Er, fVar 4 ρ = some (.v (.tuple ((cornL (spans ss bs 0) b).map encB)), ρ) → fLenSetT (fVar 4) ρ = some (.v (.int (((cornL (spans ss bs 0) b).map encB).length : Int)), ρ) := fun ρ hρ => by
      have e : (cornL (spans ss bs 0) b).map encB = ((cornL (spans ss bs 0) b).map fun t => [t.1, t.2]).map fun ns => PyData.tuple (ns.map .int) := by
        rw [List.map_map]
        rfl
      have := v_lensetT (fe := fVar 4) (ρ := ρ) (ρ1 := ρ) (h := .v (.tuple ((cornL (spans ss bs 0) b).map encB))) (ks := (cornL (spans ss bs 0) b).map fun t => [t.1, t.2]) hρ (by rw [← e]; rfl) (by rw [List.length_map]; omega) (nodup2 pw)
      rw [List.length_map] at this ⊢
      exact this
    clear gA hk pw cf cl
    have hll : ((cornL (spans ss bs 0) b).map encB).length ≤ 1000 := by
      rw [List.length_map]
      omega
    generalize allT (spans ss bs 0) b = W at *
    generalize (cornL (spans ss bs 0) b).map encB = Z at *
    generalize encP ss bs g = P at *
    cases b with
    | true =>
      have gz : gx = W := gz
      subst gz
      unfold lb_law_2 ib_law_1
      repeat (first | exists (by first | ((with_reducible apply Ev.s2_at (nn)) <;> rfl) | ((with_reducible apply Ev.s2_at (i0)) <;> rfl) | ((with_reducible apply Ev.s2_at (i1)) <;> rfl) | ((with_reducible apply sort_at so); rfl) | ((with_reducible apply Ev.s2_at (ne)) <;> rfl) | ((with_reducible apply eS); rfl) | ((with_reducible apply Ev.run_at2 (lp)) <;> rfl)) | exists (by first | (with_reducible apply Ev.c_all); intro t ht acc; (with_reducible apply Ev.c_step); (try dsimp only [encS, encB]) | (with_reducible apply Ev.f_all); intro t ht acc; (with_reducible apply Ev.f_step); (try dsimp only [encS, encB]) | (with_reducible apply Ev.s_all); intro t ht; (with_reducible apply Ev.s_step); (try dsimp only [encS, encB]) | (with_reducible apply Ev.a_all); intro t ht; (with_reducible apply Ev.a_step); (try dsimp only [encS, encB])) | sizeOf_list_dec | array_get_dec | exists (by first | (with_reducible apply k_any) | ((with_reducible apply v_at (eC)); rfl) | ((with_reducible apply v_at (gA2)); rfl) | (with_reducible apply Ev.i_kill) | (with_reducible apply Ev.i_fz) | (with_reducible apply v_fn)) | array_mem_dec)
      done
    | false =>
      have gz : gy = W := gz
      subst gz
      unfold lb_law_2 ib_law_1
      repeat (first | exists (by first | ((with_reducible apply Ev.s2_at (nn)) <;> rfl) | ((with_reducible apply Ev.s2_at (i0)) <;> rfl) | ((with_reducible apply Ev.s2_at (i1)) <;> rfl) | ((with_reducible apply sort_at so); rfl) | ((with_reducible apply Ev.s2_at (ne)) <;> rfl) | ((with_reducible apply eS); rfl) | ((with_reducible apply Ev.run_at2 (lp)) <;> rfl)) | exists (by first | (with_reducible apply Ev.c_all); intro t ht acc; (with_reducible apply Ev.c_step); (try dsimp only [encS, encB]) | (with_reducible apply Ev.f_all); intro t ht acc; (with_reducible apply Ev.f_step); (try dsimp only [encS, encB]) | (with_reducible apply Ev.s_all); intro t ht; (with_reducible apply Ev.s_step); (try dsimp only [encS, encB]) | (with_reducible apply Ev.a_all); intro t ht; (with_reducible apply Ev.a_step); (try dsimp only [encS, encB])) | sizeOf_list_dec | array_get_dec | exists (by first | (with_reducible apply k_any) | ((with_reducible apply v_at (eC)); rfl) | ((with_reducible apply v_at (gA2)); rfl) | (with_reducible apply Ev.i_kill) | (with_reducible apply Ev.i_fz) | (with_reducible apply v_fn)) | array_mem_dec)
      done
theorem plain (ns : List Int) : ∃ outs, F_law.g [.list (ns.map .int)] = some (.bool true, outs) := by
  obtain ⟨ss, bs, g, k1, s1, d1, ok, eP⟩ := problem ns 0 4078 0
  have e1 := curve_ ss bs g ok true
  have e2 := curve_ ss bs g ok false
  have cm := corn_many ss bs g ok
  have lp := for_same (f := fKill [3, 4, 5, 6, 7, 8, 9, 10, 11] lb_law_2) (gg := gN 3) (m := 12) (enc := PyData.bool) (ρ := [.val (.list (ns.map .int)), .val (encR ns k1 s1 d1), .val (encP ss bs g), .un, .un, .un, .un, .un, .un, .un, .un, .un]) [true, false] (fun b _ => ⟨_, rfl, turn2 (.list (ns.map .int)) (encR ns k1 s1 d1) ss bs g ok b⟩)
  have l1 : (((cornL (spans ss bs 0) true).map encB).length : Int) + (((cornL (spans ss bs 0) false).map encB).length : Int) ≥ 2 := by
    rw [List.length_map, List.length_map]
    omega
  clear cm
  generalize (cornL (spans ss bs 0) true).map encB = Z1 at *
  generalize (cornL (spans ss bs 0) false).map encB = Z2 at *
  generalize encP ss bs g = P at *
  have hr : semC .GtE (.int ((Z1.length : Int) + (Z2.length : Int))) (.int 2) = some (.bool true) := by
    rw [← decide_eq_true l1]
    exact m_ge
  apply Exists.intro
  unfold F_law fb_law
  dsimp only
  repeat (first | exists (by first | ((with_reducible apply Ev.s2_at (hr)) <;> rfl) | ((with_reducible apply Ev.run_at2 (lp)) <;> rfl)) | exists (by first | (with_reducible apply Ev.c_all); intro t ht acc; (with_reducible apply Ev.c_step); (try dsimp only [encS, encB]) | (with_reducible apply Ev.f_all); intro t ht acc; (with_reducible apply Ev.f_step); (try dsimp only [encS, encB]) | (with_reducible apply Ev.s_all); intro t ht; (with_reducible apply Ev.s_step); (try dsimp only [encS, encB]) | (with_reducible apply Ev.a_all); intro t ht; (with_reducible apply Ev.a_step); (try dsimp only [encS, encB])) | sizeOf_list_dec | array_get_dec | exists (by first | (with_reducible apply Ev.i_kill) | (with_reducible apply Ev.i_fz) | ((with_reducible apply v_at (eP)); rfl) | ((with_reducible apply v_at (e1)); rfl) | ((with_reducible apply v_at (e2)); rfl) | (with_reducible apply v_fn)) | array_mem_dec)

end LawX

open PySem PySem.W PyProof.Rows
theorem PySem.Challenge.cw_pinchworks_k78_across_curves_holds : PySem.Challenge.rw_pinchworks_k78_across_curves.Holds :=
  LawX.hEnd fun ns _ => LawX.plain ns
